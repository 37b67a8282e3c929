import PyProof.Rows.All
import Wide.All
import OpenK.AllK
import Wide.FinOn
import PySem.Challenge.RW_no0090_01
open PySem PySem.W PyProof.Rows
set_option Elab.async false
set_option maxRecDepth 100000

namespace Mine
def keepS : Stmt → Bool
  | .Assign .. => false
  | _ => true
def view : Program := { PySem.Challenge.rw_no0090_01.row.toRowW.1 with main := { PySem.Challenge.rw_no0090_01.row.toRowW.1.main with body := PySem.Challenge.rw_no0090_01.row.toRowW.1.main.body.filter keepS } }
local macro_rules | `(tactic| o_head $H:term) => `(tactic| (
  refine holds_open (q := view) (loose := [Str.ofString "PressError"]) (Xt := fun s => xlAt view [] s && recOk (RowW.records (OpenRow.toRowW PySem.Challenge.rw_no0090_01.row)) s) (XP := XL view []) (Yf := Hook.obs $H) (Ya := Hook.val $H) (YP := Hook.says $H) (N := 3038) ?hl (Hook.of $H) (Hook.keeps $H) (fun s e => xl_of s (Bool.and_eq_true_iff.mp e).1) XL.keeps (by rfl) (by rfl) (by rfl) (fun s e => recFacts_of (Bool.and_eq_true_iff.mp e).2) (by rfl) (by first | assumption | decide +kernel) (by decide +kernel) ⟨rfl, rfl, rfl, rfl, rfl, by decide +kernel⟩ ?hw ?hc
  (case hl => intro w; delta openEnds; delta fencedOpening topFrom; (rw [PySem.W.Fast.te10274390034422433532, PySem.W.Fast.te1435165496053646825, PySem.W.Fast.te14289696077712309145, PySem.W.Fast.te14082659384304107361, PySem.W.Fast.te8920871248978507458, PySem.W.Fast.te5923862056798008813, PySem.W.Fast.te14364793385576792824, PySem.W.Fast.te4187177175401517315]); kernel_rfl)))
set_option maxHeartbeats 8000000 in
open_top hd for PySem.Challenge.rw_no0090_01
end Mine

open PySem.Calls PySem.Spec PyProof.V
namespace Mine

-- Base
inductive Pick (p : Addr × Obj) : List (Addr × Obj) → List (Addr × Obj) → Prop
  | head {r} : Pick p (p :: r) r
  | tail {q r r'} : Pick p r r' → Pick p (q :: r) (q :: r')
theorem Pick.sub {p : Addr × Obj} {l r : List (Addr × Obj)} (h : Pick p l r) : ∀ q ∈ p :: r, q ∈ l := by
  induction h with
  | head => exact fun _ h => h
  | tail _ ih =>
    intro q hq
    rcases List.mem_cons.mp hq with rfl | hq
    · exact .tail _ (ih _ (.head _))
    · rcases List.mem_cons.mp hq with rfl | hq
      · exact .head _
      · exact .tail _ (ih _ (.tail _ hq))
theorem News.pick1 {h₀ h : Heap} {L : Addr} {l r : List (Addr × Obj)} {p : Addr × Obj} (N : News h₀ L h l) (P : Pick p l r) : News h₀ L h (p :: r) := fun q hq => N q (P.sub q hq)
theorem News.pick2 {h₀ h : Heap} {L : Addr} {l r r' : List (Addr × Obj)} {p q : Addr × Obj} (N : News h₀ L h l) (P : Pick p l r) (P' : Pick q r r') : News h₀ L h (p :: q :: r') := fun x hx => by
  rcases List.mem_cons.mp hx with rfl | hx
  · exact N _ (P.sub _ (.head _))
  · exact N _ (P.sub _ (.tail _ (P'.sub _ hx)))
def tellD (a b c v l : Int) : Int := if 3 < v then v - 3 else if 0 < l then (if v = 1 then a else if v = 2 then b else c) else (if v = 1 then b else if v = 2 then c else a - 1)
def tellP (v l : Int) : Int := if 3 < v then 3 else if 0 < l then v - 1 else v
def t2 (a b v l : Int) : Int := if v = 1 ∧ 0 < l then b else a
def t3 (b c v l : Int) : Int := if v = 1 ∨ (v = 2 ∧ 0 < l) then c else b
def dueF (a b c far l : Int) : Int := if tellD a b c 1 l = far then 1 else if tellD a b c 2 l = far then 2 else if tellD a b c 3 l = far then 3 else far + 3
theorem fm_lo (a b : Int) (h : 0 < b) : 0 ≤ a.fmod b := Int.fmod_nonneg_of_pos a h
theorem fm_hi (a b : Int) (h : 0 < b) : a.fmod b < b := Int.fmod_lt_of_pos a h
theorem fd_le (a b : Int) (h : 0 ≤ a) (hb : 0 < b) : 0 ≤ a.fdiv b ∧ a.fdiv b ≤ a := by
  rw [Int.fdiv_eq_ediv_of_nonneg _ (by omega)]
  exact ⟨Int.ediv_nonneg h (by omega), Int.ediv_le_self _ h⟩

-- Enter
structure RestK (h₀ : Heap) (L : Addr) (g : Heap) (rest : List (Addr × Obj)) : Prop where
  at_ : News h₀ L g rest
theorem exitS {h₀ g h' : Heap} {L L' : Addr} {m' : Str → Option Value} {l rest : List (Addr × Obj)} (N : News h₀ L h' l) (F' : Fr g L' h' m') (R : RestK h₀ L g rest) : News h₀ L h' (l ++ rest) := fun p hp => by
  rcases List.mem_append.mp hp with hp | hp
  · exact N p hp
  · exact ⟨F'.keep _ _ (R.at_ p hp).1, (R.at_ p hp).2⟩
section
variable {prog : Program} {w : World} {A₀ A : Around} {E : Value → Shared → Prop} {s : Shared} {base h₀ : Heap} {outer : List Env} {L : Addr} {m : Str → Option Value} {env : Env} {small rest : List (Addr × Obj)}
theorem code_defS {K : Frag} {p : Program} {loose : List Str} {mean : ExcName → Option Value} {mg mb : Str → Option Value} {R : Result → Shared → Prop} {name qual : Str} {params : Arguments} {body : List Stmt} {scope : Scope} {dV kV doc pm cdv ct oc : Value} {an od : Option Addr} {osl : Array (Option Value)} {f : Addr} {args : Args} {binds : List (Str × Value)}
    (B : Below A₀ base outer h₀) (F : Fr h₀ L s.heap m) (X₀ : K.In h₀) (N : News h₀ L s.heap (small ++ rest)) (hoff : ∀ q ∈ small, ∀ p ∈ rest, p.1 ≠ q.1) (T : Top p loose mean mg mb h₀) (hA : A.frames = some (env :: outer)) (hf : env.frame = some L) (hke : env.scope.kind = .function)
    (ho : K.lookup f = some ⟨oc, od, .func (fnOf name qual params body scope dV kV doc pm an cdv ct), osl⟩) (hcd : codeIn K cdv qual = true) (hroom : A.depth < recursionLimit)
    (hbind : BindsTo s (fnOf name qual params body scope dV kV doc pm an cdv ct) args binds) (hloc : ∀ y ∈ binds, scope.names.lookup y.1 = some .local)
    (h : ∀ g L' h₁, RestK h₀ L g rest → Fr h₀ L g m → Fr g L' h₁ (fun y => binds.reverse.lookup y) → News g L' h₁ small → Below A base (env :: outer) g → K.In g → Top p loose mean mg mb g →
      wpAny (model prog w) (A.deeper (envOf qual scope L' f cdv)) (execs body (envOf qual scope L' f cdv))
        (fun fl s' => LeaveK h₀ L m g R (match fl with | .ret v => v | _ => .none) s')
        (fun e s' => wpAny (model prog w) (A.deeper (envOf qual scope L' f cdv)) (leaving (envOf qual scope L' f cdv) e) (fun _ s'' => R (.error e) s'') (fun e' s'' => R (.error e') s'') s')
        { s with heap := h₁, toks := s.toks + binds.length })
    (hco : scope.isCoroutine = false) (hgen : scope.isGenerator = false) (hk : scope.kind = .function)
    (hcell : ∀ x ∈ scope.names, x.2 ≠ .cell) : codeAny (model prog w) A (.call (.ref f) args) R s := by
  refine code_defG (news := small) B F X₀ (fun p hp => N p (List.mem_append_left _ hp)) T hA hf hke ho hcd hroom hbind hloc (fun g L' h₁ FG F' N' B' X' T' G => h g L' h₁ ⟨fun p hp => ?_⟩ FG F' N' B' X' T') hco hgen hk hcell
  have hN := N p (List.mem_append_right _ hp)
  refine ⟨G _ _ hN.1 fun hm => ?_, hN.2⟩
  obtain ⟨q, hq, e⟩ := List.mem_map.mp hm
  exact hoff q hq p hp e.symm
theorem code_defCS {K : Frag} {p : Program} {loose : List Str} {mean : ExcName → Option Value} {mg mb : Str → Option Value} {R : Result → Shared → Prop} {name qual : Str} {params : Arguments} {body : List Stmt} {scope : Scope} {dV kV doc pm cdv ct oc : Value} {an od : Option Addr} {osl : Array (Option Value)} {f : Addr} {args : Args} {binds : List (Str × Value)}
    (B : Below A₀ base outer h₀) (F : Fr h₀ L s.heap m) (X₀ : K.In h₀) (N : News h₀ L s.heap (small ++ rest)) (hoff : ∀ q ∈ small, ∀ p ∈ rest, p.1 ≠ q.1) (T : Top p loose mean mg mb h₀) (hA : A.frames = some (env :: outer)) (hf : env.frame = some L) (hke : env.scope.kind = .function)
    (ho : K.lookup f = some ⟨oc, od, .func (fnOf name qual params body scope dV kV doc pm an cdv ct), osl⟩) (hcd : codeIn K cdv qual = true) (hroom : A.depth < recursionLimit)
    (hbind : BindsTo s (fnOf name qual params body scope dV kV doc pm an cdv ct) args binds) (hkind : (binds.all fun y => scope.names.lookup y.1 == some .local || scope.names.lookup y.1 == some .cell) = true)
    (hnd : ((cellsFrom 0 scope.names []).map (·.1)).Nodup)
    (h : ∀ g L' h₁ tk cells, RestK h₀ L g rest → Fr h₀ L g m → Fr g L' h₁ (bindL (envOfC qual scope L' f cdv).kindOf binds fun _ => none) → News g L' h₁ (cells ++ small) →
      CellsAre (bindC (envOfC qual scope L' f cdv).kindOf binds fun _ => none) (cellsFrom (L' + 1) scope.names []) cells → Below A base (env :: outer) g → K.In g → Top p loose mean mg mb g → (∀ p ∈ small, p.1 < L') → (∀ p ∈ rest, p.1 < L') →
      wpAny (model prog w) (A.deeper (envOfC qual scope L' f cdv)) (execs body (envOfC qual scope L' f cdv))
        (fun fl s' => LeaveK h₀ L m g R (match fl with | .ret v => v | _ => .none) s')
        (fun e s' => wpAny (model prog w) (A.deeper (envOfC qual scope L' f cdv)) (leaving (envOfC qual scope L' f cdv) e) (fun _ s'' => R (.error e) s'') (fun e' s'' => R (.error e') s'') s')
        { s with heap := h₁, toks := tk })
    (hco : scope.isCoroutine = false) (hgen : scope.isGenerator = false) (hk : scope.kind = .function) : codeAny (model prog w) A (.call (.ref f) args) R s := by
  have Ns : News h₀ L s.heap small := fun p hp => N p (List.mem_append_left _ hp)
  have hlt : ∀ p ∈ small ++ rest, p.1 < s.heap.objs.size := fun p hp => Heap.lt_size (N p hp).1
  obtain ⟨FG, BG, st, out⟩ := groundX (R := R) B F Ns hA hf hke
  have hR : RestK h₀ L (hideAll s.heap (small.map (·.1))) rest := ⟨fun p hp => by
    have hN := N p (List.mem_append_right _ hp)
    refine ⟨hideAll_get _ hN.1 fun hm => ?_, hN.2⟩
    obtain ⟨q, hq, e⟩ := List.mem_map.mp hm
    exact hoff q hq p hp e.symm⟩
  refine codeAny_call_function hroom ((X₀.keeps F.keep) _ _ ho) rfl hco hgen rfl (codeRec_of (X₀.keeps F.keep) hcd) (hbind _ _ _ _ ?_)
  refine wpAny_newFunctionEnv_cells hk (kindsX hkind _) fun env' he s' x => ?_
  cases he
  have T' := T.keeps st
  refine ⟨(T.nolimit.keeps F.keep).keeps x.toInCall.keep, codeAny_func ?_⟩
  obtain ⟨h₁, tk, rfl, -⟩ := x.done
  have kp := x.toInCall.keep
  have hm := cellsFrom_names scope.names 0 (s.heap.objs.size + 1) [] [] rfl
  obtain ⟨cells, NC, Y⟩ := Cl.news (h₀ := s.heap) (Nat.le_refl _) fun n c hc => ⟨x.cell n c (lookup_of_mem_nodup (hm ▸ hnd) hc), x.above n c hc⟩
  have hid : ∀ b : Addr, s.heap.get? b = none → (hideAll s.heap (small.map (·.1))).get? b = none := fun b e => by
    cases q : (hideAll s.heap (small.map (·.1))).get? b with
    | none => rfl
    | some o => rw [of_hideAll _ q] at e; cases e
  have N₁ : News (hideAll s.heap (small.map (·.1))) s.heap.objs.size h₁ (cells ++ small) := fun p hp => by
    rcases List.mem_append.mp hp with hp | hp
    · exact ⟨(NC p hp).1, (NC p hp).2.1, hid _ (NC p hp).2.2⟩
    · exact ⟨kp _ _ (Ns p hp).1, Nat.ne_of_lt (Heap.lt_size (Ns p hp).1), hideAll_none _ (List.mem_map_of_mem hp)⟩
  have F₁ : Fr (hideAll s.heap (small.map (·.1))) s.heap.objs.size h₁ _ := ⟨x.toInCall.ns, fun b o e => kp b o (of_hideAll _ e), Nat.le_of_eq (hideAll_size _ _)⟩
  exact wpAny_mono (h _ _ h₁ tk cells hR FG F₁ N₁ Y BG (X₀.keeps st) T' (fun p hp => hlt p (List.mem_append_left _ hp)) fun p hp => hlt p (List.mem_append_right _ hp)) (fun _ _ hl => out _ _ hl) fun _ _ y => y
end
structure Apart (x : Addr) (l : List (Addr × Obj)) : Prop where
  ne : ∀ p ∈ l, p.1 ≠ x
theorem Apart.ne1 {x a : Addr} {o : Obj} {l : List (Addr × Obj)} (h : Apart x l) (hm : (a, o) ∈ l) : a ≠ x := h.ne _ hm
theorem Apart.ne2 {x a : Addr} {o : Obj} {l : List (Addr × Obj)} (h : Apart x l) (hm : (a, o) ∈ l) : x ≠ a := Ne.symm (h.ne _ hm)
theorem apart_rest {h₀ g h' : Heap} {L L' D : Addr} {o : Obj} {l rest : List (Addr × Obj)} (R : RestK h₀ L g rest) (N : News g L' h' l) (hm : (D, o) ∈ l) : ∀ p ∈ rest, p.1 ≠ D := fun p hp e => by
  have h := (N _ hm).2.2
  have h' := (R.at_ p hp).1
  rw [e, h] at h'
  cases h'
theorem own_above {L : Addr} {rest : List (Addr × Obj)} (h : AllLt L rest) (l : List Addr) (hl : ∀ b ∈ l, @LE.le Nat _ L b) : OwnOff rest l := fun p hp b hb => by
  have h1 := kst_ltOf h p hp
  have h2 := hl b hb
  exact Nat.ne_of_lt (Nat.lt_of_lt_of_le h1 h2)
structure Above (x : Addr) (l : List (Addr × Obj)) : Prop where
  lt : ∀ p ∈ l, @LT.lt Nat _ p.1 x
theorem Above.ne1 {x a : Addr} {o : Obj} {l : List (Addr × Obj)} (h : Above x l) (hm : (a, o) ∈ l) : a ≠ x := Nat.ne_of_lt (h.lt _ hm)
theorem Above.ne2 {x a : Addr} {o : Obj} {l : List (Addr × Obj)} (h : Above x l) (hm : (a, o) ∈ l) : x ≠ a := Ne.symm (h.ne1 hm)
theorem off_1 {D : Addr} : ∀ {l : List (Addr × Obj)}, LCg.Off1 D l → Apart D l
  | [], _ => ⟨fun _ h => nomatch h⟩
  | _ :: _, h => ⟨List.forall_mem_cons.mpr ⟨h.1, (off_1 h.2).ne⟩⟩
theorem off_3 {I C D : Addr} : ∀ {l : List (Addr × Obj)}, LCg.Off3 I C D l → Apart I l ∧ Apart C l ∧ Apart D l
  | [], _ => ⟨⟨fun _ h => nomatch h⟩, ⟨fun _ h => nomatch h⟩, ⟨fun _ h => nomatch h⟩⟩
  | _ :: _, h => ⟨⟨List.forall_mem_cons.mpr ⟨h.1.1, (off_3 h.2).1.ne⟩⟩, ⟨List.forall_mem_cons.mpr ⟨h.1.2.1, (off_3 h.2).2.1.ne⟩⟩, ⟨List.forall_mem_cons.mpr ⟨h.1.2.2, (off_3 h.2).2.2.ne⟩⟩⟩
structure Diff (x y : Addr) : Prop where
  ne : x ≠ y
theorem Diff.ne2 {x y : Addr} (h : Diff x y) : y ≠ x := Ne.symm h.ne
structure Over (x : Addr) (l : List Addr) : Prop where
  lt : ∀ a ∈ l, @LT.lt Nat _ a x
theorem Over.ne1 {x a : Addr} {l : List Addr} (h : Over x l) (hm : a ∈ l) : a ≠ x := Nat.ne_of_lt (h.lt _ hm)
theorem Over.ne2 {x a : Addr} {l : List Addr} (h : Over x l) (hm : a ∈ l) : x ≠ a := Ne.symm (h.ne1 hm)
theorem Over.step {x y : Addr} {l : List Addr} (h : Over y l) (hl : @LT.lt Nat _ y x) : Over x (y :: l) := ⟨List.forall_mem_cons.mpr ⟨hl, fun a ha => Nat.lt_trans (h.lt a ha) hl⟩⟩
theorem Over.three {x a b c : Addr} (ha : @LT.lt Nat _ a x) (hb : @LT.lt Nat _ b x) (hc : @LT.lt Nat _ c x) : Over x [a, b, c] := ⟨List.forall_mem_cons.mpr ⟨ha, List.forall_mem_cons.mpr ⟨hb, List.forall_mem_cons.mpr ⟨hc, List.forall_mem_nil _⟩⟩⟩⟩
theorem open_range {h₀ : Heap} {L : Addr} {m : Str → Option Value} {x : Str} {i : Nat} {ys : List Value} {news : List (Addr × Obj)} {WP : Addr → Obj → Addr → Obj → Addr → (Str → Option Value) → Heap → Nat → (Value → Shared → Prop) → Prop} {a : Int} (k : ∀ (t : Tok) I oI C oC D m₂ h tk E', LCg.NsObj oC m₂ → m₂ x = some (.int (a + (i : Int)) t) → Fr h₀ L h m → News h₀ L h ((I, oI) :: (C, oC) :: (D, LCg.lst ys) :: news) → Apart I news → Apart C news → Apart D news → Diff I C → Diff I D → Diff C D → WP I oI C oC D m₂ h tk E') :
    ∀ v I oI C oC D m₂ h tk E', (∃ t, v = .int (a + (i : Int)) t) → LCg.NsObj oC m₂ → m₂ x = some v → Fr h₀ L h m → News h₀ L h ((I, oI) :: (C, oC) :: (D, LCg.lst ys) :: news) → LCg.Off3 I C D news → (@Ne Nat I C ∧ @Ne Nat I D ∧ @Ne Nat C D) → WP I oI C oC D m₂ h tk E' := by
  intro v I oI C oC D m₂ h tk E' hv hC hx F N off ne
  obtain ⟨t, rfl⟩ := hv
  exact k t I oI C oC D m₂ h tk E' hC hx F N (off_3 off).1 (off_3 off).2.1 (off_3 off).2.2 ⟨ne.1⟩ ⟨ne.2.1⟩ ⟨ne.2.2⟩
theorem open_item {h₀ : Heap} {L : Addr} {m : Str → Option Value} {x : Str} {i : Nat} {ys : List Value} {news : List (Addr × Obj)} {WP : Addr → Obj → Addr → Obj → Addr → (Str → Option Value) → Heap → Nat → (Value → Shared → Prop) → Prop} {its : Array Value} {v₀ : Value} (e : its[i]? = some v₀) (k : ∀ I oI C oC D m₂ h tk E', LCg.NsObj oC m₂ → m₂ x = some v₀ → Fr h₀ L h m → News h₀ L h ((I, oI) :: (C, oC) :: (D, LCg.lst ys) :: news) → Apart I news → Apart C news → Apart D news → Diff I C → Diff I D → Diff C D → WP I oI C oC D m₂ h tk E') :
    ∀ v I oI C oC D m₂ h tk E', its[i]? = some v → LCg.NsObj oC m₂ → m₂ x = some v → Fr h₀ L h m → News h₀ L h ((I, oI) :: (C, oC) :: (D, LCg.lst ys) :: news) → LCg.Off3 I C D news → (@Ne Nat I C ∧ @Ne Nat I D ∧ @Ne Nat C D) → WP I oI C oC D m₂ h tk E' := by
  intro v I oI C oC D m₂ h tk E' hv hC hx F N off ne
  rw [e] at hv
  cases hv
  exact k I oI C oC D m₂ h tk E' hC hx F N (off_3 off).1 (off_3 off).2.1 (off_3 off).2.2 ⟨ne.1⟩ ⟨ne.2.1⟩ ⟨ne.2.2⟩

-- Exc
/-- an own exception's object -/
abbrev excO (C : Addr) (dx : Option Addr) (t : Addr) : Obj := { cls := .ref C, dict := dx, data := .fields #[.ref t, .none, .none, .none, .bool false, .none] }
section
variable {M : Model} {A : Around} {E : Value → Shared → Prop} {h : Heap} {g : Array GenState} {d : Drawn} {t : Nat} {os : OsState}
variable {nm q : Str} {C N e : Addr} {bs bm : List Value} {hdct : Bool} {sn : List Str} {sub : List Value} {ab : Bool} {col : Option Bool} {dd : Option Addr} {k0 k1 k2 k3 k5 : Option Value} {newId : String} {oe : Obj}
theorem ve_check {rest : List Value} {Q : Unit → Shared → Prop} (hC : h.get? C = some (excClassObj nm q C N bs bm hdct sn sub ab col dd k0 k1 k2 k3 k5 newId)) (hcB : (Value.ref C :: bm).contains (.type "ValueError") = true)
    (he : h.get? e = some oe) (hcls : oe.cls = .ref C) (hq : Q () ⟨h, g, d, t, os⟩) : wpAny M A (checkBuiltinCall "ValueError.__init__" ⟨.ref e :: rest, []⟩) Q E ⟨h, g, d, t, os⟩ := by
  have V := PySem.F.excBase_ValueError
  have hshort := V.noStar
  simp only [checkBuiltinCall, V.initKind, V.initSplit, V.initRow]
  repeat (first | (with_reducible refine wpAny_loadPart_at he ?_; rw [hcls]) | with_reducible refine wpAny_loadPart_at hC ?_ | (with_reducible refine wpAny_isSubtype_exc hC ?_; rw [hcB]) | wp_step)
  refine wpAny_onRaise ?_
  rw [show ∀ (a b : String) (n : Nat), Bind.check ⟨.positional, "*", "ValueError", .self, [⟨"args", .varPos, false⟩]⟩ a b n (List.map (fun x => x.fst) ({ pos := .ref e :: rest } : Args).kw) = pure () from fun a b n => check_star_args _ _ _ _ _ _]
  exact wpAny_pure hq
end
section
variable {prog : Program} {w : World} {A : Around} {E : Value → Shared → Prop} {s : Shared} {h₀ : Heap} {L e t0 C N : Addr} {m : Str → Option Value} {r : List (Addr × Obj)} {K : Frag}
variable {nm q : Str} {bs bm : List Value} {hdct : Bool} {sn : List Str} {sub : List Value} {ab : Bool} {col : Option Bool} {dd : Option Addr} {k0 k1 k2 k3 k5 : Option Value} {newId : String}
theorem ve_init {v : Value} {Q : Value → Shared → Prop} (F : Fr h₀ L s.heap m) (N₁ : News h₀ L s.heap ((e, excO C none t0) :: r)) (hoff : ∀ p ∈ r, p.1 ≠ e) (hC : h₀.get? C = some (excClassObj nm q C N bs bm hdct sn sub ab col dd k0 k1 k2 k3 k5 newId)) (hcB : (Value.ref C :: bm).contains (.type "ValueError") = true)
    (h : ∀ t h', Fr h₀ L h' m → News h₀ L h' ((e, excO C none t) :: r) → (∀ b o, b ≠ e → s.heap.get? b = some o → h'.get? b = some o) → Q .none { s with heap := h' }) :
    wpAny (model prog w) A (call (.builtin "ValueError.__init__") [.ref e, v]) Q E s := by
  have V := PySem.F.excBase_ValueError
  have he := (N₁ _ (.head _)).1
  have hC₁ := F.keep _ _ hC
  obtain ⟨hp, g, d, tk, os⟩ := s
  refine wpAny_call (codeAny_call_builtin V.init.plain V.initEntry (ve_check hC₁ hcB he rfl ?_))
  unfold Builtin.«BaseException.__init__»
  dsimp only
  rw [if_neg (by simp)]
  unfold newTuple Builtin.BaseException.bexcPut
  have he₁ := Heap.get?_push_of_some (h := hp) { cls := .type "tuple", data := .seq #[v] } he
  refine wpAny_bind (wpAny_newObj_type (wpAny_bind (wpAny_bind (wpAny_field he₁ rfl (i := 0) rfl (wpAny_bind (wpAny_setField he₁ rfl (by show 0 < 6; decide) ?_))))) (by size_fits))
  refine wpAny_letGo (wpAny_pure ?_)
  have F' := F.push { cls := .type "tuple", data := .seq #[v] }
  have N' := N₁.grown (h' := hp.push { cls := .type "tuple", data := .seq #[v] }) fun b o q => Heap.get?_push_of_some _ q
  obtain ⟨F₂, N₂⟩ := news_upd (pre := []) (post := r) (d := e) (o := excO C none t0) (o' := excO C none hp.objs.size) (f := Obj.mapFields (·.setIfInBounds 0 (.ref hp.objs.size))) F' N' (fun _ h => nomatch h) hoff rfl rfl
  refine h hp.objs.size _ F₂ N₂ fun b o hb q => ?_
  rw [Heap.get?_update_other _ _ (Ne.symm hb)]
  exact Heap.get?_push_of_some _ q
theorem exc_store {P : Addr} {name : Str} {v : Value} {Q : Unit → Shared → Prop} (F : Fr h₀ L s.heap m) (N₁ : News h₀ L s.heap ((e, excO C none t0) :: r)) (hoff : ∀ p ∈ r, p.1 ≠ e) (X : K.In h₀)
    (hC : h₀.get? C = some (excClassObj nm q C N bs [.ref P, .type "ValueError", .type "Exception", .type "BaseException", .type "object"] true sn sub ab col dd k0 k1 k2 k3 k5 newId))
    (hs : findIn K (.ref C) "__setattr__" = some (some (.builtin "object.__setattr__"))) (ha : findIn K (.ref C) name = some none) (hsub : subIn K (.ref C) (.type "object") = some true)
    (h : ∀ dx h' tk', Fr h₀ L h' m → News h₀ L h' ((e, excO C (some dx) t0) :: r) → (∀ b o, b ≠ e → s.heap.get? b = some o → h'.get? b = some o) → Q () { s with heap := h', toks := tk' }) :
    wpAny (model prog w) A (setAttr (.ref e) name v) Q E s := by
  have SF := PySem.F.store_ValueError
  have he : s.heap.get? e = some (excO C none t0) := (N₁ _ (.head _)).1
  have hC₁ := F.keep _ _ hC
  have X₁ := X.keeps F.keep
  have I : InstAt s.heap e (excO C none t0) C none := ⟨he, rfl, rfl, trivial⟩
  refine set_plain X₁ I hs ?_
  obtain ⟨hp, g, d, tk, os⟩ := s
  refine codeAny_call_builtin SF.slot.plain SF.entry (@check_slot (model prog w) _ _ _ "object.__setattr__" "object" "__setattr__" (.ref e) [.str name tk, v] [] _ SF.kind SF.split (I.type.andThen (looks_subIn X₁ hsub)) (SF.args (.ref e) (.str name tk) v) ?_)
  have hpass := SF.passes (.ref e)
  unfold Builtin.«object.__setattr__»
  repeat (first | rw [refuse_eq] | (rw [refuseLoop_ref, refuseLoop_ref, hpass]) | (with_reducible refine wpAny_loadPart_at he ?_) | with_reducible refine wpAny_mroOf_exc hC₁ ?_ | (with_reducible refine wpAny_loadPart_at hC₁ ?_) | (with_reducible refine (looks_findIn X₁ ha).here ?_) | wp_step)
  refine (looks_findIn X₁ ha) _ _ _ _ (fun _ _ q => q) ?_
  have hdn : (excO C none t0).dict = none := rfl
  have hc0 : (excO C none t0).cls = .ref C := rfl
  have hdt : ∃ x, (excO C none t0).data = .fields x := ⟨_, rfl⟩
  have hsl : (excO C none t0).slots = #[] := rfl
  generalize hO : excO C none t0 = o at he hdn hc0 hdt hsl
  repeat (first | (with_reducible refine wpAny_loadPart_at he ?_; rw [hc0]) | (with_reducible refine wpAny_loadPart_at he ?_) | (with_reducible refine wpAny_loadPart_at hC₁ ?_) | rw [hc0] | wp_step)
  have hx₁ : (hp.push { cls := .type "dict", data := .dict #[] }).get? e = some o := Heap.get?_push_of_some _ he
  have helt : e < hp.objs.size := Heap.lt_size he
  have hxs : e ≠ hp.objs.size := Nat.ne_of_lt helt
  obtain ⟨oc, od, odt, osl⟩ := o
  obtain ⟨fx, hfx⟩ := hdt
  cases hdn
  cases hfx
  cases hc0
  cases hsl
  dsimp only
  rw [if_neg (by simp [typeHasDict])]
  refine wpAny_bind (wpAny_alloc' ?_)
  refine wpAny_bind (wpAny_update' hx₁ ?_)
  refine wpAny_pure ?_
  have hgd : ((hp.push { cls := .type "dict", data := .dict #[] }).update e fun o => { cls := o.cls, dict := some hp.objs.size, data := o.data, slots := o.slots }).get? hp.objs.size
      = some { cls := .type "dict", data := .dict #[] } :=
    (Heap.get?_update_ne _ _ _ _ hxs.symm).trans (Heap.get?_push_at rfl rfl)
  have hnd : ((hp.push { cls := .type "dict", data := .dict #[] }).update e fun o => { cls := o.cls, dict := some hp.objs.size, data := o.data, slots := o.slots }).Ns hp.objs.size (fun _ => none) :=
    ⟨_, #[], _, hgd, rfl, fun e he => absurd he (by simp), fun _ => rfl⟩
  show wpAny _ _ (Builtin.ObjectAttr.storeInDict hp.objs.size (.str name tk) name v) _ _ _
  unfold Builtin.ObjectAttr.storeInDict Builtin.ObjectAttr.newKeyGuard
  refine wpAny_bind (wpAny_pure (wpAny_bind (wpAny_nsSet1 (Heap.Ns1.of_empty hnd) fun h' hn' hs => ?_)))
  obtain ⟨oD, esD, epD, hoD, hdD, hcD⟩ := hn'.count (Within.cons name v Within.nil)
  refine wpAny_bind (wpAny_lookBehind hoD (by rw [hdD]; exact pastItsLine_dict (Nat.le_trans hcD (by rw [List.length_cons, List.length_nil, sizeLine_eq]; omega))) ?_)
  wp_walk
  have F' := F.push { cls := .type "dict", data := .dict #[] }
  have N' := N₁.grown (h' := hp.push { cls := .type "dict", data := .dict #[] }) fun b o q => Heap.get?_push_of_some _ q
  obtain ⟨F₂, N₂⟩ := news_upd (pre := []) (post := r) (d := e) (o := excO C none t0) (o' := excO C (some hp.objs.size) t0) (f := fun o => { cls := o.cls, dict := some hp.objs.size, data := o.data, slots := o.slots }) F' N' (fun _ h => nomatch h) hoff rfl rfl
  refine h hp.objs.size h' _ (F₂.sameNew (a := hp.objs.size) F.ns.lt hs) (fun p hp' => ?_) fun b o hb q => ?_
  · refine ⟨(hs.2 p.1 ?_).trans (N₂ p hp').1, (N₂ p hp').2⟩
    rcases List.mem_cons.mp hp' with rfl | q
    · exact hxs
    · exact Nat.ne_of_lt (Heap.lt_size (N₁ p (.tail _ q)).1)
  · exact (hs.2 b (Nat.ne_of_lt (Heap.lt_size q))).trans ((Heap.get?_update_ne _ _ _ _ hb).trans (Heap.get?_push_of_some _ q))
end

-- Exc2
section
variable {prog : Program} {w : World} {A : Around} {E : Value → Shared → Prop} {h : Heap} {g : Array GenState} {d : Drawn} {t : Nat} {os : OsState} {K : Frag}
variable {nm q : Str} {C N P : Addr} {bs : List Value} {hdct : Bool} {sn : List Str} {sub : List Value} {ab : Bool} {col : Option Bool} {dd : Option Addr} {k0 k1 k2 k3 k5 : Option Value} {bm : List Value}
abbrev VE (P : Addr) : List Value := [.ref P, .type "ValueError", .type "Exception", .type "BaseException", .type "object"]
theorem ve_check_new {M : Model} {rest : List Value} {Q : Unit → Shared → Prop} (hC : h.get? C = some (excClassObj nm q C N bs bm hdct sn sub ab col dd k0 k1 k2 k3 k5 "ValueError.__new__"))
    (hcont : (Value.ref C :: bm).contains (.type "ValueError") = true)
    (hq : Q () ⟨h, g, d, t, os⟩) : wpAny M A (checkBuiltinCall "ValueError.__new__" ⟨.ref C :: rest, []⟩) Q E ⟨h, g, d, t, os⟩ := by
  have F := PySem.F.excBase_ValueError
  have hstar := F.noStar
  simp only [checkBuiltinCall, F.newKind, F.newSplit, F.newRow]
  repeat (first | refine wpAny_loadPart_at hC ?_ | (refine wpAny_isSubtype_exc hC ?_; rw [hcont]) | refine wpAny_staticBase_exc hC ?_ | refine wpAny_madeBy_exc hC ?_ | simp only [bne_self_eq_false, Bool.false_eq_true, if_false] | wp_step)
  exact hq
theorem ve_new {R : Result → Shared → Prop} {rest : List Value} (hC : h.get? C = some (excClassObj nm q C N bs bm hdct sn sub ab col dd k0 k1 k2 k3 k5 "ValueError.__new__"))
    (hcB : (Value.ref C :: bm).contains (.type "ValueError") = true) (hcA : (Value.ref C :: bm).contains (.type "AttributeError") = false) (hcN : (Value.ref C :: bm).contains (.type "NameError") = false)
    (hq : R (.ok (.ret (.ref (h.objs.size + 1)))) ⟨(h.push { cls := .type "tuple", data := .seq rest.toArray }).push
      { cls := .ref C, data := .fields #[.ref h.objs.size, .none, .none, .none, .bool false, .none] }, g, d, t, os⟩) (hrest : rest.length ≤ sizeLine := by size_fits) :
    codeAny (model prog w) A (.builtin "ValueError.__new__" ⟨.ref C :: rest, []⟩) R ⟨h, g, d, t, os⟩ := by
  have F := PySem.F.excBase_ValueError
  have hends := F.ends
  refine codeAny_builtinAt F.entry ?_
  unfold Builtin.«BaseException.__new__»
  refine PySem.wpAt_bind ?_
  show PySem.wpAt _ _ _ (stack >>= _) _ _ _
  refine PySem.wpAt_bind (PySem.wpAt_stack fun p below => PySem.wpAt_of_wpAny ?_)
  wp_walk
  refine PySem.wpAt_of_wpAny ?_
  rw [F.owner]
  repeat (first | with_reducible refine wpAny_madeHere_exc F.canon hC ?_ | with_reducible refine wpAny_loadPart_at hC ?_ | (with_reducible refine wpAny_isSubtype_exc hC ?_; first | rw [hcB] | rw [hcA] | rw [hcN]) | wp_step)
  show R _ _
  rw [Heap.size_push]
  exact hq
theorem ve_type_call {rest : List Value} {fI : Addr} {oI : Obj} {Q : Fin → Shared → Prop}
    (hC : h.get? C = some (excClassObj nm q C N bs bm hdct sn sub ab col dd k0 k1 k2 k3 k5 "ValueError.__new__"))
    (hcB : (Value.ref C :: bm).contains (.type "ValueError") = true) (hcA : (Value.ref C :: bm).contains (.type "AttributeError") = false) (hcN : (Value.ref C :: bm).contains (.type "NameError") = false)
    (X : K.In h) (hi : findIn K (.ref C) "__init__" = some (some (.ref fI)))
    (hfI : h.get? fI = some oI) (hfc : oI.cls = .type "function")
    (hq : ∀ h' e, Heap.MadeExcOf h h' e (.ref C) rest →
      wpAny (model prog w) A (call (.ref fI) (.ref e :: rest)) (fun r s' => r = .none ∧ Q (.done (.ret (.ref e))) s') E ⟨h', g, d, t, os⟩) (hrest : rest.length ≤ sizeLine := by size_fits) :
    wpAny (model prog w) A (Builtin.«type.__call__» ⟨.ref C :: rest, []⟩) Q E ⟨h, g, d, t, os⟩ := by
  have F := PySem.F.excBase_ValueError
  repeat (first | with_reducible refine wpAny_loadPart_at hC ?_ | with_reducible refine wpAny_madeBy_exc hC ?_ | wp_step)
  refine codeAny_call_builtin_code (Code.quiet_builtin _ F.quiet) (ve_check_new hC hcB ?_)
  refine ve_new hC hcB hcA hcN ?_ hrest
  show wpAny _ _ _ _ _ _
  have hC₁ := Heap.get?_push_of_some { cls := .ref C, data := .fields #[.ref h.objs.size, .none, .none, .none, .bool false, .none] }
    (Heap.get?_push_of_some { cls := .type "tuple", data := .seq rest.toArray } hC)
  have hfI₁ := Heap.get?_push_of_some { cls := .ref C, data := .fields #[.ref h.objs.size, .none, .none, .none, .bool false, .none] }
    (Heap.get?_push_of_some { cls := .type "tuple", data := .seq rest.toArray } hfI)
  have hX₁ : K.In ((h.push { cls := .type "tuple", data := .seq rest.toArray }).push { cls := .ref C, data := .fields #[.ref h.objs.size, .none, .none, .none, .bool false, .none] }) :=
    X.keeps fun b o e => Heap.get?_push_of_some _ (Heap.get?_push_of_some _ e)
  have hget : ((h.push { cls := .type "tuple", data := .seq rest.toArray }).push
      { cls := .ref C, data := .fields #[.ref h.objs.size, .none, .none, .none, .bool false, .none] }).get? (h.objs.size + 1) = some
      { cls := .ref C, data := .fields #[.ref h.objs.size, .none, .none, .none, .bool false, .none] } := by heap_get
  have hcC : (Value.ref C :: bm).contains (.ref C) = true := by simp
  unfold isInstance
  repeat (first | with_reducible refine wpAny_loadPart_at hget ?_ | (with_reducible refine wpAny_isSubtype_exc hC₁ ?_; rw [hcC]) | wp_step)
  show wpAny _ _ (typeLookup (.ref C) _) _ _ _
  refine (looks_findIn hX₁ hi) _ _ _ _ (fun _ _ q => q) ?_
  refine wpAny_holding (wpAny_bind ?_)
  unfold bindSpecial
  refine wpAny_bind (wpAny_typeOf (T := "function") ⟨_, hfI₁, hfc⟩ ?_)
  rw [if_pos (by decide)]
  refine wpAny_pure (wpAny_bind (wpAny_mono (hq _ (h.objs.size + 1) ⟨fun b o hb => Heap.get?_push_of_some _ (Heap.get?_push_of_some _ hb), Heap.get?_none_of_le (Nat.le_succ _), h.objs.size, hget, Heap.get?_none_of_le (Nat.le_refl _), ?_⟩) (fun r s' hr => ?_) fun _ _ x => x))
  · exact Heap.get?_push_of_some _ (Heap.get?_push_at rfl rfl)
  · obtain ⟨rfl, hQ⟩ := hr
    wp_walk
    exact hQ
theorem ve_call {rest : List Value} {fI : Addr} {oI : Obj} {Q : Value → Shared → Prop}
    (hC : h.get? C = some (excClassObj nm q C N bs bm hdct sn sub ab col dd k0 k1 k2 k3 k5 "ValueError.__new__"))
    (hcB : (Value.ref C :: bm).contains (.type "ValueError") = true) (hcA : (Value.ref C :: bm).contains (.type "AttributeError") = false) (hcN : (Value.ref C :: bm).contains (.type "NameError") = false)
    (X : K.In h) (hi : findIn K (.ref C) "__init__" = some (some (.ref fI)))
    (hfI : h.get? fI = some oI) (hfc : oI.cls = .type "function")
    (hq : ∀ h' e, Heap.MadeExcOf h h' e (.ref C) rest →
      wpAny (model prog w) (A.under (.builtin "type.__call__" ⟨.ref C :: rest, []⟩)) (call (.ref fI) (.ref e :: rest)) (fun r s' => r = .none ∧ Q (.ref e) s') E ⟨h', g, d, t, os⟩) (hrest : rest.length ≤ sizeLine := by size_fits) :
    wpAny (model prog w) A (call (.ref C) rest) Q E ⟨h, g, d, t, os⟩ := by
  have f1 := tc_lookup
  have f2 := tc_bind (.ref C)
  have hT : (⟨h, g, d, t, os⟩ : Shared).TypeIs (.ref C) "type" := ⟨_, hC, rfl⟩
  refine wpAny_call (codeAny_of_tree ?_)
  show wpAny _ _ (callAny (.ref C) _) _ _ _
  repeat (any_goals (first | assumption | with_reducible refine wpAny_loadPart_at hC ?_ | wp_step))
  refine ⟨rfl, ?_⟩
  refine codeAny_call_builtin_at (Code.quiet_builtin _ (by decide +kernel)) entry_typeCall (wpAny_check_type_call_sub hC (ve_type_call (hrest := hrest) hC hcB hcA hcN X hi hfI hfc fun h' e hm => ?_))
  exact hq h' e hm
end
section
variable {prog : Program} {w : World} {A : Around} {E : Value → Shared → Prop} {s : Shared} {K : Frag} {h₀ : Heap} {L : Addr} {m : Str → Option Value} {news : List (Addr × Obj)}
variable {nm q : Str} {C N P : Addr} {bs : List Value} {hdct : Bool} {sn : List Str} {sub : List Value} {ab : Bool} {col : Option Bool} {dd : Option Addr} {k0 k1 k2 k3 k5 : Option Value}
/-- the call of an own exception's class whose __init__ is a def: the object is made, and the def is called -/
theorem call_exc {v : Value} {fI : Addr} {oI : Obj} {Q : Value → Shared → Prop} (F : Fr h₀ L s.heap m) (X₀ : K.In h₀) (N₁ : News h₀ L s.heap news)
    (hC : h₀.get? C = some (excClassObj nm q C N bs (VE P) hdct sn sub ab col dd k0 k1 k2 k3 k5 "ValueError.__new__")) (hi : findIn K (.ref C) "__init__" = some (some (.ref fI)))
    (hfI : h₀.get? fI = some oI) (hfc : oI.cls = .type "function")
    (h : ∀ e t h', Fr h₀ L h' m → News h₀ L h' ((e, excO C none t) :: news) → (∀ p ∈ news, p.1 ≠ e) →
      codeAny (model prog w) (A.under (.builtin "type.__call__" ⟨[.ref C, v], []⟩)) (.call (.ref fI) ⟨[.ref e, v], []⟩) (InitBack e fun r s' => match r with | .ok (.ret v) => Q v s' | .ok _ => False | .error e => E e s') { s with heap := h' }) :
    wpAny (model prog w) A (call (.ref C) [v]) Q E s := by
  obtain ⟨hp, g, d, tk, os⟩ := s
  refine ve_call (F.keep _ _ hC) (by simp [VE]) (by simp [VE]) (by simp [VE]) (X₀.keeps F.keep) hi (F.keep _ _ hfI) hfc fun h' e hm => ?_
  obtain ⟨t, he, -, -⟩ := hm.there
  have hnew : ∀ b o, hp.get? b = some o → b ≠ e := fun b o q z => by rw [z, hm.new] at q; cases q
  have N' : News h₀ L h' ((e, excO C none t) :: news) := News.more (F.grownK hm.keeps) (N₁.grown hm.keeps) he (fun es n q => by cases q) (by
    cases q : h₀.get? e with
    | none => rfl
    | some o => exact absurd rfl (hnew _ _ (F.keep _ _ q)))
  refine wpAny_call ?_
  have z := h e t h' (F.grownK hm.keeps) N' (fun p hp => hnew _ _ (N₁ p hp).1)
  exact z
end

-- Exc3
section
variable {M : Model} {A : Around} {E : Value → Shared → Prop} {env : Env}
variable {nm q : Str} {C N : Addr} {bs bm : List Value} {hdct : Bool} {sn : List Str} {sub : List Value} {ab : Bool} {col : Option Bool} {dd : Option Addr} {k0 k1 k2 k3 k5 : Option Value} {newId : String}
variable {nm' q' : Str} {P N' : Addr} {bs' bm' : List Value} {hdct' : Bool} {sn' : List Str} {sub' : List Value} {ab' : Bool} {col' : Option Bool} {dd' : Option Addr} {l0 l1 l2 l3 l5 : Option Value} {newId' : String}
theorem raiseStmt_own {s : Shared} {x : Sem Value} {Q : Flow → Shared → Prop} (hbase : bm.contains (.type "BaseException") = true) (hh : A.handled = none)
    (h : wpAny M A x (fun v s₁ => ∃ e dx t, v = .ref e ∧ s₁.heap.get? C = some (excClassObj nm q C N bs bm hdct sn sub ab col dd k0 k1 k2 k3 k5 newId) ∧
      s₁.heap.get? e = some (excO C dx t) ∧ E (.ref e) s₁) E s) :
    wpAny M A (raiseStmt env (some x) none) Q E s := by
  have hcB : (Value.ref C :: bm).contains (.type "BaseException") = true := by rw [List.contains_cons, hbase, Bool.or_true]
  unfold raiseStmt
  refine wpAny_bind (wpAny_mono h (fun v s₁ h₁ => ?_) fun _ _ x => x)
  obtain ⟨e, dx, t, rfl, hC, he, hE⟩ := h₁
  obtain ⟨hp, g, d, tk, os⟩ := s₁
  repeat (first | with_reducible refine wpAny_loadPart_at he ?_ | with_reducible refine wpAny_loadPart_at hC ?_ | (with_reducible refine wpAny_isSubtype_exc hC ?_; rw [hcB]) | wp_step)
  exact wpAny_raiseNew_none hh hE
theorem excMatches_parent {h : Heap} {g : Array GenState} {d : Drawn} {t : Nat} {os : OsState} {e : Addr} {oe : Obj} {Q : Bool → Shared → Prop}
    (hC : h.get? C = some (excClassObj nm q C N bs bm hdct sn sub ab col dd k0 k1 k2 k3 k5 newId)) (he : h.get? e = some oe) (hcls : oe.cls = .ref C)
    (hP : h.get? P = some (excClassObj nm' q' P N' bs' bm' hdct' sn' sub' ab' col' dd' l0 l1 l2 l3 l5 newId')) (hbase : bm'.contains (.type "BaseException") = true) (hsub : (Value.ref C :: bm).contains (.ref P) = true)
    (hq : Q true ⟨h, g, d, t, os⟩) : wpAny M A (excMatches (.ref e) (.ref P)) Q E ⟨h, g, d, t, os⟩ := by
  have hcB : (Value.ref P :: bm').contains (.type "BaseException") = true := by rw [List.contains_cons, hbase, Bool.or_true]
  have f := tc_notTuple
  unfold excMatches
  repeat (first | (with_reducible refine wpAny_loadPart_at he ?_; rw [hcls]) | with_reducible refine wpAny_loadPart_at hP ?_ | with_reducible refine wpAny_loadPart_at hC ?_ | (with_reducible refine wpAny_isSubtype_exc hP ?_; rw [hcB]) | (with_reducible refine wpAny_isSubtype_exc hC ?_; rw [hsub]) | wp_step)
  exact hq
end
def RaiseQ (K : Frag) (C : Addr) (E : Value → Shared → Prop) (v : Value) (s₁ : Shared) : Prop := ∃ e dx t, v = .ref e ∧ s₁.heap.get? e = some (excO C dx t) ∧ K.In s₁.heap ∧ E (.ref e) s₁
theorem raiseQ {K : Frag} {C e t : Addr} {dx : Option Addr} {E : Value → Shared → Prop} {s₁ : Shared} (he : s₁.heap.get? e = some (excO C dx t)) (X : K.In s₁.heap) (h : E (.ref e) s₁) : RaiseQ K C E (.ref e) s₁ := ⟨e, dx, t, rfl, he, X, h⟩
section
variable {prog : Program} {w : World} {A : Around} {E : Value → Shared → Prop} {s : Shared} {env : Env} {K : Frag}
theorem raise_own {C : Addr} {c : Expr} {pos : Pos} {Q : Flow → Shared → Prop} (hk : ktsIn K C "BaseException" = true) (hh : A.handled = none)
    (h : wpAny (model prog w) A (eval c env) (RaiseQ K C E) E s) : wpAny (model prog w) A (exec (.Raise (some c) none pos) env) Q E s := by
  rw [arm_exec_Raise]
  have key : ∀ (x : Sem Value), wpAny (model prog w) A x (RaiseQ K C E) E s → wpAny (model prog w) A (raiseStmt env (some x) none) Q E s := fun x hx => by
    unfold raiseStmt
    refine wpAny_bind (wpAny_mono hx (fun v s₁ h₁ => ?_) fun _ _ x => x)
    obtain ⟨e, dx, t, rfl, he, X, hE⟩ := h₁
    obtain ⟨nm, qn, N, bs, bm, hdct, sn, sub, ab, col, dd, k0, k1, k2, k3, k5, newId, hC, hbase, -⟩ := kts_cls X hk
    have z := raiseStmt_own (M := model prog w) (env := env) (x := pure (.ref e)) (Q := Q) (s := s₁) hbase hh (wpAny_pure ⟨e, dx, t, rfl, hC, he, hE⟩)
    unfold raiseStmt at z
    exact z
  refine wpAny_bind (wpAny_standAt (key _ ?_))
  refine wpAny_bind (wpAny_mono h (fun v s₃ h₃ => wpAny_bind (wpAny_standAt (wpAny_pure h₃))) fun _ _ x => x)
end
section
variable {M : Model} {A : Around} {E : Value → Shared → Prop} {s' : Shared} {base g : Heap} {outer : List Env} {L a e C t : Addr} {dx : Option Addr} {m : Str → Option Value} {name : Str} {scope : Scope} {cd : Value} {Q : Unit → Shared → Prop} {news : List (Addr × Obj)}
theorem leave_O (K : Below A base outer g) (F : Fr g L s'.heap m) (N : News g L s'.heap ((e, excO C dx t) :: news)) (hoff : ∀ p ∈ news, p.1 ≠ e)
    (hQ : ∀ h', RaisedSN base g outer e (.ref C) news h' → g.UpToSlots h' → Q () { s' with heap := h' }) (hk : scope.kind = .function := by rfl) :
    wpAny M (A.deeper (envOf name scope L a cd)) (leaving (envOf name scope L a cd) (.ref e)) Q E s' := by
  have he : s'.heap.get? e = some (excO C dx t) := (N _ (.head _)).1
  have K' := K.push (name := name) (a := a) (cd := cd) F hk
  have hin : ∀ env ∈ (envOf name scope L a cd :: outer), ∀ b, env.frame = some b → b ∈ e :: (envOf name scope L a cd :: outer).filterMap (·.frame) := fun env he b hb => .tail _ (List.mem_filterMap.mpr ⟨env, he, hb⟩)
  have nge : g.get? e = none := (N _ (.head _)).2.2
  have st : base.StaysIn (hideAll s'.heap (e :: (envOf name scope L a cd :: outer).filterMap (·.frame))) := fun b o q => hideAll_get _ (K'.stays b o q) fun hm => by
    rcases List.mem_cons.mp hm with z | hm
    · have := K.stays b o q; rw [z, nge] at this; cases this
    · rw [(K'.frames.mem hm).1] at q; cases q
  have sg : ∀ b o, g.get? b = some o → b ∉ outer.filterMap (·.frame) → (hideAll s'.heap (e :: (envOf name scope L a cd :: outer).filterMap (·.frame))).get? b = some o := fun b o q nm => hideAll_get _ (F.keep b o q) fun hm => by
    rcases List.mem_cons.mp hm with z | hm
    · rw [z, nge] at q; cases q
    rcases kts_mem hm with z | z
    · rw [z, kts_self F] at q
      cases q
    · exact nm z
  have hl : ∀ q ∈ news, (hideAll s'.heap (e :: (envOf name scope L a cd :: outer).filterMap (·.frame))).get? q.1 = some q.2 ∧ g.get? q.1 = none ∧ base.get? q.1 = none := fun q hq => by
    have Nq := N q (.tail _ hq)
    refine ⟨hideAll_get _ Nq.1 fun hm => ?_, Nq.2.2, fresh_of_stays K.stays Nq.2.2⟩
    rcases List.mem_cons.mp hm with z | hm
    · exact hoff q hq z
    obtain ⟨env, he, hf⟩ := List.mem_filterMap.mp hm
    rcases List.mem_cons.mp he with rfl | he
    · exact Nq.2.1 (Option.some.inj hf).symm
    · obtain ⟨o, ho, _⟩ := (K.frames.mem (List.mem_filterMap.mpr ⟨env, he, hf⟩)).2
      rw [Nq.2.2] at ho; cases ho
  have hen : (hideAll s'.heap (e :: (envOf name scope L a cd :: outer).filterMap (·.frame))).get? e = none := hideAll_none _ (.head _)
  refine wpAny_leaving_firstW (a0 := .ref t) (base := hideAll s'.heap (e :: (envOf name scope L a cd :: outer).filterMap (·.frame))) (Around.frames_deeper K.stack) (funFrames_hide K'.frames hin) rfl he (fun b o hb => of_hideAll _ hb) hen rfl rfl rfl fun h' hL => ?_
  obtain ⟨k1, ⟨_, _, k2⟩, k3, k4⟩ := hL
  exact hQ h' ⟨_, .ref t, st, sg, hl, k1, hen, k2, k3⟩ ((Heap.UpToSlots.of_keeps F.keep).trans k4)
end
section
variable {prog : Program} {w : World} {A₀ : Around} {E : Value → Shared → Prop} {s' : Shared} {base g g₀ G : Heap} {outer : List Env} {L a e C P : Addr} {m : Str → Option Value} {name : Str} {scope : Scope} {cd : Value}
  {b₀ : Stmt} {suite : List Stmt} {pos np : Pos} {rest : List ExceptHandler} {Q : Flow → Shared → Prop} {news : List (Addr × Obj)} {KF : Frag}
  {p : Program} {loose : List Str} {mean : ExcName → Option Value} {mg mb : Str → Option Value} {x : Str}
variable {nm q : Str} {N : Addr} {bs bm : List Value} {hdct : Bool} {sn : List Str} {sub : List Value} {ab : Bool} {col : Option Bool} {dd : Option Addr} {k0 k1 k2 k3 k5 : Option Value} {newId : String}
variable {nm' q' : Str} {N' : Addr} {bs' bm' : List Value} {hdct' : Bool} {sn' : List Str} {sub' : List Value} {ab' : Bool} {col' : Option Bool} {dd' : Option Addr} {l0 l1 l2 l3 l5 : Option Value} {newId' : String}
theorem caught_O (R : RaisedSN base G (envOf name scope L a cd :: outer) e (.ref C) news s'.heap) (F : Fr g L G m) (K : Below A₀ base outer g) (hsm : G.UpToSlots s'.heap) (XB : KF.In base) (TB : Top p loose mean mg mb base)
    (D : KtsDicts (outer.filterMap (·.frame)) g) (T0 : KtsTurn (outer.filterMap (·.frame)) g₀ g)
    (ex : nsIn KF mainGlobals x = some (some (.ref P)))
    (hC : KF.lookup C = some (excClassObj nm q C N bs bm hdct sn sub ab col dd k0 k1 k2 k3 k5 newId)) (hP : KF.lookup P = some (excClassObj nm' q' P N' bs' bm' hdct' sn' sub' ab' col' dd' l0 l1 l2 l3 l5 newId'))
    (hbase : bm'.contains (.type "BaseException") = true) (hsub : (Value.ref C :: bm).contains (.ref P) = true)
    (k : ∀ h' g', KtsTurn (outer.filterMap (·.frame)) g₀ g' → Fr g' L h' m → News g' L h' news → Below A₀ base outer g' → KF.In g' → Top p loose mean mg mb g' → KtsDicts (outer.filterMap (·.frame)) g' →
      wpAny (model prog w) ((A₀.deeper (envOf name scope L a cd)).mark (some (.ref e))) (execs (b₀ :: suite) (envOf name scope L a cd)) Q E { s' with heap := h' })
    (hk : scope.kind = .function := by rfl) (hx : (envOf name scope L a cd).kindOf x = some .globalImplicit := by rfl) (hd : (x == ("__debug__" : Str)) = false := by decide)
    (hE : PassesOwnAt (model prog w) ((A₀.deeper (envOf name scope L a cd)).mark (some (.ref e))) (A₀.deeper (envOf name scope L a cd)) (envOf name scope L a cd) E := by passes_own) :
    wpAny (model prog w) (A₀.deeper (envOf name scope L a cd)) (noteFrame (.ref e) (envOf name scope L a cd))
      (fun _ s₂ => wpAny (model prog w) (A₀.deeper (envOf name scope L a cd)) (setFlight (.ref e) none) (fun _ s₃ =>
        wpAny (model prog w) (A₀.deeper (envOf name scope L a cd)) (handleBy (.ref e) (envOf name scope L a cd) (.ExceptHandler (some (.Name x np)) none (b₀ :: suite) pos :: rest)) Q E s₃) E s₂) E s' := by
  obtain ⟨B, a0, hB, hBG, hl, hfl⟩ := R
  have hL : B.get? L = none := by
    obtain ⟨_, ⟨L', _, hf, hn', _⟩, _⟩ := hfl.2.2.1
    obtain rfl : L = L' := Option.some.inj hf
    exact hn'
  refine wpAny_looks_onW (Around.frames_deeper K.stack) rfl hfl fun h₄ hheld₄ hsm₄ => ?_
  refine wpAny_landsW hheld₄ fun h₅ hheld hsm₅' => ?_
  have hsm₅ := hsm₄.trans hsm₅'
  obtain ⟨g₅, T₅, F₅, K₅⟩ := kts_ground K F hBG hheld.1 (hsm.trans hsm₅)
  have X₅ : KF.In g₅ := XB.keeps K₅.stays
  have P₅ : TopRead p loose mg mb g₅ := topRead_of (TB.keeps K₅.stays)
  obtain ⟨ob, hob, hobc⟩ := hheld.there
  have hC₅ := F₅.keep _ _ (X₅ _ _ hC)
  have hP₅ := F₅.keep _ _ (X₅ _ _ hP)
  refine wpAny_handleBy_cons (codeAny_handlers_test (name_K F₅ X₅ P₅ ex ?_ hk hx hd)) (by intro q; cases q)
  refine excMatches_parent hC₅ hob hobc hP₅ hbase hsub (codeAny_handlers_suite ?_)
  refine lands_againW hheld fun h₆ hfl₆ hsm₆ => ?_
  obtain ⟨g₆, T₆, F₆, K₆⟩ := kts_ground K F hBG hfl₆.1 ((hsm.trans hsm₅).trans hsm₆)
  have Nl : News g₆ L h₆ news := fun q hq => ⟨hfl₆.1 _ _ (hl q hq).1, (fun z => by have := (hl q hq).1; rw [z, hL] at this; cases this), T₆.none_ _ (kts_none F.keep (hl q hq).2.1)⟩
  have X₆ : KF.In g₆ := XB.keeps K₆.stays
  have P₆ : Top p loose mean mg mb g₆ := TB.keeps K₆.stays
  have D₆ : KtsDicts (outer.filterMap (·.frame)) g₆ := D.turn T₆
  exact wpAny_passesOwnAt hE (k h₆ g₆ (T0.trans T₆) F₆ Nl K₆ X₆ P₆ D₆)
end

-- Turn
def LeaveT (fs : List Addr) (A₀ : Around) (base : Heap) (outer : List Env) (K : Frag) (p : Program) (loose : List Str) (mean : ExcName → Option Value) (mg mb : Str → Option Value) (g₀ h₀ : Heap) (L : Addr) (m : Str → Option Value) (g : Heap) (rest : List (Addr × Obj)) (R : Result → Shared → Prop) (v : Value) (s' : Shared) : Prop :=
  ∃ g' L' m' news', KtsTurn fs g g' ∧ Fr g' L' s'.heap m' ∧ News g' L' s'.heap news' ∧ ∀ h₀', KtsTurn (outer.filterMap (·.frame)) g₀ h₀' → Fr h₀' L s'.heap m → News h₀' L s'.heap (news' ++ rest) → Below A₀ base outer h₀' → K.In h₀' → Top p loose mean mg mb h₀' →
    KtsDicts (outer.filterMap (·.frame)) h₀' → R (.ok (.ret v)) s'
theorem leaveT_ {fs : List Addr} {A₀ : Around} {base : Heap} {outer : List Env} {K : Frag} {p : Program} {loose : List Str} {mean : ExcName → Option Value} {mg mb : Str → Option Value} {g₀ h₀ g g' : Heap} {L L' : Addr} {m m' : Str → Option Value} {rest news' : List (Addr × Obj)} {R : Result → Shared → Prop} {v : Value} {s' : Shared}
    (T : KtsTurn fs g g') (F' : Fr g' L' s'.heap m') (N' : News g' L' s'.heap news')
    (k : ∀ h₀', KtsTurn (outer.filterMap (·.frame)) g₀ h₀' → Fr h₀' L s'.heap m → News h₀' L s'.heap (news' ++ rest) → Below A₀ base outer h₀' → K.In h₀' → Top p loose mean mg mb h₀' → KtsDicts (outer.filterMap (·.frame)) h₀' → R (.ok (.ret v)) s') :
    LeaveT fs A₀ base outer K p loose mean mg mb g₀ h₀ L m g rest R v s' := ⟨g', L', m', news', T, F', N', k⟩
section
variable {prog : Program} {w : World} {A₀ A : Around} {s : Shared} {base h₀ g₀ : Heap} {outer : List Env} {L a : Addr} {m : Str → Option Value} {cn : Str} {cs : Scope} {ccd : Value} {small rest : List (Addr × Obj)} {K : Frag} {p : Program} {loose : List Str} {mean : ExcName → Option Value} {mg mb : Str → Option Value}
    {R : Result → Shared → Prop} {name qual : Str} {params : Arguments} {body : List Stmt} {scope : Scope} {dV kV doc pm cdv ct oc : Value} {an od : Option Addr} {osl : Array (Option Value)} {f : Addr} {args : Args} {binds : List (Str × Value)}
theorem code_defT (B : Below A₀ base outer h₀) (F : Fr h₀ L s.heap m) (X₀ : K.In h₀) (N₀ : News h₀ L s.heap (small ++ rest)) (hoff : ∀ q ∈ small, ∀ p ∈ rest, p.1 ≠ q.1) (T : Top p loose mean mg mb h₀) (XB : K.In base) (TB : Top p loose mean mg mb base) (D : KtsDicts (outer.filterMap (·.frame)) h₀)
    (T0 : KtsTurn (outer.filterMap (·.frame)) g₀ h₀) (hA : A.frames = some (envOf cn cs L a ccd :: outer))
    (ho : K.lookup f = some ⟨oc, od, .func (fnOf name qual params body scope dV kV doc pm an cdv ct), osl⟩) (hcd : codeIn K cdv qual = true) (hroom : A.depth < recursionLimit)
    (hbind : BindsTo s (fnOf name qual params body scope dV kV doc pm an cdv ct) args binds) (hloc : ∀ y ∈ binds, scope.names.lookup y.1 = some .local)
    (h : ∀ g L' h₁, Fr h₀ L g m → Fr g L' h₁ (fun y => binds.reverse.lookup y) → News g L' h₁ small → Below A base (envOf cn cs L a ccd :: outer) g → K.In g → Top p loose mean mg mb g → KtsDicts ((envOf cn cs L a ccd :: outer).filterMap (·.frame)) g → KtsTurn ((envOf cn cs L a ccd :: outer).filterMap (·.frame)) g g →
      wpAny (model prog w) (A.deeper (envOf qual scope L' f cdv)) (execs body (envOf qual scope L' f cdv))
        (fun fl s' => LeaveT ((envOf cn cs L a ccd :: outer).filterMap (·.frame)) A₀ base outer K p loose mean mg mb g₀ h₀ L m g rest R (match fl with | .ret v => v | _ => .none) s')
        (fun e s' => wpAny (model prog w) (A.deeper (envOf qual scope L' f cdv)) (leaving (envOf qual scope L' f cdv) e) (fun _ s'' => R (.error e) s'') (fun e' s'' => R (.error e') s'') s')
        { s with heap := h₁, toks := s.toks + binds.length })
    (hck : cs.kind = .function) (hco : scope.isCoroutine = false) (hgen : scope.isGenerator = false) (hk : scope.kind = .function)
    (hcell : ∀ x ∈ scope.names, x.2 ≠ .cell) : codeAny (model prog w) A (.call (.ref f) args) R s := by
  have X := X₀.keeps F.keep
  have N : News h₀ L s.heap small := fun p hp => N₀ p (List.mem_append_left _ hp)
  refine codeAny_call_def (fd := fnOf name qual params body scope dV kV doc pm an cdv ct) (body := body) (binds := binds) hroom (X _ _ ho) rfl (T.nolimit.keeps F.keep) (codeRec_of X hcd) rfl hbind hcell hloc (fun h₁ hns hk₁ => ?_) hco hgen hk
  obtain ⟨oL, es, ep, hLg, hLd, hN, hNs, st, B₂⟩ := kts_enter B F N hA hck
  have hR : ∀ p ∈ rest, (hideAll s.heap (small.map (·.1))).get? p.1 = some p.2 := fun p hp => hideAll_get _ (N₀ p (List.mem_append_right _ hp)).1 fun hm => by
    obtain ⟨q, hq, e⟩ := List.mem_map.mp hm
    exact hoff q hq p hp e.symm
  refine wpAny_mono (h _ s.heap.objs.size h₁ ⟨hN _ hLg, st, F.above⟩ ⟨hns, fun b o e => hk₁ b o (of_hideAll _ e), Nat.le_of_eq (hideAll_size _ _)⟩
    (fun p hp => ⟨hk₁ _ _ (N p hp).1, Nat.ne_of_lt (Heap.lt_size (N p hp).1), hideAll_none _ (List.mem_map_of_mem hp)⟩) B₂ (X₀.keeps st) (T.keeps st) (fun b hb => by
      rcases kts_mem hb with rfl | hb
      · exact ⟨oL, es, ep, hLg, hLd⟩
      · obtain ⟨o, es', n', ho', hd'⟩ := D b hb
        exact ⟨o, es', n', st b o ho', hd'⟩) KtsTurn.refl) (fun fl s' hl => ?_) fun _ _ y => y
  have nL₀ : h₀.get? L = none := kts_self F
  obtain ⟨g', L', m', news', T', F', N', k⟩ := hl
  obtain ⟨sl, hs⟩ := T'.up hLg
  obtain ⟨T₁, S₁⟩ := kts_turn_at (h := s'.heap) (fs := outer.filterMap (·.frame)) (g := h₀)
    (fun b hb => by
      obtain ⟨_, o, ho', _⟩ := B.frames.mem hb
      exact ⟨o, ho'⟩)
    (fun b o e nmem => F'.keep b o (T'.other b o (st b o e) (fun q => by
      rcases kts_mem q with z | z
      · rw [z, nL₀] at e
        cases e
      · exact nmem z)))
    (fun b o e hm => by
      obtain ⟨sl', hs'⟩ := T'.up (st b o e)
      exact ⟨sl', F'.keep _ _ hs'⟩)
  have B₃ : Below A₀ base outer (ktsHeap s'.heap (outer.filterMap (·.frame)) h₀) := ⟨B.stack, fun b o e => T₁.other b o (B.stays b o e) (fun hm => by
    rw [(B.frames.mem hm).1] at e
    cases e), B.frames.of_keeps fun b o e _ => by
    obtain ⟨sl', hs'⟩ := T₁.up e
    exact ⟨_, hs', rfl⟩⟩
  have hNone : ∀ b, g'.get? b = none → h₀.get? b = none := fun b e => by
    cases q : h₀.get? b with
    | none => rfl
    | some o =>
      obtain ⟨sl', hs'⟩ := T'.up (st _ _ q)
      rw [hs'] at e
      cases e
  refine k _ (T0.trans T₁) ⟨hNs sl _ (F'.keep _ _ hs), S₁, by rw [T₁.size]; exact F.above⟩ (fun p hp => ?_) B₃ (XB.keeps B₃.stays) (TB.keeps B₃.stays) (D.turn T₁)
  rcases List.mem_append.mp hp with hp | hp
  · refine ⟨(N' p hp).1, fun q => ?_, ?_⟩
    · have := (N' p hp).2.2; rw [q, hs] at this; cases this
    · exact T₁.none_ _ (hNone _ (N' p hp).2.2)
  · have Np := N₀ p (List.mem_append_right _ hp)
    refine ⟨F'.keep _ _ (T'.other _ _ (hR p hp) fun q => ?_), Np.2.1, T₁.none_ _ Np.2.2⟩
    rcases kts_mem q with z | z
    · exact Np.2.1 z
    · obtain ⟨_, o, ho', _⟩ := B.frames.mem z
      rw [Np.2.2] at ho'
      cases ho'
end
theorem ownOff1 {rest : List (Addr × Obj)} {e : Addr} (h : ∀ p ∈ rest, p.1 ≠ e) : OwnOff rest [e] := fun p hp b hb => by rw [List.mem_singleton.mp hb]; exact h p hp
theorem raise_own' {prog : Program} {w : World} {A : Around} {E : Value → Shared → Prop} {s : Shared} {env : Env} {K : Frag} {C : Addr} {c : Expr} {pos : Pos} {Q : Flow → Shared → Prop} {h₀ : Heap} (_ : K.In h₀) (hk : ktsIn K C "BaseException" = true) (hh : A.handled = none)
    (h : wpAny (model prog w) A (eval c env) (RaiseQ K C E) E s) : wpAny (model prog w) A (exec (.Raise (some c) none pos) env) Q E s := raise_own hk hh h

-- Loop
def LoopG (prog : Program) (w : World) (A : Around) (env : Env) (x : Str) (px : Pos) (body : List Stmt) (Q : Flow → Shared → Prop) (E : Value → Shared → Prop) (xv : Value) (s₁ : Shared) : Prop :=
  wpAny (model prog w) A (pyIter xv) (fun it s₂ => codeAny (model prog w) A (.forLoop (.Name x px) it body [] env) (fun r s' => match r with | .ok f => Q f s' | .error e => cameBackBy (model prog w) A env E e s') s₂) E s₁
def NextG (L : Addr) (own : List (Addr × Obj)) (Jn : Heap → (Str → Option Value) → List (Addr × Obj) → Prop) (s₁ s₂ : Shared) : Prop :=
  ∃ g' h₃ tk₃ m₂ news₂, s₂ = { s₁ with heap := h₃, toks := tk₃ } ∧ Fr g' L h₃ m₂ ∧ News g' L h₃ (own ++ news₂) ∧ (∀ p ∈ news₂, ∀ q ∈ own, p.1 ≠ q.1) ∧ Jn g' m₂ news₂
def StepG (L : Addr) (own : List (Addr × Obj)) (Jn : Heap → (Str → Option Value) → List (Addr × Obj) → Prop) (s₁ : Shared) (Q : Flow → Shared → Prop) (f : Flow) (s₂ : Shared) : Prop :=
  match f with
  | .ret v => Q (.ret v) s₂
  | .brk => Q .next s₂
  | _ => NextG L own Jn s₁ s₂
def InvG (L : Addr) (fp : List Addr) (n : Nat) (St : Nat → Heap → Prop) (J : Nat → Heap → (Str → Option Value) → List (Addr × Obj) → Prop) (s : Shared) (k : Nat) (s' : Shared) : Prop :=
  ∃ g h' tk m' own' news' i, s' = { s with heap := h', toks := tk } ∧ own'.map (·.1) = fp ∧ St i h' ∧ Fr g L h' m' ∧ News g L h' (own' ++ news') ∧ (∀ p ∈ news', ∀ q ∈ own', p.1 ≠ q.1) ∧ J i g m' news' ∧ i ≤ n ∧ k = n + 1 - i
theorem own_objs {h : Heap} : ∀ (fp : List Addr), (∀ b ∈ fp, ∃ o, h.get? b = some o) → ∃ own : List (Addr × Obj), own.map (·.1) = fp ∧ ∀ p ∈ own, h.get? p.1 = some p.2
  | [], _ => ⟨[], rfl, fun _ h => nomatch h⟩
  | b :: r, hall => by
    obtain ⟨o, e⟩ := hall b (.head _)
    obtain ⟨l, hl, hg⟩ := own_objs r fun b hb => hall b (.tail _ hb)
    refine ⟨(b, o) :: l, by rw [List.map_cons, hl], fun p hp => ?_⟩
    rcases List.mem_cons.mp hp with rfl | hp
    · exact e
    · exact hg p hp
theorem own_two {a b : Addr} {own : List (Addr × Obj)} (h : own.map (·.1) = [a, b]) : ∃ o1 o2, own = [(a, o1), (b, o2)] := by
  cases own with
  | nil => cases h
  | cons p r =>
    cases r with
    | nil => cases h
    | cons q r =>
      cases r with
      | nil =>
        obtain ⟨p1, o1⟩ := p
        obtain ⟨q1, o2⟩ := q
        cases h
        exact ⟨o1, o2, rfl⟩
      | cons _ _ => cases h
section
variable {prog : Program} {w : World} {A : Around} {s : Shared} {env : Env}
theorem For_G {E : Value → Shared → Prop} {Q : Flow → Shared → Prop} {x : Str} {px pos : Pos} {iter : Expr} {body : List Stmt}
    (h : wpAny (model prog w) A (eval iter env) (LoopG prog w A env x px body Q E) E s) (hs : ∀ x, foldedSetIterable iter env x = pure x := by intro _; rfl) :
    wpAny (model prog w) A (exec (.For (.Name x px) iter body [] pos) env) Q E s := wpAny_For h hs
theorem codeAny_forLoop_G {R : Result → Shared → Prop} {x : Str} {px : Pos} {body : List Stmt} {I : Addr} {fp wr : List Addr} {n : Nat} {P : Nat → Value → Prop} {St : Nat → Heap → Prop} {m : Str → Option Value} {g : Heap}
    {own news : List (Addr × Obj)} (W : Walks prog w A I fp wr n P St) (hobj : ∀ i h, St i h → ∀ b ∈ fp, ∃ o, h.get? b = some o) (hx : env.kindOf x = some .local)
    (hp : (env.scope.kind == .class || (env.scope.kind == .module && env.locals != env.globals)) = false)
    (ho : own.map (·.1) = fp) (hst : St 0 s.heap) (F : Fr g env.locals s.heap m) (N : News g env.locals s.heap (own ++ news)) (off : ∀ p ∈ news, ∀ q ∈ own, p.1 ≠ q.1)
    (J : Nat → Heap → (Str → Option Value) → List (Addr × Obj) → Prop) (h0 : J 0 g m news)
    (step : ∀ i v g m₁ news₁ own h tk, i < n → P i v → J i g m₁ news₁ → own.map (·.1) = fp → (∀ p ∈ news₁, ∀ q ∈ own, p.1 ≠ q.1) → Fr g env.locals h (fun y => if y = x then some v else m₁ y) → News g env.locals h (own ++ news₁) →
      wpAny (model prog w) A (execs body env) (StepG env.locals own (J (i + 1)) { s with heap := h, toks := tk } fun f s' => R (.ok f) s') (notedBy (model prog w) A env fun e s' => R (.error e) s') { s with heap := h, toks := tk })
    (hR : ∀ g h' tk m' news', Fr g env.locals h' m' → News g env.locals h' news' → J n g m' news' → R (.ok .next) { s with heap := h', toks := tk }) :
    codeAny (model prog w) A (.forLoop (.Name x px) (.ref I) body [] env) R s := by
  refine codeAny_forLoop
    (InvG env.locals fp n St J s) ?_ (n + 1)
    ⟨g, s.heap, s.toks, m, own, news, 0, rfl, ho, hst, F, N, off, h0, Nat.zero_le _, rfl⟩
  rintro k s' ⟨g, h', tk, m', own', news', i, rfl, ho', hst', F', N', off', hJ, hi, rfl⟩
  have ofp : ∀ b ∈ fp, b ≠ env.locals ∧ g.get? b = none := fun b hb => by
    obtain ⟨q, hq, e⟩ := List.mem_map.mp (ho' ▸ hb)
    exact e ▸ (N' q (List.mem_append_left _ hq)).2
  have hLw : env.locals ∉ wr := fun h => (ofp _ (W.sub _ h)).1 rfl
  have old : ∀ b o, g.get? b = some o → b ∉ wr := fun b o e hb => by rw [(ofp b (W.sub _ hb)).2] at e; cases e
  have nwr : ∀ p ∈ news', p.1 ∉ wr := fun p hp hb => by
    obtain ⟨q, hq, e⟩ := List.mem_map.mp (ho' ▸ W.sub _ hb)
    exact off' p hp q hq e.symm
  have next : ∀ h₁ : Heap, (∀ b o, b ∉ wr → h'.get? b = some o → h₁.get? b = some o) → Fr g env.locals h₁ m' ∧ News g env.locals h₁ news' := fun h₁ hk₁ =>
    ⟨⟨F'.ns.at' fun o e => hk₁ _ o hLw e, fun b o e => hk₁ b o (old b o e) (F'.keep b o e), F'.above⟩, fun p hp => ⟨hk₁ _ _ (nwr p hp) (N' p (List.mem_append_right _ hp)).1, (N' p (List.mem_append_right _ hp)).2⟩⟩
  by_cases hlt : i < n
  · refine W.item i _ _ _ hlt hst' fun v h₁ tk₁ hP hst₁ hk₁ => ?_
    obtain ⟨F₁, N₁⟩ := next h₁ hk₁
    refine wpAny_assign_Name (wpAny_storeName_local hx F₁.ns (fun h₂ hn₂ hs₂ => ?_) hp)
    have F₂ := F₁.set hn₂ hs₂
    have hst₂ : St (i + 1) h₂ := W.frame _ _ _ hst₁ fun b hb o e => (hs₂.2 b (ofp b hb).1).trans e
    obtain ⟨own₂, ho₂, hg₂⟩ : ∃ own₂ : List (Addr × Obj), own₂.map (·.1) = fp ∧ ∀ p ∈ own₂, h₂.get? p.1 = some p.2 := by
      exact own_objs fp (hobj _ _ hst₂)
    have N₂ : News g env.locals h₂ (own₂ ++ news') := fun p hp => by
      rcases List.mem_append.mp hp with hp | hp
      · exact ⟨hg₂ p hp, ofp p.1 (ho₂ ▸ List.mem_map_of_mem hp)⟩
      · exact ⟨(hs₂.2 p.1 (N₁ p hp).2.1).trans (N₁ p hp).1, (N₁ p hp).2⟩
    have off₂ : ∀ p ∈ news', ∀ q ∈ own₂, p.1 ≠ q.1 := fun p hp q hq e => by
      have : q.1 ∈ fp := ho₂ ▸ List.mem_map_of_mem hq
      obtain ⟨q', hq', e'⟩ := List.mem_map.mp (ho' ▸ this)
      exact off' p hp q' hq' (e.trans e'.symm)
    refine wpAny_mono (step i v g m' news' own₂ h₂ _ hlt hP hJ ho₂ off₂ F₂ N₂) (fun f s₃ h₃ => ?_) fun _ _ e => e
    have fin : NextG env.locals own₂ (J (i + 1)) { s with heap := h₂, toks := tk₁ } s₃ → ∃ m, m < n + 1 - i ∧ InvG env.locals fp n St J s m s₃ := fun h₃ => by
      obtain ⟨g₃, h₃', tk₃, m₂, news₂, rfl, F₃, N₃, off₃, hJ₃⟩ := h₃
      refine ⟨n + 1 - (i + 1), by omega, g₃, h₃', tk₃, m₂, own₂, news₂, i + 1, rfl, ho₂, ?_, F₃, N₃, off₃, hJ₃, hlt, rfl⟩
      refine W.frame _ _ _ hst₂ fun b hb o e => ?_
      obtain ⟨q, hq, e'⟩ := List.mem_map.mp (ho₂ ▸ hb)
      subst e'
      have e₂ := hg₂ q hq
      rw [e₂] at e
      cases e
      exact (N₃ q (List.mem_append_left _ hq)).1
    cases f with
    | ret v => exact h₃
    | brk => exact h₃
    | cont => exact fin h₃
    | next => exact fin h₃
  · have hin : i = n := by omega
    subst hin
    refine W.done _ _ _ hst' fun h₁ tk₁ hk₁ => wpAny_execs_nil ?_
    obtain ⟨F₁, N₁⟩ := next h₁ hk₁
    exact hR _ h₁ tk₁ m' news' F₁ N₁ hJ
/-- a loop over a written list: the ground may turn from turn to turn -/
theorem loopG_list {E : Value → Shared → Prop} {Q : Flow → Shared → Prop} {x : Str} {px : Pos} {body : List Stmt} {g : Heap} {m : Str → Option Value} {ax : Addr} {items : Array Value} {k : Nat} {news : List (Addr × Obj)}
    (F : Fr g env.locals s.heap m) (N : News g env.locals s.heap ((ax, listOf items k) :: news)) (off : ∀ p ∈ news, p.1 ≠ ax)
    (J : Nat → Heap → (Str → Option Value) → List (Addr × Obj) → Prop) (h0 : J 0 g m news)
    (step : ∀ I, (∀ p ∈ (ax, listOf items k) :: news, p.1 < I) → ∀ i v g m₁ news₁ o1 o2 h tk, i < items.size → items[i]? = some v → J i g m₁ news₁ → (∀ p ∈ news₁, p.1 ≠ I) → (∀ p ∈ news₁, p.1 ≠ ax) → Fr g env.locals h (fun y => if y = x then some v else m₁ y) → News g env.locals h ((I, o1) :: (ax, o2) :: news₁) →
      wpAny (model prog w) A (execs body env) (StepG env.locals [(I, o1), (ax, o2)] (J (i + 1)) { s with heap := h, toks := tk } Q) E { s with heap := h, toks := tk })
    (hR : ∀ g h' tk m' news', Fr g env.locals h' m' → News g env.locals h' news' → J items.size g m' news' → Q .next { s with heap := h', toks := tk })
    (hh : A.handled = none := by rfl) (hx : env.kindOf x = some .local := by rfl)
    (hp : (env.scope.kind == .class || (env.scope.kind == .module && env.locals != env.globals)) = false := by rfl) (hE : PassesOwn (model prog w) A env E := by passes_own) :
    LoopG prog w A env x px body Q E (.ref ax) s := by
  have hlo := (N _ (.head _)).1
  have hl : s.heap.IsList ax items := ⟨_, hlo, rfl, k, rfl⟩
  have hlt : ∀ p ∈ (ax, listOf items k) :: news, p.1 < s.heap.objs.size := fun p hp => Heap.lt_size (N p hp).1
  have hne : ax ≠ s.heap.objs.size := Nat.ne_of_lt (hlt _ (.head _))
  refine wpAny_pyIter_list hl ?_
  have F' := F.push { cls := .type "list_iterator", data := .fields #[.ref ax, .int 0 0] }
  refine codeAny_forLoop_G (g := g) (own := [(s.heap.objs.size, { cls := .type "list_iterator", data := .fields #[.ref ax, .int 0 0] }), (ax, listOf items k)]) (news := news) (Walks.list hh s.heap.objs.size ax hne items) (fun i h st b hb => ?_) hx hp rfl ⟨⟨_, Heap.get?_push_at rfl rfl, rfl, rfl⟩, ⟨_, Heap.get?_push_of_some _ hlo, rfl, k, rfl⟩⟩ F' (fun p hp => ?_) (fun p hp q hq => ?_) J h0 ?_ hR
  · rcases List.mem_cons.mp hb with rfl | hb
    · obtain ⟨o, e, _⟩ := st.1
      exact ⟨o, e⟩
    · rw [List.mem_singleton.mp hb]
      obtain ⟨o, e, _⟩ := st.2
      exact ⟨o, e⟩
  · rcases List.mem_cons.mp hp with rfl | hp
    · refine ⟨Heap.get?_push_at rfl rfl, (Nat.ne_of_lt F.ns.lt).symm, F.fresh⟩
    · exact ⟨Heap.get?_push_of_some _ (N p hp).1, (N p hp).2⟩
  · rcases List.mem_cons.mp hq with rfl | hq
    · exact Nat.ne_of_lt (hlt _ (.tail _ hp))
    · rw [List.mem_singleton.mp hq]
      exact off p hp
  · intro i v g m₁ news₁ own h tk hi hP hJ ho off' F N
    obtain ⟨o1, o2, rfl⟩ := own_two ho
    exact wpAny_passesOwn hE (wpAny_mono (step _ hlt i v g m₁ news₁ o1 o2 h tk hi hP hJ (fun p hp => off' p hp _ (.head _)) (fun p hp => off' p hp _ (.tail _ (.head _))) F N) (fun f s₃ h₃ => h₃) fun _ _ e => e)
end
theorem nextG_ {L : Addr} {own : List (Addr × Obj)} {Jn : Heap → (Str → Option Value) → List (Addr × Obj) → Prop} {s₁ : Shared} {Q : Flow → Shared → Prop} {g' h₃ : Heap} {tk₃ : Nat} {m₂ : Str → Option Value} {news₂ : List (Addr × Obj)}
    (F : Fr g' L h₃ m₂) (N : News g' L h₃ (own ++ news₂)) (off : ∀ p ∈ news₂, ∀ q ∈ own, p.1 ≠ q.1) (hJ : Jn g' m₂ news₂) : StepG L own Jn s₁ Q .next { s₁ with heap := h₃, toks := tk₃ } := ⟨g', h₃, tk₃, m₂, news₂, rfl, F, N, off, hJ⟩

-- LoopR
section
variable {prog : Program} {w : World} {A : Around} {s : Shared} {env : Env}
theorem own_one {a : Addr} {own : List (Addr × Obj)} (h : own.map (·.1) = [a]) : ∃ o1, own = [(a, o1)] := by
  cases own with
  | nil => cases h
  | cons p r =>
    cases r with
    | nil =>
      obtain ⟨p1, o1⟩ := p
      cases h
      exact ⟨o1, rfl⟩
    | cons _ _ => cases h
/-- a loop over a range: the ground may turn from turn to turn -/
theorem loopG_range {E : Value → Shared → Prop} {Q : Flow → Shared → Prop} {x : Str} {px : Pos} {body : List Stmt} {g : Heap} {m : Str → Option Value} {r : Addr} {a₀ b₀ : Int} {t₀ u₀ v₀ : Tok} {n : Nat} {news : List (Addr × Obj)}
    (hr : IsRange s.heap r a₀ b₀ 1 t₀ u₀ v₀) (hsmall : Builtin.Range.small a₀ b₀ 1 = true) (hn : Builtin.Range.rangeSize a₀ b₀ 1 = (n : Int)) (F : Fr g env.locals s.heap m) (N : News g env.locals s.heap news)
    (J : Nat → Heap → (Str → Option Value) → List (Addr × Obj) → Prop) (h0 : J 0 g m news)
    (step : ∀ I, (∀ p ∈ news, p.1 < I) → ∀ (i : Nat) t g m₁ news₁ o1 h tk, i < n → J i g m₁ news₁ → (∀ p ∈ news₁, p.1 ≠ I) → Fr g env.locals h (fun y => if y = x then some (.int (a₀ + (i : Int)) t) else m₁ y) → News g env.locals h ((I, o1) :: news₁) →
      wpAny (model prog w) A (execs body env) (StepG env.locals [(I, o1)] (J (i + 1)) { s with heap := h, toks := tk } Q) E { s with heap := h, toks := tk })
    (hR : ∀ g h' tk m' news', Fr g env.locals h' m' → News g env.locals h' news' → J n g m' news' → Q .next { s with heap := h', toks := tk })
    (hh : A.handled = none := by rfl) (hx : env.kindOf x = some .local := by rfl)
    (hp : (env.scope.kind == .class || (env.scope.kind == .module && env.locals != env.globals)) = false := by rfl) (hE : PassesOwn (model prog w) A env E := by passes_own) :
    LoopG prog w A env x px body Q E (.ref r) s := by
  have hlt : ∀ p ∈ news, p.1 < s.heap.objs.size := fun p hp => Heap.lt_size (N p hp).1
  refine wpAny_pyIter_range hr hsmall ?_
  have F' := F.push { cls := .type "range_iterator", data := .fields #[rawInt a₀, rawInt (Builtin.Range.rangeSize a₀ b₀ 1), rawInt 1] }
  have W : Walks prog w A s.heap.objs.size [s.heap.objs.size] [s.heap.objs.size] n (fun i v => ∃ t, v = .int (a₀ + i * 1) t)
      (fun i h => IsRangeIter h s.heap.objs.size (a₀ + (i : Nat) * 1) ((n : Int) - (i : Nat)) 1) := Walks.range hh _ a₀ 1 n
  refine codeAny_forLoop_G (g := g) (own := [(s.heap.objs.size, { cls := .type "range_iterator", data := .fields #[rawInt a₀, rawInt (Builtin.Range.rangeSize a₀ b₀ 1), rawInt 1] })]) (news := news) W (fun i h st b hb => ?_) hx hp rfl ?_ F' (fun p hp => ?_) (fun p hp q hq => ?_) J h0 ?_ hR
  · rw [List.mem_singleton.mp hb]
    exact ⟨_, st⟩
  · show IsRangeIter _ _ _ _ _
    rw [hn]
    simpa using Heap.get?_push_size _ rfl
  · rcases List.mem_cons.mp hp with rfl | hp
    · refine ⟨Heap.get?_push_at rfl rfl, (Nat.ne_of_lt F.ns.lt).symm, F.fresh⟩
    · exact ⟨Heap.get?_push_of_some _ (N p hp).1, (N p hp).2⟩
  · rw [List.mem_singleton.mp hq]
    exact Nat.ne_of_lt (hlt _ hp)
  · intro i v g m₁ news₁ own h tk hi hP hJ ho off' F N
    obtain ⟨t, rfl⟩ := hP
    rw [Int.mul_one] at F
    obtain ⟨o1, rfl⟩ := own_one ho
    exact wpAny_passesOwn hE (wpAny_mono (step _ hlt i t g m₁ news₁ o1 h tk hi hJ (fun p hp => off' p hp _ (.head _)) F N) (fun f s₃ h₃ => h₃) fun _ _ e => e)
end

-- Pos
theorem tell_pos {a b c v l : Int} (ha : 1 ≤ a) (hb : 1 ≤ b) (hc : 1 ≤ c) (hv : 1 ≤ v) (h : ¬ tellD a b c v l = 0) : 1 ≤ tellD a b c v l := by
  unfold tellD at h ⊢
  repeat' split at h <;> simp_all <;> omega
theorem t2_pos {a b v l : Int} (ha : 1 ≤ a) (hb : 1 ≤ b) : 1 ≤ t2 a b v l := by unfold t2; split <;> assumption
theorem t3_pos {b c v l : Int} (hb : 1 ≤ b) (hc : 1 ≤ c) : 1 ≤ t3 b c v l := by unfold t3; split <;> assumption
theorem item_ok {items : Array Value} {P : Value → Prop} (h : ∀ v ∈ items.toList, P v) {i : Nat} {v : Value} (e : items[i]? = some v) : P v := by
  obtain ⟨hi, rfl⟩ := Array.getElem?_eq_some_iff.mp e
  exact h _ (by simp)

-- Box
local macro_rules | `(tactic| k_room) => `(tactic| ktr_room)
local macro_rules | `(tactic| k_units) => `(tactic| ktr_units)
local macro_rules | `(tactic| k_ne) => `(tactic| first | assumption | exact Ne.symm (by assumption) | exact Apart.ne1 (by assumption) (by k_memK) | exact Apart.ne2 (by assumption) (by k_memK) | exact Above.ne1 (by assumption) (by k_memK) | exact Above.ne2 (by assumption) (by k_memK) | exact Over.ne1 (by assumption) (by k_memK) | exact Over.ne2 (by assumption) (by k_memK) | exact Diff.ne (by assumption) | exact Diff.ne2 (by assumption) | (refine neN ?_; (try dsimp only); omega))
local macro_rules | `(tactic| k_lt $h:ident) => `(tactic| ((have aL' := Above.mk $h); replace $h := allLt_of $h; simp only [AllLt, and_true] at $h:ident))
local macro_rules | `(tactic| k_mem) => `(tactic| first | exact Pick.head | (refine' Pick.tail ?pk; (case pk => k_mem)))
local macro_rules | `(tactic| walk_at "binaryOp Pow int int") => `(tactic| (k_here; (with_reducible refine pow_int_small ?_ ?_ ?_ ?_) <;> first | decide | ((simp only [Int.reduceToNat, List.getD_cons_zero, List.getD_cons_succ] at *); (try k_fmods); omega) | skip))
section
local macro_rules | `(tactic| walk_at "exec For Name Subscript cons nil") => `(tactic| (k_here; (with_unfolding_all refine' For_G ?_)))
set_option maxHeartbeats 400000 in
theorem box_spec : ∀ {w : World} {mean : ExcName → Option Value} {mg mb : Str → Option Value} {dp un : Nat} {gd : Option (List Code)} {cn : Str} {cs : Scope} {fa : Addr} {ccd : Value} {cl : List (Str × Addr)} {outer : List Env} {A₀ : Around} {base h₀ : Heap} {L : Addr} {m : Str → Option Value} {rest : List (Addr × Obj)} {s : Shared} {Q E : Value → Shared → Prop} {scr : Addr} {vs : List Value} {ns : List Int} (B : Below A₀ base outer h₀) (F : Fr h₀ L s.heap m) (X : (hd.heap_39 w.params).In h₀) (N : News h₀ L s.heap (rest)) (T : Top view (looseW view [Str.ofString "PressError"]) mean mg mb h₀) (hk : cs.kind = .function) (hdp : dp + 3 < recursionLimit) (hun : un + 60 < cLine) (hS : h₀.IsList scr vs.toArray) (hI : IntsAre vs ns) (hlen : ns.length ≤ 63) (hret : ∀ (box : Addr) (g sd : Int) (t1 t2 t3 : Tok) (kb : Nat) (h' : Heap) (tk' : Nat), Fr h₀ L h' m → News h₀ L h' ((box, listOf #[.int g t1, .int sd t2, .int 0 t3] kb) :: rest) → Apart box (rest) → 0 ≤ g → 0 ≤ sd → sd < 2147483629 → Q (.ref box) { s with heap := h', toks := tk' }), wpAny (model PySem.Challenge.rw_no0090_01.row.prog w) (ktrTop dp un gd cn cs L fa ccd cl outer) (call (.ref 130) [.ref scr]) Q E s := by
  k_fill
  w_top off
  intro w mean mg mb dp un gd cn cs fa ccd cl outer A₀ base h₀ L m rest s Q E scr vs ns B F X N T hk hdp hun hS hI hlen hret
  have hMk : KstMark := kstMark
  refine wpAny_call ?_
  k_dflt (refine' code_defS (small := []) ?k1 ?k2 ?k3 ?k4 ?kO ?k5 ?kA ?kF ?kK ?k6 ?k7 ?k8 ?k9 ?kB ?_ ?c2 ?c3 ?c4 ?c5; (case kA => exact rfl); (case kF => exact rfl); (case kK => assumption); (case k1 => k_asm); (case k2 => k_asm); (case k3 => k_asm); (case k4 => exact N); (case kO => (exact List.forall_mem_nil _)); (case k5 => k_asm); (case k6 => k_is); (case k7 => k_is); (case k8 => ktr_room); (case k9 => first | exact BindsTo.of_eq rfl | exact binds_K (by k_in) rfl (by k_is) rfl rfl rfl); (case c5 => decide); (case kB => exact locs rfl); (case c2 => exact rfl); (case c3 => exact rfl); (case c4 => exact rfl); k_whole)
  intro g' L' h' hRest FG' F' N' B' X' T'
  try dsimp only
  try k_lift B'
  clear N
  try k_fold
  have hS' := Fr.lst FG' hS
  k_steps
  refine' loopG_list (news := []) (J := fun i g1 m news => ∃ sd t1 g t2, m (Str.ofString "seed") = some (.int sd t1) ∧ m (Str.ofString "great") = some (.int g t2) ∧ 0 ≤ g ∧ 0 ≤ sd ∧ sd < 2147483629 ∧ news = [] ∧ g1 = g') ?F ?N ?off ?h0 ?step ?hR
  (case F => k_asm)
  (case N => (refine' cb_drop ?cM ?cS; (case cM => k_asm); (case cS => exact List.forall_mem_cons.mpr ⟨by k_memK, List.forall_mem_nil _⟩)))
  (case off => exact List.forall_mem_nil _)
  (case h0 => exact ⟨_, _, _, _, rfl, rfl, by decide, by decide, by decide, rfl, rfl⟩)
  (case step =>
    intro I lI i v g1 m₁ news₁ o1 o2 h1 tk1 hi hv hJ ho1 ho2 F1 N1
    obtain ⟨sd, t1, g, t2, hm1, hm2, hg0, hs0, hs1, rfl, rfl⟩ := hJ
    have hm : m₁ = fun y => if y = Str.ofString "seed" then some (.int sd t1) else if y = Str.ofString "great" then some (.int g t2) else m₁ y := by
      funext y
      by_cases h1 : y = Str.ofString "seed"
      · rw [if_pos h1, h1, hm1]
      · by_cases h2 : y = Str.ofString "great"
        · rw [if_neg h1, if_pos h2, h2, hm2]
        · rw [if_neg h1, if_neg h2]
    rw [hm] at F1
    clear hm hm1 hm2
    obtain ⟨z, tz, rfl, -⟩ := IntsAre.at (ns := List.take 24 ns) (by assumption) i v (by simpa using hv)
    clear hv hi
    k_lt lI
    try (with_reducible show wpAny _ _ _ _ _ _)
    try k_fold
    k_steps
    all_goals
      (refine' nextG_ (news₂ := []) ?eF ?eN ?eO ?eJ
       (case eF => k_asm)
       (case eN => (refine' cb_drop ?cM ?cS; (case cM => k_asm); (case cS => exact List.forall_mem_cons.mpr ⟨by k_memK, List.forall_mem_cons.mpr ⟨by k_memK, List.forall_mem_nil _⟩⟩)))
       (case eO => exact List.forall_mem_nil _)
       (case eJ => exact ⟨_, _, _, _, rfl, rfl, by first | assumption | omega | ((try k_fmods); omega), by first | assumption | omega | ((try k_fmods); omega), by first | assumption | omega | ((try k_fmods); omega), rfl, rfl⟩)))
  (case hR =>
    intro g1 h1 tk1 m₁ news₁ F1 N1 hJ
    obtain ⟨sd, t1, g, t2, hm1, hm2, hg0, hs0, hs1, rfl, rfl⟩ := hJ
    have hm : m₁ = fun y => if y = Str.ofString "seed" then some (.int sd t1) else if y = Str.ofString "great" then some (.int g t2) else m₁ y := by
      funext y
      by_cases h1 : y = Str.ofString "seed"
      · rw [if_pos h1, h1, hm1]
      · by_cases h2 : y = Str.ofString "great"
        · rw [if_neg h1, if_pos h2, h2, hm2]
        · rw [if_neg h1, if_neg h2]
    rw [hm] at F1
    clear hm hm1 hm2
    k_steps
    (refine' hret _ _ _ _ _ _ _ _ _ ?eF ?eN ?eA ?eP0 ?eP1 ?eP2
     (case eF => k_asm)
     (case eN => (refine' exitS (l := [_]) ?cN ?cF hRest; (case cF => assumption); (case cN => (refine' cb_drop ?cM ?cS; (case cM => k_asm); (case cS => exact (List.forall_mem_cons.mpr ⟨by k_memK, (List.forall_mem_nil _)⟩))))))
     (case eA => exact ⟨(apart_rest hRest (by assumption) (by k_memK))⟩)
     (case eP0 => first | assumption | omega)
     (case eP1 => first | assumption | omega)
     (case eP2 => first | assumption | omega)))
end

-- Tale
abbrev tupO (v : Int) (tv : Tok) (l : Int) (tl : Tok) : Obj := { cls := .type "tuple", data := .seq #[.int v tv, .int l tl] }
/-- the told pairs, read from the first: what each means to a row of distances -/
inductive Tale (tups : List (Addr × Obj)) : Int → Int → Int → List Value → List Int → Int → Int → Int → Prop
  | nil (a b c : Int) : Tale tups a b c [] [] a b c
  | cons {a b c v l A B C : Int} {t : Addr} {tv tl : Tok} {ts : List Value} {fs : List Int} : 1 ≤ v → 0 ≤ l → (t, tupO v tv l tl) ∈ tups → tellD a b c v l ≠ 0 →
      Tale tups (tellD a b c v l) (t2 a b v l) (t3 b c v l) ts fs A B C → Tale tups a b c (.ref t :: ts) (tellD a b c v l :: fs) A B C
theorem Tale.snoc {tups tups' : List (Addr × Obj)} {a b c A B C v l : Int} {t : Addr} {tv tl : Tok} {ts : List Value} {fs : List Int} (h : Tale tups a b c ts fs A B C) (hs : ∀ p ∈ tups, p ∈ tups')
    (hv : 1 ≤ v) (hl : 0 ≤ l) (hm : (t, tupO v tv l tl) ∈ tups') (h0 : tellD A B C v l ≠ 0) : Tale tups' a b c (ts ++ [.ref t]) (fs ++ [tellD A B C v l]) (tellD A B C v l) (t2 A B v l) (t3 B C v l) := by
  induction h with
  | nil a b c => exact .cons hv hl hm h0 (.nil _ _ _)
  | cons e1 e2 e3 e4 _ ih => exact .cons e1 e2 (hs _ e3) e4 (ih h0)
theorem Tale.snocF {tups tups' : List (Addr × Obj)} {a b c A B C v l f : Int} {t : Addr} {tv tl : Tok} {ts : List Value} {fs : List Int} (h : Tale tups a b c ts fs A B C) (hs : ∀ p ∈ tups, p ∈ tups')
    (hv : 1 ≤ v) (hl : 0 ≤ l) (hm : (t, tupO v tv l tl) ∈ tups') (hf : 1 ≤ f) (e : tellD A B C v l = f) : Tale tups' a b c (ts ++ [.ref t]) (fs ++ [f]) f (t2 A B v l) (t3 B C v l) := by
  subst e
  exact h.snoc hs hv hl hm (by omega)
theorem Tale.len {tups : List (Addr × Obj)} {a b c A B C : Int} {ts : List Value} {fs : List Int} (h : Tale tups a b c ts fs A B C) : ts.length = fs.length := by
  induction h with
  | nil => rfl
  | cons _ _ _ _ _ ih => rw [List.length_cons, List.length_cons, ih]
theorem due_tell {a b c far l : Int} (hf : 1 ≤ far) : tellD a b c (dueF a b c far l) l = far := by
  unfold dueF
  split
  · assumption
  · split
    · assumption
    · split
      · assumption
      · unfold tellD
        rw [if_pos (by omega)]
        omega
theorem due_pos {a b c far l : Int} (hf : 1 ≤ far) : 1 ≤ dueF a b c far l := by
  unfold dueF
  repeat' split
  all_goals omega
theorem ahead_ok {d : Int} (h0 : 0 ≤ d) (h1 : d < 5) : 0 ≤ [(0 : Int), 0, 1, 2, 70000].getD d.toNat 0 := by
  obtain rfl | rfl | rfl | rfl | rfl : d = 0 ∨ d = 1 ∨ d = 2 ∨ d = 3 ∨ d = 4 := by omega
  all_goals decide
theorem ints_snoc {vs : List Value} {ns : List Int} {z : Int} {t : Tok} (h : IntsAre vs ns) : IntsAre (vs ++ [.int z t]) (ns ++ [z]) := h.append (.cons z t .nil)
theorem append_led {prog : Program} {w : World} {A : Around} {E : Value → Shared → Prop} {s : Shared} {h₀ : Heap} {L D : Addr} {m : Str → Option Value} {ts : List Value} {k : Nat} {x : Value} {post : List (Addr × Obj)} {Q : Value → Shared → Prop}
    (F : Fr h₀ L s.heap m) (N : News h₀ L s.heap ((D, W.listOf ts.toArray k) :: post)) (hoff : ∀ p ∈ post, p.1 ≠ D) (hsz : ts.length ≤ sizeLine)
    (h : ∀ h', Fr h₀ L h' m → News h₀ L h' ((D, W.listOf (ts ++ [x]).toArray (k + 1)) :: post) → Q .none { s with heap := h' }) :
    wpAny (model prog w) A (call (.builtin "list.append") [.ref D, x]) Q E s := by
  refine append_at (N _ (.head _)).1 (fun h' hs hD => h h' (F.update N (.head _) hs) fun p hp => ?_) (by rw [List.size_toArray]; exact hsz)
  rcases List.mem_cons.mp hp with rfl | hp
  · refine ⟨?_, (N _ (.head _)).2⟩
    rw [hD, List.push_toArray]
  · exact ⟨(hs.2 p.1 (hoff p hp)).trans (N p (.tail _ hp)).1, (N p (.tail _ hp)).2⟩

-- ChainD
inductive ChainJ (w : World) (n : Int) (box th L1 : Addr) (sd : Int) (t2 : Tok) (a b c : Int) (ta tb tc : Tok) (k : Nat) (g' : Heap) (i : Nat) (gr : Heap) (m : Str → Option Value) (news : List (Addr × Obj)) : Prop
  | mk (xw dxw xr dxr ml tl cl' : Addr) (A B C g1 n1 : Int) (v1 v2 v3 v4 v5 v6 q1 q2 q3 q4 q5 q6 q7 q8 q9 r1 r3 : Tok) (km kt kc kb' : Nat) (oc : Obj) (ts vs : List Value) (fs : List Int) (tups : List (Addr × Obj)) : m (Str.ofString "writer") = some (.ref xw) → m (Str.ofString "reader") = some (.ref xr) → m (Str.ofString "mine") = some (.ref ml) → m (Str.ofString "told") = some (.ref tl) → m (Str.ofString "chain") = some (.ref cl') → m (Str.ofString "box") = some (.ref box) → m (Str.ofString "three") = some (.ref th) → news = (xw, instObj 119 dxw) :: (dxw, dictOf [⟨PyData.keyHash w.params (Str.ofString "one"), .str (Str.ofString "one") v1, .int A q1⟩, ⟨PyData.keyHash w.params (Str.ofString "two"), .str (Str.ofString "two") v2, .int B q2⟩, ⟨PyData.keyHash w.params (Str.ofString "three"), .str (Str.ofString "three") v3, .int C q3⟩] 3) :: (xr, instObj 119 dxr) :: (dxr, dictOf [⟨PyData.keyHash w.params (Str.ofString "one"), .str (Str.ofString "one") v4, .int A q4⟩, ⟨PyData.keyHash w.params (Str.ofString "two"), .str (Str.ofString "two") v5, .int B q5⟩, ⟨PyData.keyHash w.params (Str.ofString "three"), .str (Str.ofString "three") v6, .int C q6⟩] 3) :: (ml, listOf #[.int A q7, .int B q8, .int C q9] km) :: (tl, listOf ts.toArray kt) :: (cl', listOf vs.toArray kc) :: (box, listOf #[.int g1 r1, .int sd t2, .int n1 r3] kb') :: (th, listOf #[.int a ta, .int b tb, .int c tc] k) :: (L1, oc) :: tups → oc.data = Data.cell none → Tale tups a b c ts fs A B C → IntsAre vs fs → fs.length = i → 1 ≤ A → 1 ≤ B → 1 ≤ C → 0 ≤ g1 → 0 ≤ n1 → n1 ≤ n + 3 * (i : Int) → @LT.lt Nat _ (box) (dxw) → @LT.lt Nat _ (th) (dxw) → @LT.lt Nat _ (L1) (dxw) → @LT.lt Nat _ (dxw) (xw) → @LT.lt Nat _ (xw) (dxr) → @LT.lt Nat _ (dxr) (xr) → @LT.lt Nat _ (xr) (tl) → @LT.lt Nat _ (tl) (cl') → @LT.lt Nat _ (xr) (ml) → @Ne Nat ml tl → @Ne Nat ml cl' → (∀ p ∈ tups, @LT.lt Nat _ cl' p.1) → (∀ p ∈ tups, p.1 ≠ ml) → gr = g' → ChainJ w n box th L1 sd t2 a b c ta tb tc k g' i gr m news
theorem off_lt {tups : List (Addr × Obj)} {c x : Nat} (hu : ∀ p ∈ tups, @LT.lt Nat _ c p.1) (h : x ≤ c) : OwnOff tups [x] := fun p hp b hb => by
  rw [List.mem_singleton.mp hb]
  exact Nat.ne_of_gt (Nat.lt_of_le_of_lt h (hu p hp))
theorem ChainJ.out {w : World} {n : Int} {box th L1 : Addr} {sd : Int} {t2 : Tok} {a b c : Int} {ta tb tc : Tok} {k : Nat} {g' : Heap} {i : Nat} {gr : Heap} {m : Str → Option Value} {news : List (Addr × Obj)} {X : Prop} (hJ : ChainJ w n box th L1 sd t2 a b c ta tb tc k g' i gr m news)
    (kk : ∀ (xw dxw xr dxr ml tl cl' : Addr) (A B C g1 n1 : Int) (v1 v2 v3 v4 v5 v6 q1 q2 q3 q4 q5 q6 q7 q8 q9 r1 r3 : Tok) (km kt kc kb' : Nat) (oc : Obj) (ts vs : List Value) (fs : List Int) (tups : List (Addr × Obj)), oc.data = Data.cell none → Tale tups a b c ts fs A B C → IntsAre vs fs → fs.length = i → 1 ≤ A → 1 ≤ B → 1 ≤ C → 0 ≤ g1 → 0 ≤ n1 → n1 ≤ n + 3 * (i : Int) → @LT.lt Nat _ (box) (dxw) → @LT.lt Nat _ (th) (dxw) → @LT.lt Nat _ (L1) (dxw) → @LT.lt Nat _ (dxw) (xw) → @LT.lt Nat _ (xw) (dxr) → @LT.lt Nat _ (dxr) (xr) → @LT.lt Nat _ (xr) (tl) → @LT.lt Nat _ (tl) (cl') → @LT.lt Nat _ (xr) (ml) → @Ne Nat ml tl → @Ne Nat ml cl' → (∀ p ∈ tups, @LT.lt Nat _ cl' p.1) → (∀ p ∈ tups, p.1 ≠ ml) → ts.length = i → vs.length = i → OwnOff tups [xw] → OwnOff tups [dxw] → OwnOff tups [xr] → OwnOff tups [dxr] → OwnOff tups [tl] → OwnOff tups [cl'] → OwnOff tups [box] → OwnOff tups [th] → OwnOff tups [L1] → OwnOff tups [ml] → Over dxw [box, th, L1] → Over xw [dxw, box, th, L1] → Over dxr [xw, dxw, box, th, L1] → Over xr [dxr, xw, dxw, box, th, L1] → Over tl [xr, dxr, xw, dxw, box, th, L1] → Over cl' [tl, xr, dxr, xw, dxw, box, th, L1] → Over ml [xr, dxr, xw, dxw, box, th, L1] → m = (fun y => if y = (Str.ofString "three") then some (.ref th) else if y = (Str.ofString "box") then some (.ref box) else if y = (Str.ofString "chain") then some (.ref cl') else if y = (Str.ofString "told") then some (.ref tl) else if y = (Str.ofString "mine") then some (.ref ml) else if y = (Str.ofString "reader") then some (.ref xr) else if y = (Str.ofString "writer") then some (.ref xw) else m y) → gr = g' → news = (xw, instObj 119 dxw) :: (dxw, dictOf [⟨PyData.keyHash w.params (Str.ofString "one"), .str (Str.ofString "one") v1, .int A q1⟩, ⟨PyData.keyHash w.params (Str.ofString "two"), .str (Str.ofString "two") v2, .int B q2⟩, ⟨PyData.keyHash w.params (Str.ofString "three"), .str (Str.ofString "three") v3, .int C q3⟩] 3) :: (xr, instObj 119 dxr) :: (dxr, dictOf [⟨PyData.keyHash w.params (Str.ofString "one"), .str (Str.ofString "one") v4, .int A q4⟩, ⟨PyData.keyHash w.params (Str.ofString "two"), .str (Str.ofString "two") v5, .int B q5⟩, ⟨PyData.keyHash w.params (Str.ofString "three"), .str (Str.ofString "three") v6, .int C q6⟩] 3) :: (ml, listOf #[.int A q7, .int B q8, .int C q9] km) :: (tl, listOf ts.toArray kt) :: (cl', listOf vs.toArray kc) :: (box, listOf #[.int g1 r1, .int sd t2, .int n1 r3] kb') :: (th, listOf #[.int a ta, .int b tb, .int c tc] k) :: (L1, oc) :: tups → X) : X := by
  obtain ⟨xw, dxw, xr, dxr, ml, tl, cl', A, B, C, g1, n1, v1, v2, v3, v4, v5, v6, q1, q2, q3, q4, q5, q6, q7, q8, q9, r1, r3, km, kt, kc, kb', oc, ts, vs, fs, tups, hw, hr, hml, htl, hcl, hbx, hth, rfl, hoc, hT, hIv, hfs, hA, hB, hC, hg1, hn1', hn2, o0, o1, o2, o3, o4, o5, o6, o7, o8, ne1, ne2, hu1, hu2, rfl⟩ := hJ
  refine kk xw dxw xr dxr ml tl cl' A B C g1 n1 v1 v2 v3 v4 v5 v6 q1 q2 q3 q4 q5 q6 q7 q8 q9 r1 r3 km kt kc kb' oc ts vs fs tups hoc hT hIv hfs hA hB hC hg1 hn1' hn2 o0 o1 o2 o3 o4 o5 o6 o7 o8 ne1 ne2 hu1 hu2 (hT.len.trans hfs) (hIv.length.trans hfs) (off_lt hu1 (by omega)) (off_lt hu1 (by omega)) (off_lt hu1 (by omega)) (off_lt hu1 (by omega)) (off_lt hu1 (by omega)) (off_lt hu1 (by omega)) (off_lt hu1 (by omega)) (off_lt hu1 (by omega)) (off_lt hu1 (by omega)) (fun p hp b hb => by rw [List.mem_singleton.mp hb]; exact hu2 p hp) (Over.three o0 o1 o2) ((Over.three o0 o1 o2).step o3) (((Over.three o0 o1 o2).step o3).step o4) ((((Over.three o0 o1 o2).step o3).step o4).step o5) (((((Over.three o0 o1 o2).step o3).step o4).step o5).step o6) ((((((Over.three o0 o1 o2).step o3).step o4).step o5).step o6).step o7) (((((Over.three o0 o1 o2).step o3).step o4).step o5).step o8) ?_ rfl rfl
  funext y
  by_cases e0 : y = (Str.ofString "three")
  · rw [if_pos e0, e0, hth]
  rw [if_neg e0]
  by_cases e1 : y = (Str.ofString "box")
  · rw [if_pos e1, e1, hbx]
  rw [if_neg e1]
  by_cases e2 : y = (Str.ofString "chain")
  · rw [if_pos e2, e2, hcl]
  rw [if_neg e2]
  by_cases e3 : y = (Str.ofString "told")
  · rw [if_pos e3, e3, htl]
  rw [if_neg e3]
  by_cases e4 : y = (Str.ofString "mine")
  · rw [if_pos e4, e4, hml]
  rw [if_neg e4]
  by_cases e5 : y = (Str.ofString "reader")
  · rw [if_pos e5, e5, hr]
  rw [if_neg e5]
  by_cases e6 : y = (Str.ofString "writer")
  · rw [if_pos e6, e6, hw]
  rw [if_neg e6]

-- Mk
set_option maxHeartbeats 4000000 in
theorem mk_spec : ∀ {w : World} {mean : ExcName → Option Value} {mg mb : Str → Option Value} {dp un : Nat} {gd : Option (List Code)} {cn : Str} {cs : Scope} {fa : Addr} {ccd : Value} {cl : List (Str × Addr)} {outer : List Env} {A₀ : Around} {base h₀ : Heap} {L : Addr} {m : Str → Option Value} {rest : List (Addr × Obj)} {s : Shared} {Q E : Value → Shared → Prop} {a b c : Int} {ta tb tc : Tok} (B : Below A₀ base outer h₀) (F : Fr h₀ L s.heap m) (X : (hd.heap_39 w.params).In h₀) (N : News h₀ L s.heap (rest)) (T : Top view (looseW view [Str.ofString "PressError"]) mean mg mb h₀) (hk : cs.kind = .function) (hdp : dp + 3 < recursionLimit) (hun : un + 20 < cLine) (ha : 1 ≤ a) (hb : 1 ≤ b) (hc : 1 ≤ c) (hret : ∀ (x dx : Addr) (u1 u2 u3 : Tok) (h' : Heap) (tk' : Nat), Fr h₀ L h' m → News h₀ L h' ((x, instObj 119 dx) :: (dx, dictOf [⟨PyData.keyHash w.params (Str.ofString "one"), .str (Str.ofString "one") u1, .int a ta⟩, ⟨PyData.keyHash w.params (Str.ofString "two"), .str (Str.ofString "two") u2, .int b tb⟩, ⟨PyData.keyHash w.params (Str.ofString "three"), .str (Str.ofString "three") u3, .int c tc⟩] 3) :: rest) → (∀ p ∈ rest, p.1 < x) → (∀ p ∈ rest, p.1 < dx) → @LT.lt Nat _ dx x → Q (.ref x) { s with heap := h', toks := tk' }), wpAny (model PySem.Challenge.rw_no0090_01.row.prog w) (ktrTop dp un gd cn cs L fa ccd cl outer) (call (.ref 119) [.int a ta, .int b tb, .int c tc]) Q E s := by
  k_fill
  w_top off
  intro w mean mg mb dp un gd cn cs fa ccd cl outer A₀ base h₀ L m rest s Q E a b c ta tb tc B F X N T hk hdp hun ha hb hc hret
  have hMk : KstMark := kstMark
  k_dflt (refine' call_cls ?k1 ?k2 ?k3 ?k4 ?k5 ?k6 ?_; (case k1 => k_asm); (case k2 => k_asm); (case k3 => k_asm); (case k4 => k_is); (case k5 => k_is); (case k6 => k_is); k_whole)
  intro x' d' h' F' N' l1 l2
  try k_lt l1
  k_lt2 l2
  k_sweep
  k_dflt (refine' code_def ?k1 ?k2 ?k3 ?k4 ?k5 ?kA ?kF ?kK ?k6 ?k7 ?k8 ?k9 ?kB ?_ ?c2 ?c3 ?c4 ?c5; (case kA => exact rfl); (case kF => exact rfl); (case kK => assumption); (case k1 => k_asm); (case k2 => k_asm); (case k3 => k_asm); (case k4 => k_asm); (case k5 => k_asm); (case k6 => k_is); (case k7 => k_is);  (case k8 => k_room); (case k9 => first | exact BindsTo.of_eq rfl | exact binds_K (by k_in) rfl (by k_is) rfl rfl rfl); (case c5 => decide); (case kB => exact locs rfl); (case c2 => exact rfl); (case c3 => exact rfl); (case c4 => exact rfl); k_whole)
  intro g' L' h'' FG' F' N' B' X' T'
  try dsimp only
  try k_lift B'
  try k_fold
  k_steps
  exact hret _ _ _ _ _ _ _ (by assumption) (by assumption) (fun p hp => Nat.lt_trans (l1 p hp) l2) l1 l2

-- Copy
section
local macro_rules | `(tactic| walk_at "call ref") => `(tactic| (k_here; (with_reducible show wpAny _ _ (call (Value.ref 119) _) _ _ _); (k_dflt (refine' mk_spec ?kB ?kF ?kX ?kN ?kT ?kK ?kdp ?kun ?kp0 ?kp1 ?kp2 ?_; (case kB | kF | kX => k_asm); (case kN => exact (by k_asm)); (case kT => k_asm); (case kK => first | exact rfl | assumption); (case kdp => ktr_room); (case kun => ktr_units); (case kp0 | kp1 | kp2 => first | assumption | omega); k_whole)); intro x' dx' u1' u2' u3' h' tk' F' N' l1 l2 l3; (try k_lt l1); (try k_lt l2); (try k_sweep); (try dsimp only); (try k_fold)))
local macro_rules | `(tactic| walk_at "no such step") => `(tactic| skip)
set_option maxHeartbeats 4000000 in
theorem copy_spec : ∀ {w : World} {mean : ExcName → Option Value} {mg mb : Str → Option Value} {dp un : Nat} {gd : Option (List Code)} {cn : Str} {cs : Scope} {fa : Addr} {ccd : Value} {cl : List (Str × Addr)} {outer : List Env} {A₀ : Around} {base h₀ : Heap} {L : Addr} {m : Str → Option Value} {rest : List (Addr × Obj)} {s : Shared} {Q E : Value → Shared → Prop} {x dx : Addr} {a b c : Int} {u1 u2 u3 ta tb tc : Tok} (B : Below A₀ base outer h₀) (F : Fr h₀ L s.heap m) (X : (hd.heap_39 w.params).In h₀) (N : News h₀ L s.heap ((x, instObj 119 dx) :: (dx, dictOf [⟨PyData.keyHash w.params (Str.ofString "one"), .str (Str.ofString "one") u1, .int a ta⟩, ⟨PyData.keyHash w.params (Str.ofString "two"), .str (Str.ofString "two") u2, .int b tb⟩, ⟨PyData.keyHash w.params (Str.ofString "three"), .str (Str.ofString "three") u3, .int c tc⟩] 3) :: rest)) (T : Top view (looseW view [Str.ofString "PressError"]) mean mg mb h₀) (hk : cs.kind = .function) (hdp : dp + 5 < recursionLimit) (hun : un + 40 < cLine) (ha : 1 ≤ a) (hb : 1 ≤ b) (hc : 1 ≤ c) (hret : ∀ (x' dx' : Addr) (u1' u2' u3' : Tok) (h' : Heap) (tk' : Nat), Fr h₀ L h' m → News h₀ L h' ((x', instObj 119 dx') :: (dx', dictOf [⟨PyData.keyHash w.params (Str.ofString "one"), .str (Str.ofString "one") u1', .int a ta⟩, ⟨PyData.keyHash w.params (Str.ofString "two"), .str (Str.ofString "two") u2', .int b tb⟩, ⟨PyData.keyHash w.params (Str.ofString "three"), .str (Str.ofString "three") u3', .int c tc⟩] 3) :: (x, instObj 119 dx) :: (dx, dictOf [⟨PyData.keyHash w.params (Str.ofString "one"), .str (Str.ofString "one") u1, .int a ta⟩, ⟨PyData.keyHash w.params (Str.ofString "two"), .str (Str.ofString "two") u2, .int b tb⟩, ⟨PyData.keyHash w.params (Str.ofString "three"), .str (Str.ofString "three") u3, .int c tc⟩] 3) :: rest) → (∀ p ∈ (x, instObj 119 dx) :: (dx, dictOf [⟨PyData.keyHash w.params (Str.ofString "one"), .str (Str.ofString "one") u1, .int a ta⟩, ⟨PyData.keyHash w.params (Str.ofString "two"), .str (Str.ofString "two") u2, .int b tb⟩, ⟨PyData.keyHash w.params (Str.ofString "three"), .str (Str.ofString "three") u3, .int c tc⟩] 3) :: rest, p.1 < x') → (∀ p ∈ (x, instObj 119 dx) :: (dx, dictOf [⟨PyData.keyHash w.params (Str.ofString "one"), .str (Str.ofString "one") u1, .int a ta⟩, ⟨PyData.keyHash w.params (Str.ofString "two"), .str (Str.ofString "two") u2, .int b tb⟩, ⟨PyData.keyHash w.params (Str.ofString "three"), .str (Str.ofString "three") u3, .int c tc⟩] 3) :: rest, p.1 < dx') → @LT.lt Nat _ dx' x' → Q (.ref x') { s with heap := h', toks := tk' }), wpAny (model PySem.Challenge.rw_no0090_01.row.prog w) (ktrTop dp un gd cn cs L fa ccd cl outer) (call (.ref 88) [.ref x]) Q E s := by
  k_fill
  w_top off
  intro w mean mg mb dp un gd cn cs fa ccd cl outer A₀ base h₀ L m rest s Q E x dx a b c u1 u2 u3 ta tb tc B F X N T hk hdp hun ha hb hc hret
  have hMk : KstMark := kstMark
  refine wpAny_call ?_
  k_dflt cell_enter
  k_steps
  (refine' hret _ _ _ _ _ _ _ ?eF ?eN ?eL0 ?eL1 ?eP0
   (case eF => k_asm)
   (case eN => (refine' cb_drop ?cN ?cS; (case cN => k_asm); (case cS => exact (List.forall_mem_cons.mpr ⟨by k_memK, (List.forall_mem_cons.mpr ⟨by k_memK, (List.forall_mem_cons.mpr ⟨by k_memK, (List.forall_mem_cons.mpr ⟨by k_memK, (fun p hp => by k_ownIn)⟩)⟩)⟩)⟩))))
   (case eL0 => first | assumption | ((repeat (cases (by assumption : _ ∧ _))); exact kst_ltOf ⟨by omega, ⟨by omega, (by assumption)⟩⟩))
   (case eL1 => first | assumption | ((repeat (cases (by assumption : _ ∧ _))); exact kst_ltOf ⟨by omega, ⟨by omega, (by assumption)⟩⟩))
   (case eP0 => assumption))
end

-- Told
theorem tell_a {a b c v l : Int} (hv : 1 ≤ v) (h : ¬ 3 < v) (hl : 0 < l) : [a, b, c].getD (v - 1).toNat 0 = tellD a b c v l := by
  unfold tellD
  rw [if_neg h, if_pos hl]
  obtain rfl | rfl | rfl : v = 1 ∨ v = 2 ∨ v = 3 := by omega
  all_goals rfl
theorem tell_b {a b c v l : Int} (hv : 1 ≤ v) (h : ¬ 3 < v) (hl : ¬ 0 < l) (h3 : v ≠ 3) : [a, b, c].getD v.toNat 0 = tellD a b c v l := by
  unfold tellD
  rw [if_neg h, if_neg hl]
  obtain rfl | rfl : v = 1 ∨ v = 2 := by omega
  all_goals rfl
theorem tell_c {a b c v l : Int} (h : ¬ 3 < v) (hl : ¬ 0 < l) (h3 : v = 3) : a - 1 = tellD a b c v l := by
  subst h3
  unfold tellD
  rw [if_neg h, if_neg hl]
  rfl
theorem tell_d {a b c v l : Int} (h : 3 < v) : v - 3 = tellD a b c v l := by
  unfold tellD
  rw [if_pos h]
theorem tellp_a {v l : Int} (h : ¬ 3 < v) (hl : 0 < l) : v - 1 = tellP v l := by
  unfold tellP
  rw [if_neg h, if_pos hl]
theorem tellp_b {v l : Int} (h : ¬ 3 < v) (hl : ¬ 0 < l) : v = tellP v l := by
  unfold tellP
  rw [if_neg h, if_neg hl]
theorem tellp_c {v l : Int} (h : ¬ 3 < v) (hl : ¬ 0 < l) (h3 : v = 3) : 3 = tellP v l := by
  subst h3
  exact tellp_b h hl
theorem tellp_d {v l : Int} (h : 3 < v) : 3 = tellP v l := by
  unfold tellP
  rw [if_pos h]
set_option maxHeartbeats 4000000 in
theorem told_spec : ∀ {w : World} {mean : ExcName → Option Value} {mg mb : Str → Option Value} {dp un : Nat} {gd : Option (List Code)} {cn : Str} {cs : Scope} {fa : Addr} {ccd : Value} {cl : List (Str × Addr)} {outer : List Env} {A₀ : Around} {base h₀ : Heap} {L : Addr} {m : Str → Option Value} {rest : List (Addr × Obj)} {s : Shared} {Q E : Value → Shared → Prop} {x dx : Addr} {a b c v l : Int} {u1 u2 u3 ta tb tc tv tl : Tok} (B : Below A₀ base outer h₀) (F : Fr h₀ L s.heap m) (X : (hd.heap_39 w.params).In h₀) (N : News h₀ L s.heap ((x, instObj 119 dx) :: (dx, dictOf [⟨PyData.keyHash w.params (Str.ofString "one"), .str (Str.ofString "one") u1, .int a ta⟩, ⟨PyData.keyHash w.params (Str.ofString "two"), .str (Str.ofString "two") u2, .int b tb⟩, ⟨PyData.keyHash w.params (Str.ofString "three"), .str (Str.ofString "three") u3, .int c tc⟩] 3) :: rest)) (T : Top view (looseW view [Str.ofString "PressError"]) mean mg mb h₀) (hk : cs.kind = .function) (hdp : dp + 2 < recursionLimit) (hun : un + 20 < cLine) (hv : 1 ≤ v) (hl : 0 ≤ l) (hret : ∀ (tp : Addr) (d q : Int) (td tq : Tok) (h' : Heap) (tk' : Nat), Fr h₀ L h' m → News h₀ L h' ((tp, ({ cls := .type "tuple", data := .seq #[.int d td, .int q tq] } : Obj)) :: (x, instObj 119 dx) :: (dx, dictOf [⟨PyData.keyHash w.params (Str.ofString "one"), .str (Str.ofString "one") u1, .int a ta⟩, ⟨PyData.keyHash w.params (Str.ofString "two"), .str (Str.ofString "two") u2, .int b tb⟩, ⟨PyData.keyHash w.params (Str.ofString "three"), .str (Str.ofString "three") u3, .int c tc⟩] 3) :: rest) → (∀ p ∈ (x, instObj 119 dx) :: (dx, dictOf [⟨PyData.keyHash w.params (Str.ofString "one"), .str (Str.ofString "one") u1, .int a ta⟩, ⟨PyData.keyHash w.params (Str.ofString "two"), .str (Str.ofString "two") u2, .int b tb⟩, ⟨PyData.keyHash w.params (Str.ofString "three"), .str (Str.ofString "three") u3, .int c tc⟩] 3) :: rest, p.1 < tp) → d = tellD a b c v l → q = tellP v l → Q (.ref tp) { s with heap := h', toks := tk' }), wpAny (model PySem.Challenge.rw_no0090_01.row.prog w) (ktrTop dp un gd cn cs L fa ccd cl outer) (call (.ref 95) [.ref x, .int v tv, .int l tl]) Q E s := by
  k_fill
  w_top off
  intro w mean mg mb dp un gd cn cs fa ccd cl outer A₀ base h₀ L m rest s Q E x dx a b c v l u1 u2 u3 ta tb tc tv tl B F X N T hk hdp hun hv hl hret
  have hMk : KstMark := kstMark
  refine wpAny_call ?_
  k_dflt cell_enter
  k_steps
  all_goals first
  | (exfalso; omega)
  | (refine' hret _ _ _ _ _ _ _ ?eF ?eN ?eL0 ?eP0 ?eP1
     (case eF => k_asm)
     (case eN => (refine' cb_drop ?cN ?cS; (case cN => k_asm); (case cS => exact (List.forall_mem_cons.mpr ⟨by k_memK, (List.forall_mem_cons.mpr ⟨by k_memK, (List.forall_mem_cons.mpr ⟨by k_memK, (fun p hp => by k_ownIn)⟩)⟩)⟩))))
     (case eL0 => first | assumption | ((repeat (cases (by assumption : _ ∧ _))); exact kst_ltOf ⟨by omega, ⟨by omega, (by assumption)⟩⟩))
     (case eP0 => first | exact tell_a hv (by assumption) (by assumption) | exact tell_b hv (by assumption) (by assumption) (by assumption) | exact tell_c (by assumption) (by omega) (by omega) | exact tell_d (by assumption))
     (case eP1 => first | exact tellp_a (by assumption) (by assumption) | exact tellp_b (by assumption) (by assumption) | exact tellp_c (by assumption) (by omega) (by omega) | exact tellp_d (by assumption)))
theorem told_use : ∀ {w : World} {mean : ExcName → Option Value} {mg mb : Str → Option Value} {dp un : Nat} {gd : Option (List Code)} {cn : Str} {cs : Scope} {fa : Addr} {ccd : Value} {cl : List (Str × Addr)} {outer : List Env} {A₀ : Around} {base h₀ : Heap} {L : Addr} {m : Str → Option Value} {rest : List (Addr × Obj)} {s : Shared} {Q E : Value → Shared → Prop} {x dx : Addr} {a b c v l : Int} {u1 u2 u3 ta tb tc tv tl : Tok} (B : Below A₀ base outer h₀) (F : Fr h₀ L s.heap m) (X : (hd.heap_39 w.params).In h₀) (N : News h₀ L s.heap ((x, instObj 119 dx) :: (dx, dictOf [⟨PyData.keyHash w.params (Str.ofString "one"), .str (Str.ofString "one") u1, .int a ta⟩, ⟨PyData.keyHash w.params (Str.ofString "two"), .str (Str.ofString "two") u2, .int b tb⟩, ⟨PyData.keyHash w.params (Str.ofString "three"), .str (Str.ofString "three") u3, .int c tc⟩] 3) :: rest)) (T : Top view (looseW view [Str.ofString "PressError"]) mean mg mb h₀) (hk : cs.kind = .function) (hdp : dp + 2 < recursionLimit) (hun : un + 20 < cLine) (hv : 1 ≤ v) (hl : 0 ≤ l) (hret : ∀ (tp : Addr) (td tq : Tok) (h' : Heap) (tk' : Nat), Fr h₀ L h' m → News h₀ L h' ((tp, ({ cls := .type "tuple", data := .seq #[.int (tellD a b c v l) td, .int (tellP v l) tq] } : Obj)) :: (x, instObj 119 dx) :: (dx, dictOf [⟨PyData.keyHash w.params (Str.ofString "one"), .str (Str.ofString "one") u1, .int a ta⟩, ⟨PyData.keyHash w.params (Str.ofString "two"), .str (Str.ofString "two") u2, .int b tb⟩, ⟨PyData.keyHash w.params (Str.ofString "three"), .str (Str.ofString "three") u3, .int c tc⟩] 3) :: rest) → (∀ p ∈ (x, instObj 119 dx) :: (dx, dictOf [⟨PyData.keyHash w.params (Str.ofString "one"), .str (Str.ofString "one") u1, .int a ta⟩, ⟨PyData.keyHash w.params (Str.ofString "two"), .str (Str.ofString "two") u2, .int b tb⟩, ⟨PyData.keyHash w.params (Str.ofString "three"), .str (Str.ofString "three") u3, .int c tc⟩] 3) :: rest, p.1 < tp) → Q (.ref tp) { s with heap := h', toks := tk' }), wpAny (model PySem.Challenge.rw_no0090_01.row.prog w) (ktrTop dp un gd cn cs L fa ccd cl outer) (call (.ref 95) [.ref x, .int v tv, .int l tl]) Q E s := by
  intro w mean mg mb dp un gd cn cs fa ccd cl outer A₀ base h₀ L m rest s Q E x dx a b c v l u1 u2 u3 ta tb tc tv tl B F X N T hk hdp hun hv hl hret
  refine told_spec B F X N T hk hdp hun hv hl (fun tp₉ d₉ q₉ td₉ tq₉ h'₉ tk'₉ k0₉ k1₉ k2₉ e0₉ e1₉ => ?_)
  subst e0₉
  subst e1₉
  exact hret tp₉ td₉ tq₉ h'₉ tk'₉ k0₉ k1₉ k2₉

-- Dist
theorem mv1 {a b c v l : Int} (hv : 1 ≤ v) (hp : tellP v l = 1) : a = t2 a b v l ∧ c = t3 b c v l := by
  unfold tellP at hp
  unfold t2 t3
  constructor <;> (repeat' split at hp) <;> (repeat' split) <;> first | rfl | omega
theorem mv2 {a b c v l : Int} (h : 1 < tellP v l) : a = t2 a b v l ∧ b = t3 b c v l := by
  unfold tellP at h
  unfold t2 t3
  constructor <;> (repeat' split at h) <;> (repeat' split) <;> first | rfl | omega
theorem mv0 {a b c v l : Int} (hv : 1 ≤ v) (hp : ¬ tellP v l = 1) (h : ¬ 1 < tellP v l) : a = tellD a b c v l ∧ b = t2 a b v l ∧ c = t3 b c v l := by
  unfold tellP at h hp
  unfold t2 t3 tellD
  refine ⟨?_, ?_, ?_⟩ <;> (repeat' split at h) <;> (repeat' split) <;> first | rfl | omega
local macro_rules | `(tactic| walk_at "call ref") => `(tactic| (k_here; (with_reducible show wpAny _ _ (call (Value.ref 95) _) _ _ _); (k_dflt (refine' told_use ?kB ?kF ?kX ?kN ?kT ?kK ?kdp ?kun ?kp0 ?kp1 ?_; (case kB | kF | kX => k_asm); (case kN => exact (News.pick2 (by k_asm) (by k_mem) (by k_mem))); (case kT => k_asm); (case kK => first | exact rfl | assumption); (case kdp => ktr_room); (case kun => ktr_units); (case kp0 | kp1 => omega); k_whole)); intro tp' td' tq' h' tk' F' N' l1; (try k_lt l1); (try k_sweep); (try dsimp only); (try k_fold)))
section
local macro_rules | `(tactic| walk_at "no such step") => `(tactic| skip)
local macro_rules | `(tactic| walk_at "no such step") => `(tactic| skip)
set_option maxHeartbeats 4000000 in
theorem dist_spec : ∀ {w : World} {mean : ExcName → Option Value} {mg mb : Str → Option Value} {dp un : Nat} {gd : Option (List Code)} {cn : Str} {cs : Scope} {fa : Addr} {ccd : Value} {cl : List (Str × Addr)} {outer : List Env} {A₀ : Around} {base h₀ : Heap} {L : Addr} {m : Str → Option Value} {rest : List (Addr × Obj)} {s : Shared} {Q E : Value → Shared → Prop} {x dx : Addr} {a b c v l : Int} {u1 u2 u3 ta tb tc tv tl : Tok} (B : Below A₀ base outer h₀) (F : Fr h₀ L s.heap m) (X : (hd.heap_39 w.params).In h₀) (N : News h₀ L s.heap ((x, instObj 119 dx) :: (dx, dictOf [⟨PyData.keyHash w.params (Str.ofString "one"), .str (Str.ofString "one") u1, .int a ta⟩, ⟨PyData.keyHash w.params (Str.ofString "two"), .str (Str.ofString "two") u2, .int b tb⟩, ⟨PyData.keyHash w.params (Str.ofString "three"), .str (Str.ofString "three") u3, .int c tc⟩] 3) :: rest)) (hDdx : ∀ p ∈ rest, p.1 ≠ dx) (T : Top view (looseW view [Str.ofString "PressError"]) mean mg mb h₀) (hk : cs.kind = .function) (hdp : dp + 4 < recursionLimit) (hun : un + 40 < cLine) (hxd : @LT.lt Nat _ dx x) (hv : 1 ≤ v) (hl : 0 ≤ l) (hne : tellD a b c v l ≠ 0) (hret : ∀ (d a' b' c' : Int) (td ta' tb' tc' : Tok) (h' : Heap) (tk' : Nat), Fr h₀ L h' m → News h₀ L h' ((x, instObj 119 dx) :: (dx, dictOf [⟨PyData.keyHash w.params (Str.ofString "one"), .str (Str.ofString "one") u1, .int a' ta'⟩, ⟨PyData.keyHash w.params (Str.ofString "two"), .str (Str.ofString "two") u2, .int b' tb'⟩, ⟨PyData.keyHash w.params (Str.ofString "three"), .str (Str.ofString "three") u3, .int c' tc'⟩] 3) :: rest) → d = tellD a b c v l → a' = tellD a b c v l → b' = t2 a b v l → c' = t3 b c v l → Q (.int d td) { s with heap := h', toks := tk' }), wpAny (model PySem.Challenge.rw_no0090_01.row.prog w) (ktrTop dp un gd cn cs L fa ccd cl outer) (call (.ref 109) [.ref x, .int v tv, .int l tl]) Q E s := by
  k_fill
  w_top off
  intro w mean mg mb dp un gd cn cs fa ccd cl outer A₀ base h₀ L m rest s Q E x dx a b c v l u1 u2 u3 ta tb tc tv tl B F X N hDdx T hk hdp hun hxd hv hl hne hret
  have hMk : KstMark := kstMark
  have hOdx : OwnOff rest [dx] := fun p hp b hb => by rw [List.mem_singleton.mp hb]; exact hDdx p hp
  refine wpAny_call ?_
  k_dflt cell_enter
  k_steps
  · exact absurd (by assumption) hne
  · (refine' hret _ _ _ _ _ _ _ _ _ _ ?eF ?eN ?eP0 ?eP1 ?eP2 ?eP3
     (case eF => k_asm)
     (case eN => (refine' cb_drop ?cN ?cS; (case cN => k_asm); (case cS => exact (List.forall_mem_cons.mpr ⟨by k_memK, (List.forall_mem_cons.mpr ⟨by k_memK, (fun p hp => by k_ownIn)⟩)⟩))))
     (case eP0 => rfl)
     (case eP1 => rfl)
     (case eP2 => exact (mv1 (c := c) hv (by assumption)).1)
     (case eP3 => exact (mv1 (a := a) (b := b) hv (by assumption)).2))
  · (refine' hret _ _ _ _ _ _ _ _ _ _ ?eF ?eN ?eP0 ?eP1 ?eP2 ?eP3
     (case eF => k_asm)
     (case eN => (refine' cb_drop ?cN ?cS; (case cN => k_asm); (case cS => exact (List.forall_mem_cons.mpr ⟨by k_memK, (List.forall_mem_cons.mpr ⟨by k_memK, (fun p hp => by k_ownIn)⟩)⟩))))
     (case eP0 => rfl)
     (case eP1 => rfl)
     (case eP2 => exact (mv2 (c := c) (by assumption)).1)
     (case eP3 => exact (mv2 (a := a) (by assumption)).2))
  · (refine' hret _ _ _ _ _ _ _ _ _ _ ?eF ?eN ?eP0 ?eP1 ?eP2 ?eP3
     (case eF => k_asm)
     (case eN => (refine' cb_drop ?cN ?cS; (case cN => k_asm); (case cS => exact (List.forall_mem_cons.mpr ⟨by k_memK, (List.forall_mem_cons.mpr ⟨by k_memK, (fun p hp => by k_ownIn)⟩)⟩))))
     (case eP0 => rfl)
     (case eP1 => exact (mv0 (b := b) (c := c) hv (by assumption) (by assumption)).1)
     (case eP2 => exact (mv0 (c := c) hv (by assumption) (by assumption)).2.1)
     (case eP3 => exact (mv0 (a := a) hv (by assumption) (by assumption)).2.2))
theorem dist_use : ∀ {w : World} {mean : ExcName → Option Value} {mg mb : Str → Option Value} {dp un : Nat} {gd : Option (List Code)} {cn : Str} {cs : Scope} {fa : Addr} {ccd : Value} {cl : List (Str × Addr)} {outer : List Env} {A₀ : Around} {base h₀ : Heap} {L : Addr} {m : Str → Option Value} {rest : List (Addr × Obj)} {s : Shared} {Q E : Value → Shared → Prop} {x dx : Addr} {a b c v l : Int} {u1 u2 u3 ta tb tc tv tl : Tok} {D : Int} (B : Below A₀ base outer h₀) (F : Fr h₀ L s.heap m) (X : (hd.heap_39 w.params).In h₀) (N : News h₀ L s.heap ((x, instObj 119 dx) :: (dx, dictOf [⟨PyData.keyHash w.params (Str.ofString "one"), .str (Str.ofString "one") u1, .int a ta⟩, ⟨PyData.keyHash w.params (Str.ofString "two"), .str (Str.ofString "two") u2, .int b tb⟩, ⟨PyData.keyHash w.params (Str.ofString "three"), .str (Str.ofString "three") u3, .int c tc⟩] 3) :: rest)) (hDdx : ∀ p ∈ rest, p.1 ≠ dx) (T : Top view (looseW view [Str.ofString "PressError"]) mean mg mb h₀) (hk : cs.kind = .function) (hdp : dp + 4 < recursionLimit) (hun : un + 40 < cLine) (hxd : @LT.lt Nat _ dx x) (hv : 1 ≤ v) (hl : 0 ≤ l) (hne : tellD a b c v l ≠ 0) (hd : tellD a b c v l = D) (hret : ∀ (td ta' tb' tc' : Tok) (h' : Heap) (tk' : Nat), Fr h₀ L h' m → News h₀ L h' ((x, instObj 119 dx) :: (dx, dictOf [⟨PyData.keyHash w.params (Str.ofString "one"), .str (Str.ofString "one") u1, .int D ta'⟩, ⟨PyData.keyHash w.params (Str.ofString "two"), .str (Str.ofString "two") u2, .int (t2 a b v l) tb'⟩, ⟨PyData.keyHash w.params (Str.ofString "three"), .str (Str.ofString "three") u3, .int (t3 b c v l) tc'⟩] 3) :: rest) → Q (.int D td) { s with heap := h', toks := tk' }), wpAny (model PySem.Challenge.rw_no0090_01.row.prog w) (ktrTop dp un gd cn cs L fa ccd cl outer) (call (.ref 109) [.ref x, .int v tv, .int l tl]) Q E s := by
  intro w mean mg mb dp un gd cn cs fa ccd cl outer A₀ base h₀ L m rest s Q E x dx a b c v l u1 u2 u3 ta tb tc tv tl D B F X N hDdx T hk hdp hun hxd hv hl hne hd hret
  refine dist_spec B F X N hDdx T hk hdp hun hxd hv hl hne (fun d₉ a'₉ b'₉ c'₉ td₉ ta'₉ tb'₉ tc'₉ h'₉ tk'₉ k0₉ k1₉ e0₉ e1₉ e2₉ e3₉ => ?_)
  subst hd
  subst e0₉
  subst e1₉
  subst e2₉
  subst e3₉
  exact hret td₉ ta'₉ tb'₉ tc'₉ h'₉ tk'₉ k0₉ k1₉
end

-- Take
section
local macro_rules | `(tactic| walk_at "no such step") => `(tactic| skip)
local macro_rules | `(tactic| walk_at "no such step") => `(tactic| skip)
set_option maxHeartbeats 4000000 in
theorem take_spec : ∀ {w : World} {mean : ExcName → Option Value} {mg mb : Str → Option Value} {dp un : Nat} {gd : Option (List Code)} {cn : Str} {cs : Scope} {fa : Addr} {ccd : Value} {cl : List (Str × Addr)} {outer : List Env} {A₀ : Around} {base h₀ : Heap} {L : Addr} {m : Str → Option Value} {rest : List (Addr × Obj)} {s : Shared} {Q E : Value → Shared → Prop} {box : Addr} {g sd n many : Int} {t1 t2 t3 t4 : Tok} {k : Nat} (B : Below A₀ base outer h₀) (F : Fr h₀ L s.heap m) (X : (hd.heap_39 w.params).In h₀) (N : News h₀ L s.heap ((box, listOf #[.int g t1, .int sd t2, .int n t3] k) :: rest)) (hDbox : ∀ p ∈ rest, p.1 ≠ box) (T : Top view (looseW view [Str.ofString "PressError"]) mean mg mb h₀) (hk : cs.kind = .function) (hdp : dp + 1 < recursionLimit) (hun : un + 8 < cLine) (hm0 : 0 < many) (hm1 : many ≤ 1000000) (hs0 : 0 ≤ sd) (hs1 : sd < 2147483629) (hn0 : 0 ≤ n) (hn1 : n < 1000000) (hg0 : 0 ≤ g) (hret : ∀ (d g' n' : Int) (t t1' t3' : Tok) (k' : Nat) (h' : Heap) (tk' : Nat), Fr h₀ L h' m → News h₀ L h' ((box, listOf #[.int g' t1', .int sd t2, .int n' t3'] k') :: rest) → 0 ≤ d → d < many → 0 ≤ g' → g' ≤ g → n ≤ n' → n' ≤ n + 1 → Q (.int d t) { s with heap := h', toks := tk' }), wpAny (model PySem.Challenge.rw_no0090_01.row.prog w) (ktrTop dp un gd cn cs L fa ccd cl outer) (call (.ref 137) [.ref box, .int many t4]) Q E s := by
  k_fill
  w_top off
  intro w mean mg mb dp un gd cn cs fa ccd cl outer A₀ base h₀ L m rest s Q E box g sd n many t1 t2 t3 t4 k B F X N hDbox T hk hdp hun hm0 hm1 hs0 hs1 hn0 hn1 hg0 hret
  have hMk : KstMark := kstMark
  have hObox : OwnOff rest [box] := fun p hp b hb => by rw [List.mem_singleton.mp hb]; exact hDbox p hp
  refine wpAny_call ?_
  k_dflt cell_enter
  k_steps
  · exact hret _ _ _ _ _ _ _ _ _ (by assumption) (by assumption) (fm_lo _ _ hm0) (fm_hi _ _ hm0) (fd_le g many hg0 hm0).1 (fd_le g many hg0 hm0).2 (Int.le_refl _) (by omega)
  · exact hret _ _ _ _ _ _ _ _ _ (by assumption) (by assumption) (fm_lo _ _ hm0) (fm_hi _ _ hm0) hg0 (Int.le_refl _) (by show n ≤ n + 1; omega) (by show n + 1 ≤ n + 1; omega)
end

-- Meant
section
local macro_rules | `(tactic| walk_at "CompRest") => `(tactic| (with_unfolding_all first | (refine LCg.CompRest.succ (open_range ?_); intro t' I' oI' C' oC' D' m' h' tk' E' hC' hx' F' N' oI' oC' oD' nIC' nID' nCD') | (refine LCg.CompRest.succ (open_item (by rfl) ?_); intro I' oI' C' oC' D' m' h' tk' E' hC' hx' F' N' oI' oC' oD' nIC' nID' nCD')))
local macro_rules | `(tactic| walk_at "CompRestT") => `(tactic| (with_unfolding_all first | (refine LCt.CompRestT.succ (open_range ?_); intro t' I' oI' C' oC' D' m' h' tk' E' hC' hx' F' N' oI' oC' oD' nIC' nID' nCD') | (refine LCt.CompRestT.succ (open_item (by rfl) ?_); intro I' oI' C' oC' D' m' h' tk' E' hC' hx' F' N' oI' oC' oD' nIC' nID' nCD')))
local macro_rules | `(tactic| walk_at "FinE") => `(tactic| ((unfold LCg.FinE); intro D' h' tk' F' N' o1'; (replace o1' := off_1 o1'); (try simp only [List.nil_append, List.cons_append] at N'); (try dsimp only)))
local macro_rules | `(tactic| walk_at "eval ListComp") => `(tactic| ((with_reducible show wpAny _ _ (eval (Expr.ListComp _ _ _ _) _) _ _ _); k_here; lct_look; lcg_calm; k_dflt (refine LCt.ListComp_T (F₀ := by k_asm) (by with_unfolding_all rfl) (by decide) (by rfl) (by decide) (by rfl) ?_); k_dflt lct_toSrc))
local macro_rules | `(tactic| walk_at "eval ListComp") => `(tactic| ((with_reducible show wpAny _ _ (eval (Expr.ListComp _ _ _ _) _) _ _ _); k_here; lcf_look; lcg_calm; k_dflt (refine LCg.ListComp_U (F₀ := by k_asm) (by with_unfolding_all rfl) (by decide) (by rfl) (by decide) (by rfl) ?_); k_dflt lcg_toSrc))
local macro_rules | `(tactic| walk_at "CompSrc") => `(tactic| (k_here; k_dflt (first
  | (refine LCg.CompSrc.ledger (by rfl) (by k_asm) (by k_asm) (by k_mem) (by first | size_fits | exact Nat.le_of_ble_eq_true rfl) ?_; intro g'; lcg_lit)
  | (refine LCg.CompSrc.range (by rfl) (by k_asm) (by k_asm) (by assumption) (by first | decide | rfl) (by first | rfl | decide) (by first | size_fits | exact Nat.le_of_ble_eq_true rfl) ?_; intro g'; lcg_lit))))
theorem ltN' {a b : Nat} (h : a < b) : @LT.lt Nat _ a b := h
theorem t2_b {a b v l : Int} (h : v = 1) (hl : 0 < l) : b = t2 a b v l := by
  unfold t2
  rw [if_pos ⟨h, hl⟩]
theorem t2_a {a b v l : Int} (h : ¬ (v = 1 ∧ 0 < l)) : a = t2 a b v l := by
  unfold t2
  rw [if_neg h]
theorem t3_c {b c v l : Int} (h : v = 1 ∨ (v = 2 ∧ 0 < l)) : c = t3 b c v l := by
  unfold t3
  rw [if_pos h]
theorem t3_b {b c v l : Int} (h : ¬ (v = 1 ∨ (v = 2 ∧ 0 < l))) : b = t3 b c v l := by
  unfold t3
  rw [if_neg h]
theorem spot_a {v : Int} (hv : 1 ≤ v) (h : v ≤ 3) : [(0 : Int), 1, 2].getD (v - 1).toNat 0 = v - 1 := by
  obtain rfl | rfl | rfl : v = 1 ∨ v = 2 ∨ v = 3 := by omega
  all_goals rfl
theorem spot_b {v : Int} (hv : 1 ≤ v) (h : v ≤ 3) : [(1 : Int), 2, 3].getD (v - 1).toNat 0 = v := by
  obtain rfl | rfl | rfl : v = 1 ∨ v = 2 ∨ v = 3 := by omega
  all_goals rfl
section
local macro_rules | `(tactic| walk_at "exec If") => `(tactic| (simp (discharger := omega) only [spot_a, spot_b] at *))
local macro_rules | `(tactic| walk_at "eval Subscript") => `(tactic| (exfalso; omega))
local macro_rules | `(tactic| walk_at "CompEnd") => `(tactic| (exfalso; omega))
set_option maxHeartbeats 4000000 in
theorem meant_spec : ∀ {w : World} {mean : ExcName → Option Value} {mg mb : Str → Option Value} {dp un : Nat} {gd : Option (List Code)} {cn : Str} {cs : Scope} {fa : Addr} {ccd : Value} {cl : List (Str × Addr)} {outer : List Env} {A₀ : Around} {base h₀ : Heap} {L : Addr} {m : Str → Option Value} {rest : List (Addr × Obj)} {s : Shared} {Q E : Value → Shared → Prop} {th : Addr} {a b c v l : Int} {ta tb tc tv tl : Tok} {k : Nat} (B : Below A₀ base outer h₀) (F : Fr h₀ L s.heap m) (X : (hd.heap_39 w.params).In h₀) (N : News h₀ L s.heap ((th, listOf #[.int a ta, .int b tb, .int c tc] k) :: rest)) (hDth : ∀ p ∈ rest, p.1 ≠ th) (T : Top view (looseW view [Str.ofString "PressError"]) mean mg mb h₀) (hk : cs.kind = .function) (hdp : dp + 3 < recursionLimit) (hun : un + 40 < cLine) (hv : 1 ≤ v) (hl : 0 ≤ l) (hret : ∀ (tp ls : Addr) (d d' b' c' : Int) (td td' tb' tc' : Tok) (k' : Nat) (h' : Heap) (tk' : Nat), Fr h₀ L h' m → News h₀ L h' ((tp, ({ cls := .type "tuple", data := .seq #[.int d td, .ref ls] } : Obj)) :: (ls, listOf #[.int d' td', .int b' tb', .int c' tc'] k') :: (th, listOf #[.int a ta, .int b tb, .int c tc] k) :: rest) → (∀ p ∈ (th, listOf #[.int a ta, .int b tb, .int c tc] k) :: rest, p.1 < tp) → (∀ p ∈ (th, listOf #[.int a ta, .int b tb, .int c tc] k) :: rest, p.1 < ls) → @LT.lt Nat _ ls tp → d = tellD a b c v l → d' = tellD a b c v l → b' = t2 a b v l → c' = t3 b c v l → Q (.ref tp) { s with heap := h', toks := tk' }), wpAny (model PySem.Challenge.rw_no0090_01.row.prog w) (ktrTop dp un gd cn cs L fa ccd cl outer) (call (.ref 147) [.ref th, .int v tv, .int l tl]) Q E s := by
  k_fill
  w_top off
  intro w mean mg mb dp un gd cn cs fa ccd cl outer A₀ base h₀ L m rest s Q E th a b c v l ta tb tc tv tl k B F X N hDth T hk hdp hun hv hl hret
  have hMk : KstMark := kstMark
  have hOth : OwnOff rest [th] := fun p hp b hb => by rw [List.mem_singleton.mp hb]; exact hDth p hp
  (refine wpAny_call ?_
   k_dflt (refine' code_defCS (small := [(th, listOf #[.int a ta, .int b tb, .int c tc] k)]) ?k1 ?k2 ?k3 ?k4 ?kO ?k5 ?kA ?kF ?kK ?k6 ?k7 ?k8 ?k9 ?kB ?kD ?_ ?c2 ?c3 ?c4; (case kA => exact rfl); (case kF => exact rfl); (case kK => assumption); (case k1 => k_asm); (case k2 => k_asm); (case k3 => k_asm); (case k4 => exact N); (case kO => (refine List.forall_mem_cons.mpr ⟨hDth, ?_⟩; exact List.forall_mem_nil _)); (case k5 => k_asm); (case k6 => k_is); (case k7 => k_is); (case k8 => ktr_room); (case k9 => exact BindsTo.of_eq rfl); (case kB => exact rfl); (case kD => decide +kernel); (case c2 => exact rfl); (case c3 => exact rfl); (case c4 => exact rfl); k_whole)
   intro g' L' h' tk' cells' hRest FG' F' N' Y' B' X' T' l1 lR
   try k_lt l1
   k_cells Y'
   try simp only [List.cons_append, List.nil_append] at N'
   try dsimp only
   try k_lift B'
   clear N
   try k_fold
   k_steps)
  all_goals
  (refine' hret _ _ _ _ _ _ _ _ _ _ _ _ _ ?eF ?eN ?eL0 ?eL1 ?eP0 ?eP1 ?eP2 ?eP3 ?eP4
   (case eF => k_asm)
   (case eN => (refine' exitS (l := [_, _, _]) ?cN ?cF hRest; (case cF => assumption); (case cN => (refine' cb_drop ?cM ?cS; (case cM => k_asm); (case cS => exact (List.forall_mem_cons.mpr ⟨by k_memK, (List.forall_mem_cons.mpr ⟨by k_memK, (List.forall_mem_cons.mpr ⟨by k_memK, (List.forall_mem_nil _)⟩)⟩)⟩))))))
   (case eL0 => exact (List.forall_mem_cons.mpr ⟨by (refine ltN' ?_; omega), (fun p hp => Nat.lt_trans (lR p hp) (by omega))⟩))
   (case eL1 => exact (List.forall_mem_cons.mpr ⟨by (refine ltN' ?_; omega), (fun p hp => Nat.lt_trans (lR p hp) (by omega))⟩))
   (case eP0 => omega)
   (case eP1 => first | exact tell_a hv (by assumption) (by assumption) | exact tell_b hv (by assumption) (by assumption) (by assumption) | exact tell_c (by assumption) (by assumption) (by assumption) | exact tell_d (by assumption))
   (case eP2 => first | exact tell_a hv (by assumption) (by assumption) | exact tell_b hv (by assumption) (by assumption) (by assumption) | exact tell_c (by assumption) (by assumption) (by assumption) | exact tell_d (by assumption))
   (case eP3 => first | exact t2_b (by omega) (by omega) | exact t2_a (by omega))
   (case eP4 => first | exact t3_c (by omega) | exact t3_b (by omega)))
theorem meant_use : ∀ {w : World} {mean : ExcName → Option Value} {mg mb : Str → Option Value} {dp un : Nat} {gd : Option (List Code)} {cn : Str} {cs : Scope} {fa : Addr} {ccd : Value} {cl : List (Str × Addr)} {outer : List Env} {A₀ : Around} {base h₀ : Heap} {L : Addr} {m : Str → Option Value} {rest : List (Addr × Obj)} {s : Shared} {Q E : Value → Shared → Prop} {th : Addr} {a b c v l : Int} {ta tb tc tv tl : Tok} {k : Nat} {D : Int} (B : Below A₀ base outer h₀) (F : Fr h₀ L s.heap m) (X : (hd.heap_39 w.params).In h₀) (N : News h₀ L s.heap ((th, listOf #[.int a ta, .int b tb, .int c tc] k) :: rest)) (hDth : ∀ p ∈ rest, p.1 ≠ th) (T : Top view (looseW view [Str.ofString "PressError"]) mean mg mb h₀) (hk : cs.kind = .function) (hdp : dp + 3 < recursionLimit) (hun : un + 40 < cLine) (hv : 1 ≤ v) (hl : 0 ≤ l) (hd : tellD a b c v l = D) (hret : ∀ (tp ls : Addr) (td td' tb' tc' : Tok) (k' : Nat) (h' : Heap) (tk' : Nat), Fr h₀ L h' m → News h₀ L h' ((tp, ({ cls := .type "tuple", data := .seq #[.int D td, .ref ls] } : Obj)) :: (ls, listOf #[.int D td', .int (t2 a b v l) tb', .int (t3 b c v l) tc'] k') :: (th, listOf #[.int a ta, .int b tb, .int c tc] k) :: rest) → (∀ p ∈ (th, listOf #[.int a ta, .int b tb, .int c tc] k) :: rest, p.1 < tp) → (∀ p ∈ (th, listOf #[.int a ta, .int b tb, .int c tc] k) :: rest, p.1 < ls) → @LT.lt Nat _ ls tp → Q (.ref tp) { s with heap := h', toks := tk' }), wpAny (model PySem.Challenge.rw_no0090_01.row.prog w) (ktrTop dp un gd cn cs L fa ccd cl outer) (call (.ref 147) [.ref th, .int v tv, .int l tl]) Q E s := by
  intro w mean mg mb dp un gd cn cs fa ccd cl outer A₀ base h₀ L m rest s Q E th a b c v l ta tb tc tv tl k D B F X N hDth T hk hdp hun hv hl hd hret
  refine meant_spec B F X N hDth T hk hdp hun hv hl (fun tp₉ ls₉ d₉ d'₉ b'₉ c'₉ td₉ td'₉ tb'₉ tc'₉ k'₉ h'₉ tk'₉ k0₉ k1₉ k2₉ k3₉ k4₉ e0₉ e1₉ e2₉ e3₉ => ?_)
  subst hd
  subst e0₉
  subst e1₉
  subst e2₉
  subst e3₉
  exact hret tp₉ ls₉ td₉ td'₉ tb'₉ tc'₉ k'₉ h'₉ tk'₉ k0₉ k1₉ k2₉ k3₉ k4₉
end

-- RowOf
theorem tell_ne {a b c v l : Int} (ha : 1 ≤ a) (hb : 1 ≤ b) (hc : 1 ≤ c) (hv : 1 ≤ v) (hl : 0 < l) : tellD a b c v l ≠ 0 := by
  unfold tellD
  (repeat' split) <;> omega
section
local macro_rules | `(tactic| walk_at "call ref") => `(tactic| (k_here; (with_reducible show wpAny _ _ (call (Value.ref 88) _) _ _ _); (k_dflt (refine' copy_spec ?kB ?kF ?kX ?kN ?kT ?kK ?kdp ?kun ?kp0 ?kp1 ?kp2 ?_; (case kB | kF | kX => k_asm); (case kN => exact (News.pick2 (by k_asm) (by k_mem) (by k_mem))); (case kT => k_asm); (case kK => first | exact rfl | assumption); (case kdp => ktr_room); (case kun => ktr_units); (case kp0 | kp1 | kp2 => first | assumption | omega); k_whole)); intro x' dx' u1' u2' u3' h' tk' F' N' l1 l2 l3; (try k_lt l1); (try k_lt l2); (try k_sweep); (try dsimp only); (try k_fold)))
local macro_rules | `(tactic| walk_at "call ref") => `(tactic| (k_here; (with_reducible show wpAny _ _ (call (Value.ref 109) _) _ _ _); (k_dflt (refine' dist_use ?kB ?kF ?kX ?kN ?kDdx ?kT ?kK ?kdp ?kun ?kp0 ?kp1 ?kp2 ?kp3 ?kd ?_; (case kB | kF | kX => k_asm); (case kN => exact (News.pick2 (by k_asm) (by k_mem) (by k_mem))); (case kDdx => k_all); (case kT => k_asm); (case kK => first | exact rfl | assumption); (case kdp => ktr_room); (case kun => ktr_units); (case kp0 => first | assumption | omega); (case kp1 | kp2 => omega); (case kp3 => first | assumption | omega | (exact tell_ne (by omega) (by omega) (by omega) (by omega) (by omega))); (case kd => exact rfl); k_whole)); intro td' ta' tb' tc' h' tk' F' N'; (try k_sweep); (try dsimp only); (try k_fold)))
set_option maxHeartbeats 4000000 in
theorem rowof_spec : ∀ {w : World} {mean : ExcName → Option Value} {mg mb : Str → Option Value} {dp un : Nat} {gd : Option (List Code)} {cn : Str} {cs : Scope} {fa : Addr} {ccd : Value} {cl : List (Str × Addr)} {outer : List Env} {A₀ : Around} {base h₀ : Heap} {L : Addr} {m : Str → Option Value} {rest : List (Addr × Obj)} {s : Shared} {Q E : Value → Shared → Prop} {x dx : Addr} {a b c : Int} {u1 u2 u3 ta tb tc : Tok} (B : Below A₀ base outer h₀) (F : Fr h₀ L s.heap m) (X : (hd.heap_39 w.params).In h₀) (N : News h₀ L s.heap ((x, instObj 119 dx) :: (dx, dictOf [⟨PyData.keyHash w.params (Str.ofString "one"), .str (Str.ofString "one") u1, .int a ta⟩, ⟨PyData.keyHash w.params (Str.ofString "two"), .str (Str.ofString "two") u2, .int b tb⟩, ⟨PyData.keyHash w.params (Str.ofString "three"), .str (Str.ofString "three") u3, .int c tc⟩] 3) :: rest)) (hDx : ∀ p ∈ rest, p.1 ≠ x) (hDdx : ∀ p ∈ rest, p.1 ≠ dx) (T : Top view (looseW view [Str.ofString "PressError"]) mean mg mb h₀) (hk : cs.kind = .function) (hdp : dp + 8 < recursionLimit) (hun : un + 80 < cLine) (hxd : @LT.lt Nat _ dx x) (ha : 1 ≤ a) (hb : 1 ≤ b) (hc : 1 ≤ c) (hret : ∀ (ls : Addr) (a' b' c' : Int) (ta' tb' tc' : Tok) (k' : Nat) (h' : Heap) (tk' : Nat), Fr h₀ L h' m → News h₀ L h' ((ls, listOf #[.int a' ta', .int b' tb', .int c' tc'] k') :: (x, instObj 119 dx) :: (dx, dictOf [⟨PyData.keyHash w.params (Str.ofString "one"), .str (Str.ofString "one") u1, .int a ta⟩, ⟨PyData.keyHash w.params (Str.ofString "two"), .str (Str.ofString "two") u2, .int b tb⟩, ⟨PyData.keyHash w.params (Str.ofString "three"), .str (Str.ofString "three") u3, .int c tc⟩] 3) :: rest) → Apart ls ((x, instObj 119 dx) :: (dx, dictOf [⟨PyData.keyHash w.params (Str.ofString "one"), .str (Str.ofString "one") u1, .int a ta⟩, ⟨PyData.keyHash w.params (Str.ofString "two"), .str (Str.ofString "two") u2, .int b tb⟩, ⟨PyData.keyHash w.params (Str.ofString "three"), .str (Str.ofString "three") u3, .int c tc⟩] 3) :: rest) → a' = a → b' = b → c' = c → Q (.ref ls) { s with heap := h', toks := tk' }), wpAny (model PySem.Challenge.rw_no0090_01.row.prog w) (ktrTop dp un gd cn cs L fa ccd cl outer) (call (.ref 152) [.ref x]) Q E s := by
  k_fill
  w_top off
  intro w mean mg mb dp un gd cn cs fa ccd cl outer A₀ base h₀ L m rest s Q E x dx a b c u1 u2 u3 ta tb tc B F X N hDx hDdx T hk hdp hun hxd ha hb hc hret
  have hMk : KstMark := kstMark
  have hOx : OwnOff rest [x] := fun p hp b hb => by rw [List.mem_singleton.mp hb]; exact hDx p hp
  have hOdx : OwnOff rest [dx] := fun p hp b hb => by rw [List.mem_singleton.mp hb]; exact hDdx p hp
  refine wpAny_call ?_
  k_dflt (refine' code_defCS (small := [(x, instObj 119 dx), (dx, dictOf [⟨PyData.keyHash w.params (Str.ofString "one"), .str (Str.ofString "one") u1, .int a ta⟩, ⟨PyData.keyHash w.params (Str.ofString "two"), .str (Str.ofString "two") u2, .int b tb⟩, ⟨PyData.keyHash w.params (Str.ofString "three"), .str (Str.ofString "three") u3, .int c tc⟩] 3)]) ?k1 ?k2 ?k3 ?k4 ?kO ?k5 ?kA ?kF ?kK ?k6 ?k7 ?k8 ?k9 ?kB ?kD ?_ ?c2 ?c3 ?c4; (case kA => exact rfl); (case kF => exact rfl); (case kK => assumption); (case k1 => k_asm); (case k2 => k_asm); (case k3 => k_asm); (case k4 => exact N); (case kO => (refine List.forall_mem_cons.mpr ⟨hDx, ?_⟩; refine List.forall_mem_cons.mpr ⟨hDdx, ?_⟩; exact List.forall_mem_nil _)); (case k5 => k_asm); (case k6 => k_is); (case k7 => k_is); (case k8 => ktr_room); (case k9 => exact BindsTo.of_eq rfl); (case kB => exact rfl); (case kD => decide +kernel); (case c2 => exact rfl); (case c3 => exact rfl); (case c4 => exact rfl); k_whole)
  intro g' L' h' tk' cells' hRest FG' F' N' Y' B' X' T' l1 lR
  try k_lt l1
  k_cells Y'
  try simp only [List.cons_append, List.nil_append] at N'
  try dsimp only
  try k_lift B'
  clear N
  try k_fold
  k_steps
  (refine' hret _ _ _ _ _ _ _ _ _ _ ?eF ?eN ?eA ?eP0 ?eP1 ?eP2
   (case eF => k_asm)
   (case eN => (refine' exitS (l := [_, _, _]) ?cN ?cF hRest; (case cF => assumption); (case cN => (refine' cb_drop ?cM ?cS; (case cM => k_asm); (case cS => exact (List.forall_mem_cons.mpr ⟨by k_memK, (List.forall_mem_cons.mpr ⟨by k_memK, (List.forall_mem_cons.mpr ⟨by k_memK, (List.forall_mem_nil _)⟩)⟩)⟩))))))
   (case eA => exact ⟨(List.forall_mem_cons.mpr ⟨by k_ne, (List.forall_mem_cons.mpr ⟨by k_ne, (apart_rest hRest (by assumption) (by k_memK))⟩)⟩)⟩)
   (case eP0 => (unfold tellD; (repeat' split) <;> first | rfl | omega))
   (case eP1 => (unfold tellD; (repeat' split) <;> first | rfl | omega))
   (case eP2 => (unfold tellD; (repeat' split) <;> first | rfl | omega)))
theorem rowof_use : ∀ {w : World} {mean : ExcName → Option Value} {mg mb : Str → Option Value} {dp un : Nat} {gd : Option (List Code)} {cn : Str} {cs : Scope} {fa : Addr} {ccd : Value} {cl : List (Str × Addr)} {outer : List Env} {A₀ : Around} {base h₀ : Heap} {L : Addr} {m : Str → Option Value} {rest : List (Addr × Obj)} {s : Shared} {Q E : Value → Shared → Prop} {x dx : Addr} {a b c : Int} {u1 u2 u3 ta tb tc : Tok} (B : Below A₀ base outer h₀) (F : Fr h₀ L s.heap m) (X : (hd.heap_39 w.params).In h₀) (N : News h₀ L s.heap ((x, instObj 119 dx) :: (dx, dictOf [⟨PyData.keyHash w.params (Str.ofString "one"), .str (Str.ofString "one") u1, .int a ta⟩, ⟨PyData.keyHash w.params (Str.ofString "two"), .str (Str.ofString "two") u2, .int b tb⟩, ⟨PyData.keyHash w.params (Str.ofString "three"), .str (Str.ofString "three") u3, .int c tc⟩] 3) :: rest)) (hDx : ∀ p ∈ rest, p.1 ≠ x) (hDdx : ∀ p ∈ rest, p.1 ≠ dx) (T : Top view (looseW view [Str.ofString "PressError"]) mean mg mb h₀) (hk : cs.kind = .function) (hdp : dp + 8 < recursionLimit) (hun : un + 80 < cLine) (hxd : @LT.lt Nat _ dx x) (ha : 1 ≤ a) (hb : 1 ≤ b) (hc : 1 ≤ c) (hret : ∀ (ls : Addr) (ta' tb' tc' : Tok) (k' : Nat) (h' : Heap) (tk' : Nat), Fr h₀ L h' m → News h₀ L h' ((ls, listOf #[.int a ta', .int b tb', .int c tc'] k') :: (x, instObj 119 dx) :: (dx, dictOf [⟨PyData.keyHash w.params (Str.ofString "one"), .str (Str.ofString "one") u1, .int a ta⟩, ⟨PyData.keyHash w.params (Str.ofString "two"), .str (Str.ofString "two") u2, .int b tb⟩, ⟨PyData.keyHash w.params (Str.ofString "three"), .str (Str.ofString "three") u3, .int c tc⟩] 3) :: rest) → Apart ls ((x, instObj 119 dx) :: (dx, dictOf [⟨PyData.keyHash w.params (Str.ofString "one"), .str (Str.ofString "one") u1, .int a ta⟩, ⟨PyData.keyHash w.params (Str.ofString "two"), .str (Str.ofString "two") u2, .int b tb⟩, ⟨PyData.keyHash w.params (Str.ofString "three"), .str (Str.ofString "three") u3, .int c tc⟩] 3) :: rest) → Q (.ref ls) { s with heap := h', toks := tk' }), wpAny (model PySem.Challenge.rw_no0090_01.row.prog w) (ktrTop dp un gd cn cs L fa ccd cl outer) (call (.ref 152) [.ref x]) Q E s := by
  intro w mean mg mb dp un gd cn cs fa ccd cl outer A₀ base h₀ L m rest s Q E x dx a b c u1 u2 u3 ta tb tc B F X N hDx hDdx T hk hdp hun hxd ha hb hc hret
  refine rowof_spec B F X N hDx hDdx T hk hdp hun hxd ha hb hc (fun ls₉ a'₉ b'₉ c'₉ ta'₉ tb'₉ tc'₉ k'₉ h'₉ tk'₉ k0₉ k1₉ k2₉ e0₉ e1₉ e2₉ => ?_)
  subst e0₉
  subst e1₉
  subst e2₉
  exact hret ls₉ ta'₉ tb'₉ tc'₉ k'₉ h'₉ tk'₉ k0₉ k1₉ k2₉
end

-- Row
section
local macro_rules | `(tactic| walk_at "call ref") => `(tactic| (k_here; (with_reducible show wpAny _ _ (call (Value.ref 137) _) _ _ _); (k_dflt (refine' take_spec ?kB ?kF ?kX ?kN ?kDbox ?kT ?kK ?kdp ?kun ?kp0 ?kp1 ?kp2 ?kp3 ?kp4 ?kp5 ?kp6 ?_; (case kB | kF | kX => k_asm); (case kN => exact (News.pick1 (by k_asm) (by k_mem))); (case kDbox => k_all); (case kT => k_asm); (case kK => first | exact rfl | assumption); (case kdp => ktr_room); (case kun => ktr_units); (case kp0 | kp1 => first | omega | decide); (case kp2 | kp3 | kp4 | kp5 | kp6 => omega); k_whole)); intro d' g' n' t' t1' t3' k' h' tk' F' N' b1 b2 b3 b4 b5 b6; (try k_sweep); (try dsimp only); (try k_fold)))
theorem pick_row {e d : Int} (he : 0 ≤ e) (h0 : 0 ≤ d) (h1 : d < 3) : 1 ≤ [1 + e, 1, 1 + e - 1 + if (1 + e == 1) = true then 1 else 0].getD d.toNat 0 := by
  obtain rfl | rfl | rfl : d = 0 ∨ d = 1 ∨ d = 2 := by omega
  · show 1 ≤ 1 + e
    omega
  · show (1 : Int) ≤ 1
    omega
  · show 1 ≤ 1 + e - 1 + if (1 + e == 1) = true then 1 else 0
    by_cases h : 1 + e = 1
    · rw [if_pos (by simpa using h)]; omega
    · rw [if_neg (by simpa using h)]; omega
set_option maxHeartbeats 800000 in
theorem row_spec : ∀ {w : World} {mean : ExcName → Option Value} {mg mb : Str → Option Value} {dp un : Nat} {gd : Option (List Code)} {cn : Str} {cs : Scope} {fa : Addr} {ccd : Value} {cl : List (Str × Addr)} {outer : List Env} {A₀ : Around} {base h₀ : Heap} {L : Addr} {m : Str → Option Value} {rest : List (Addr × Obj)} {s : Shared} {Q E : Value → Shared → Prop} {box : Addr} {g sd n : Int} {t1 t2 t3 : Tok} {kb : Nat} (B : Below A₀ base outer h₀) (F : Fr h₀ L s.heap m) (X : (hd.heap_39 w.params).In h₀) (N : News h₀ L s.heap ((box, listOf #[.int g t1, .int sd t2, .int n t3] kb) :: rest)) (hDbox : ∀ p ∈ rest, p.1 ≠ box) (T : Top view (looseW view [Str.ofString "PressError"]) mean mg mb h₀) (hk : cs.kind = .function) (hdp : dp + 3 < recursionLimit) (hun : un + 60 < cLine) (hs0 : 0 ≤ sd) (hs1 : sd < 2147483629) (hn0 : 0 ≤ n) (hn1 : n < 999990) (hg0 : 0 ≤ g) (hret : ∀ (th : Addr) (a b c : Int) (ta tb tc : Tok) (k' : Nat) (g' n' : Int) (t1' t3' : Tok) (kb' : Nat) (h' : Heap) (tk' : Nat), Fr h₀ L h' m → News h₀ L h' ((th, listOf #[.int a ta, .int b tb, .int c tc] k') :: (box, listOf #[.int g' t1', .int sd t2, .int n' t3'] kb') :: rest) → Apart th ((box, listOf #[.int g t1, .int sd t2, .int n t3] kb) :: rest) → 1 ≤ a → 1 ≤ b → 1 ≤ c → 0 ≤ g' → n ≤ n' → n' ≤ n + 4 → Q (.ref th) { s with heap := h', toks := tk' }), wpAny (model PySem.Challenge.rw_no0090_01.row.prog w) (ktrTop dp un gd cn cs L fa ccd cl outer) (call (.ref 142) [.ref box]) Q E s := by
  k_fill
  w_top off
  intro w mean mg mb dp un gd cn cs fa ccd cl outer A₀ base h₀ L m rest s Q E box g sd n t1 t2 t3 kb B F X N hDbox T hk hdp hun hs0 hs1 hn0 hn1 hg0 hret
  have hMk : KstMark := kstMark
  have hObox : OwnOff rest [box] := fun p hp b hb => by rw [List.mem_singleton.mp hb]; exact hDbox p hp
  refine wpAny_call ?_
  k_dflt (refine' code_defCS (small := [(box, listOf #[.int g t1, .int sd t2, .int n t3] kb)]) ?k1 ?k2 ?k3 ?k4 ?kO ?k5 ?kA ?kF ?kK ?k6 ?k7 ?k8 ?k9 ?kB ?kD ?_ ?c2 ?c3 ?c4; (case kA => exact rfl); (case kF => exact rfl); (case kK => assumption); (case k1 => k_asm); (case k2 => k_asm); (case k3 => k_asm); (case k4 => exact N); (case kO => (refine List.forall_mem_cons.mpr ⟨hDbox, ?_⟩; exact List.forall_mem_nil _)); (case k5 => k_asm); (case k6 => k_is); (case k7 => k_is); (case k8 => ktr_room); (case k9 => first | exact BindsTo.of_eq rfl | exact binds_K (by k_in) rfl (by k_is) rfl rfl rfl); (case kB => exact rfl); (case kD => decide +kernel); (case c2 => exact rfl); (case c3 => exact rfl); (case c4 => exact rfl); k_whole)
  intro g' L' h' tk' cells' hRest FG' F' N' Y' B' X' T' l1 lR
  try k_lt l1
  k_cells Y'
  try simp only [List.cons_append, List.nil_append] at N'
  try dsimp only
  try k_lift B'
  clear N
  try k_fold
  k_steps
  all_goals
  (refine' hret _ _ _ _ _ _ _ _ _ _ _ _ _ _ _ ?eF ?eN ?eA ?eP0 ?eP1 ?eP2 ?eP3 ?eP4 ?eP5
   (case eF => k_asm)
   (case eN => (refine' exitS (l := [_, _]) ?cN ?cF hRest; (case cF => assumption); (case cN => (refine' cb_drop ?cM ?cS; (case cM => k_asm); (case cS => exact (List.forall_mem_cons.mpr ⟨by k_memK, (List.forall_mem_cons.mpr ⟨by k_memK, (List.forall_mem_nil _)⟩)⟩))))))
   (case eA => exact ⟨(List.forall_mem_cons.mpr ⟨by k_ne, (apart_rest hRest (by assumption) (by k_memK))⟩)⟩)
   (case eP0 => first | omega | exact pick_row (by omega) (by omega) (by omega))
   (case eP1 => first | omega | exact pick_row (by omega) (by omega) (by omega))
   (case eP2 => first | omega | exact pick_row (by omega) (by omega) (by omega))
   (case eP3 => first | omega | exact pick_row (by omega) (by omega) (by omega))
   (case eP4 => first | omega | exact pick_row (by omega) (by omega) (by omega))
   (case eP5 => first | omega | exact pick_row (by omega) (by omega) (by omega)))
end
end

-- Due
local macro_rules | `(tactic| walk_at "call ref") => `(tactic| (k_here; (with_reducible show wpAny _ _ (call (Value.ref 147) _) _ _ _); (k_dflt (refine' meant_use ?kB ?kF ?kX ?kN ?kDth ?kT ?kK ?kdp ?kun ?kp0 ?kp1 ?kd ?_; (case kB | kF | kX => k_asm); (case kN => exact (News.pick1 (by k_asm) (by k_mem))); (case kDth => k_all); (case kT => k_asm); (case kK => first | exact rfl | assumption); (case kdp => ktr_room); (case kun => ktr_units); (case kp0 | kp1 => omega); (case kd => exact rfl); k_whole)); intro tp' ls' td' te' tb' tc' k' h' tk' F' N' l1 l2 l3; (try k_lt l1); (try k_lt l2); (try k_sweep); (try dsimp only); (try k_fold)))
section
local macro_rules | `(tactic| walk_at "no such step") => `(tactic| skip)
local macro_rules | `(tactic| walk_at "no such step") => `(tactic| skip)
set_option maxHeartbeats 4000000 in
theorem due_spec : ∀ {w : World} {mean : ExcName → Option Value} {mg mb : Str → Option Value} {dp un : Nat} {gd : Option (List Code)} {cn : Str} {cs : Scope} {fa : Addr} {ccd : Value} {cl : List (Str × Addr)} {outer : List Env} {A₀ : Around} {base h₀ : Heap} {L : Addr} {m : Str → Option Value} {rest : List (Addr × Obj)} {s : Shared} {Q E : Value → Shared → Prop} {th : Addr} {a b c far l : Int} {ta tb tc tf tl : Tok} {k : Nat} (B : Below A₀ base outer h₀) (F : Fr h₀ L s.heap m) (X : (hd.heap_39 w.params).In h₀) (N : News h₀ L s.heap ((th, listOf #[.int a ta, .int b tb, .int c tc] k) :: rest)) (hDth : ∀ p ∈ rest, p.1 ≠ th) (T : Top view (looseW view [Str.ofString "PressError"]) mean mg mb h₀) (hk : cs.kind = .function) (hdp : dp + 5 < recursionLimit) (hun : un + 60 < cLine) (hl : 0 ≤ l) (hret : ∀ (v : Int) (tv : Tok) (h' : Heap) (tk' : Nat), Fr h₀ L h' m → News h₀ L h' ((th, listOf #[.int a ta, .int b tb, .int c tc] k) :: rest) → v = dueF a b c far l → Q (.int v tv) { s with heap := h', toks := tk' }), wpAny (model PySem.Challenge.rw_no0090_01.row.prog w) (ktrTop dp un gd cn cs L fa ccd cl outer) (call (.ref 159) [.ref th, .int far tf, .int l tl]) Q E s := by
  k_fill
  w_top off
  intro w mean mg mb dp un gd cn cs fa ccd cl outer A₀ base h₀ L m rest s Q E th a b c far l ta tb tc tf tl k B F X N hDth T hk hdp hun hl hret
  have hMk : KstMark := kstMark
  have hOth : OwnOff rest [th] := fun p hp b hb => by rw [List.mem_singleton.mp hb]; exact hDth p hp
  refine wpAny_call ?_
  k_dflt (refine' code_defS (small := [(th, listOf #[.int a ta, .int b tb, .int c tc] k)]) ?k1 ?k2 ?k3 ?k4 ?kO ?k5 ?kA ?kF ?kK ?k6 ?k7 ?k8 ?k9 ?kB ?_ ?c2 ?c3 ?c4 ?c5; (case kA => exact rfl); (case kF => exact rfl); (case kK => assumption); (case k1 => k_asm); (case k2 => k_asm); (case k3 => k_asm); (case k4 => exact N); (case kO => (refine List.forall_mem_cons.mpr ⟨hDth, ?_⟩; exact List.forall_mem_nil _)); (case k5 => k_asm); (case k6 => k_is); (case k7 => k_is); (case k8 => ktr_room); (case k9 => exact BindsTo.of_eq rfl); (case c5 => decide); (case kB => exact locs rfl); (case c2 => exact rfl); (case c3 => exact rfl); (case c4 => exact rfl); k_whole)
  intro g' L' h' hRest FG' F' N' B' X' T'
  try dsimp only
  try k_lift B'
  clear N
  try k_fold
  k_steps
  all_goals
  (refine' hret _ _ _ _ ?eF ?eN ?eP0
   (case eF => k_asm)
   (case eN => (refine' exitS (l := [_]) ?cN ?cF hRest; (case cF => assumption); (case cN => (refine' cb_drop ?cM ?cS; (case cM => k_asm); (case cS => exact (List.forall_mem_cons.mpr ⟨by k_memK, (List.forall_mem_nil _)⟩))))))
   (case eP0 => (unfold dueF; (repeat' split) <;> first | rfl | (exfalso; omega))))
theorem due_use : ∀ {w : World} {mean : ExcName → Option Value} {mg mb : Str → Option Value} {dp un : Nat} {gd : Option (List Code)} {cn : Str} {cs : Scope} {fa : Addr} {ccd : Value} {cl : List (Str × Addr)} {outer : List Env} {A₀ : Around} {base h₀ : Heap} {L : Addr} {m : Str → Option Value} {rest : List (Addr × Obj)} {s : Shared} {Q E : Value → Shared → Prop} {th : Addr} {a b c far l : Int} {ta tb tc tf tl : Tok} {k : Nat} (B : Below A₀ base outer h₀) (F : Fr h₀ L s.heap m) (X : (hd.heap_39 w.params).In h₀) (N : News h₀ L s.heap ((th, listOf #[.int a ta, .int b tb, .int c tc] k) :: rest)) (hDth : ∀ p ∈ rest, p.1 ≠ th) (T : Top view (looseW view [Str.ofString "PressError"]) mean mg mb h₀) (hk : cs.kind = .function) (hdp : dp + 5 < recursionLimit) (hun : un + 60 < cLine) (hl : 0 ≤ l) (hret : ∀ (tv : Tok) (h' : Heap) (tk' : Nat), Fr h₀ L h' m → News h₀ L h' ((th, listOf #[.int a ta, .int b tb, .int c tc] k) :: rest) → Q (.int (dueF a b c far l) tv) { s with heap := h', toks := tk' }), wpAny (model PySem.Challenge.rw_no0090_01.row.prog w) (ktrTop dp un gd cn cs L fa ccd cl outer) (call (.ref 159) [.ref th, .int far tf, .int l tl]) Q E s := by
  intro w mean mg mb dp un gd cn cs fa ccd cl outer A₀ base h₀ L m rest s Q E th a b c far l ta tb tc tf tl k B F X N hDth T hk hdp hun hl hret
  refine due_spec B F X N hDth T hk hdp hun hl (fun v₉ tv₉ h'₉ tk'₉ k0₉ k1₉ e0₉ => ?_)
  subst e0₉
  exact hret tv₉ h'₉ tk'₉ k0₉ k1₉
end

-- TaleC
section
open LCg LCp
theorem lst_len {ys : List Value} {zs : List Int} (h : IntsAre ys zs) : ys.length = zs.length := h.length
theorem comp_tale {prog : Program} {w : World} {A : Around} {h₀ : Heap} {L : Addr} {m : Str → Option Value} {env : Env} {elt : Expr} {x x₂ : Str} {scope : Scope} {cl : List (Str × Addr)} {s : Shared} {S : List (Addr × Obj) → Prop}
    {Fin : List Value → List (Addr × Obj) → Prop} {its : Array Value} {tups REST : List (Addr × Obj)} {xa dxa : Addr} {u1 u2 u3 : Tok} {fs0 : List Int} {A' B' C' : Int}
    (hsub : ∀ p ∈ tups, p ∈ REST)
    (step : ∀ (v l a b c : Int) (tv tl ta tb tc : Tok) (ys : List Value), 1 ≤ v → 0 ≤ l → tellD a b c v l ≠ 0 → ∀ I oI C oC D m₂ h tk (E' : Value → Shared → Prop), NsObj oC m₂ → m₂ x = some (.int v tv) → m₂ x₂ = some (.int l tl) →
      Fr h₀ L h m → News h₀ L h ((I, oI) :: (C, oC) :: (D, lst ys) :: (xa, instObj 119 dxa) :: (dxa, dictOf [⟨PyData.keyHash w.params (Str.ofString "one"), .str (Str.ofString "one") u1, .int a ta⟩, ⟨PyData.keyHash w.params (Str.ofString "two"), .str (Str.ofString "two") u2, .int b tb⟩, ⟨PyData.keyHash w.params (Str.ofString "three"), .str (Str.ofString "three") u3, .int c tc⟩] 3) :: REST) → Off3 I C D ((xa, instObj 119 dxa) :: (dxa, dictOf [⟨PyData.keyHash w.params (Str.ofString "one"), .str (Str.ofString "one") u1, .int a ta⟩, ⟨PyData.keyHash w.params (Str.ofString "two"), .str (Str.ofString "two") u2, .int b tb⟩, ⟨PyData.keyHash w.params (Str.ofString "three"), .str (Str.ofString "three") u3, .int c tc⟩] 3) :: REST) → ((@Ne Nat I C) ∧ (@Ne Nat I D) ∧ (@Ne Nat C D)) →
      wpAny (model prog w) A (eval elt (compEnvC scope cl C env)) (CompEnd h₀ L m { s with heap := h, toks := tk } I oI C oC D (lst ys) S
        (fun y news' => ∃ (ty ta' tb' tc' : Tok), y = .int (tellD a b c v l) ty ∧ news' = (xa, instObj 119 dxa) :: (dxa, dictOf [⟨PyData.keyHash w.params (Str.ofString "one"), .str (Str.ofString "one") u1, .int (tellD a b c v l) ta'⟩, ⟨PyData.keyHash w.params (Str.ofString "two"), .str (Str.ofString "two") u2, .int (t2 a b v l) tb'⟩, ⟨PyData.keyHash w.params (Str.ofString "three"), .str (Str.ofString "three") u3, .int (t3 b c v l) tc'⟩] 3) :: REST)) E' { s with heap := h, toks := tk })
    (fin : ∀ ys ta tb tc, IntsAre ys fs0 → Fin ys ((xa, instObj 119 dxa) :: (dxa, dictOf [⟨PyData.keyHash w.params (Str.ofString "one"), .str (Str.ofString "one") u1, .int A' ta⟩, ⟨PyData.keyHash w.params (Str.ofString "two"), .str (Str.ofString "two") u2, .int B' tb⟩, ⟨PyData.keyHash w.params (Str.ofString "three"), .str (Str.ofString "three") u3, .int C' tc⟩] 3) :: REST)) :
    ∀ {a b c : Int} {ts : List Value} {fs : List Int}, Tale tups a b c ts fs A' B' C' → ∀ (pre ys : List Value) (zs : List Int) (ta tb tc : Tok), its.toList = pre ++ ts → IntsAre ys zs → zs ++ fs = fs0 →
      CompRestP prog w A h₀ L m env elt x x₂ scope cl s S (fun i v => its[i]? = some v) Fin ts.length pre.length ys ((xa, instObj 119 dxa) :: (dxa, dictOf [⟨PyData.keyHash w.params (Str.ofString "one"), .str (Str.ofString "one") u1, .int a ta⟩, ⟨PyData.keyHash w.params (Str.ofString "two"), .str (Str.ofString "two") u2, .int b tb⟩, ⟨PyData.keyHash w.params (Str.ofString "three"), .str (Str.ofString "three") u3, .int c tc⟩] 3) :: REST) := by
  intro a b c ts fs hT
  revert fin
  induction hT with
  | nil a b c =>
    intro fin pre ys zs ta tb tc hits hI hfs
    refine CompRestP.zero ?_
    exact fin ys ta tb tc (by rw [← hfs, List.append_nil]; exact hI)
  | @cons a b c v l A' B' C' t tv tl ts fs hv hl hm h0 hT ih =>
    intro fin pre ys zs ta tb tc hits hI hfs
    rw [List.length_cons]
    refine CompRestP.succ fun v' hv' => ?_
    have e : its[pre.length]? = some (.ref t) := by
      rw [← Array.getElem?_toList, hits, List.getElem?_append_right (Nat.le_refl _), Nat.sub_self]
      rfl
    have e' : v' = .ref t := by
      have hz : some v' = some (Value.ref t) := by rw [← e]; exact hv'.symm
      exact Option.some.inj hz
    subst e'
    refine ⟨t, tupO v tv l tl, .int v tv, .int l tl, _, rfl, .tail _ (.tail _ (hsub _ hm)), rfl, rfl, ?_⟩
    intro I oI C oC D m₂ h tk E' hC hx hx₂ F N off ne
    refine wpAny_mono (step v l a b c tv tl ta tb tc ys hv hl h0 I oI C oC D m₂ h tk E' hC hx hx₂ F N off ne) (fun y s₂ hy => ?_) fun _ _ e => e
    obtain ⟨h', tk', news', rfl, F', N', off', hS', ty, ta', tb', tc', rfl, rfl⟩ := hy
    refine ⟨h', tk', _, rfl, F', N', off', hS', ?_⟩
    have := ih fin (pre ++ [.ref t]) (ys ++ [.int (tellD a b c v l) ty]) (zs ++ [tellD a b c v l]) ta' tb' tc' (by rw [hits, List.append_assoc]; rfl) (ints_snoc hI) (by rw [List.append_assoc]; exact hfs)
    rw [List.length_append] at this
    exact this
end

-- Value
theorem tell_new {a b c far l : Int} (h : 1 ≤ far) : tellD a b c (far + 3) l = far := by
  unfold tellD
  rw [if_pos (by omega)]
  omega
local macro_rules | `(tactic| walk_at "call ref") => `(tactic| (k_here; (with_reducible show wpAny _ _ (call (Value.ref 109) _) _ _ _); (k_dflt (refine' dist_use ?kB ?kF ?kX ?kN ?kDdx ?kT ?kK ?kdp ?kun ?kp0 ?kp1 ?kp2 ?kp3 ?kd ?_; (case kB | kF | kX => k_asm); (case kN => exact (News.pick2 (by k_asm) (by k_mem) (by k_mem))); (case kDdx => k_all); (case kT => k_asm); (case kK => first | exact rfl | assumption); (case kdp => ktr_room); (case kun => ktr_units); (case kp0 => first | assumption | omega); (case kp1 | kp2 => omega); (case kp3 => first | assumption | omega | (rw [tell_new (by omega)]; omega)); (case kd => exact rfl); k_whole)); intro td' ta' tb' tc' h' tk' F' N'; (try k_sweep); (try dsimp only); (try k_fold)))
section
local macro_rules | `(tactic| walk_at "no such step") => `(tactic| skip)
local macro_rules | `(tactic| walk_at "no such step") => `(tactic| skip)
set_option maxHeartbeats 4000000 in
theorem value_spec : ∀ {w : World} {mean : ExcName → Option Value} {mg mb : Str → Option Value} {dp un : Nat} {gd : Option (List Code)} {cn : Str} {cs : Scope} {fa : Addr} {ccd : Value} {cl : List (Str × Addr)} {outer : List Env} {A₀ : Around} {base h₀ : Heap} {L : Addr} {m : Str → Option Value} {rest : List (Addr × Obj)} {s : Shared} {Q E : Value → Shared → Prop} {x dx : Addr} {a b c far l : Int} {u1 u2 u3 ta tb tc tf tl : Tok} (B : Below A₀ base outer h₀) (F : Fr h₀ L s.heap m) (X : (hd.heap_39 w.params).In h₀) (N : News h₀ L s.heap ((x, instObj 119 dx) :: (dx, dictOf [⟨PyData.keyHash w.params (Str.ofString "one"), .str (Str.ofString "one") u1, .int a ta⟩, ⟨PyData.keyHash w.params (Str.ofString "two"), .str (Str.ofString "two") u2, .int b tb⟩, ⟨PyData.keyHash w.params (Str.ofString "three"), .str (Str.ofString "three") u3, .int c tc⟩] 3) :: rest)) (hDx : ∀ p ∈ rest, p.1 ≠ x) (hDdx : ∀ p ∈ rest, p.1 ≠ dx) (T : Top view (looseW view [Str.ofString "PressError"]) mean mg mb h₀) (hk : cs.kind = .function) (hdp : dp + 6 < recursionLimit) (hun : un + 60 < cLine) (hxd : @LT.lt Nat _ dx x) (hf : 1 ≤ far) (hl : 0 ≤ l) (hret : ∀ (v a' b' c' : Int) (tv ta' tb' tc' : Tok) (h' : Heap) (tk' : Nat), Fr h₀ L h' m → News h₀ L h' ((x, instObj 119 dx) :: (dx, dictOf [⟨PyData.keyHash w.params (Str.ofString "one"), .str (Str.ofString "one") u1, .int a' ta'⟩, ⟨PyData.keyHash w.params (Str.ofString "two"), .str (Str.ofString "two") u2, .int b' tb'⟩, ⟨PyData.keyHash w.params (Str.ofString "three"), .str (Str.ofString "three") u3, .int c' tc'⟩] 3) :: rest) → v = dueF a b c far l → a' = far → b' = t2 a b v l → c' = t3 b c v l → Q (.int v tv) { s with heap := h', toks := tk' }), wpAny (model PySem.Challenge.rw_no0090_01.row.prog w) (ktrTop dp un gd cn cs L fa ccd cl outer) (call (.ref 116) [.ref x, .int far tf, .int l tl]) Q E s := by
  k_fill
  w_top off
  intro w mean mg mb dp un gd cn cs fa ccd cl outer A₀ base h₀ L m rest s Q E x dx a b c far l u1 u2 u3 ta tb tc tf tl B F X N hDx hDdx T hk hdp hun hxd hf hl hret
  have hMk : KstMark := kstMark
  have hOx : OwnOff rest [x] := fun p hp b hb => by rw [List.mem_singleton.mp hb]; exact hDx p hp
  have hOdx : OwnOff rest [dx] := fun p hp b hb => by rw [List.mem_singleton.mp hb]; exact hDdx p hp
  refine wpAny_call ?_
  k_dflt (refine' code_defS (small := [(x, instObj 119 dx), (dx, dictOf [⟨PyData.keyHash w.params (Str.ofString "one"), .str (Str.ofString "one") u1, .int a ta⟩, ⟨PyData.keyHash w.params (Str.ofString "two"), .str (Str.ofString "two") u2, .int b tb⟩, ⟨PyData.keyHash w.params (Str.ofString "three"), .str (Str.ofString "three") u3, .int c tc⟩] 3)]) ?k1 ?k2 ?k3 ?k4 ?kO ?k5 ?kA ?kF ?kK ?k6 ?k7 ?k8 ?k9 ?kB ?_ ?c2 ?c3 ?c4 ?c5; (case kA => exact rfl); (case kF => exact rfl); (case kK => assumption); (case k1 => k_asm); (case k2 => k_asm); (case k3 => k_asm); (case k4 => exact N); (case kO => (refine List.forall_mem_cons.mpr ⟨hDx, ?_⟩; refine List.forall_mem_cons.mpr ⟨hDdx, ?_⟩; exact List.forall_mem_nil _)); (case k5 => k_asm); (case k6 => k_is); (case k7 => k_is); (case k8 => ktr_room); (case k9 => exact BindsTo.of_eq rfl); (case c5 => decide); (case kB => exact locs rfl); (case c2 => exact rfl); (case c3 => exact rfl); (case c4 => exact rfl); k_whole)
  intro g' L' h' hRest FG' F' N' B' X' T'
  try dsimp only
  try k_lift B'
  clear N
  try k_fold
  k_steps
  all_goals
  (refine' hret _ _ _ _ _ _ _ _ _ _ ?eF ?eN ?eP0 ?eP1 ?eP2 ?eP3
   (case eF => k_asm)
   (case eN => (refine' exitS (l := [_, _]) ?cN ?cF hRest; (case cF => assumption); (case cN => (refine' cb_drop ?cM ?cS; (case cM => k_asm); (case cS => exact (List.forall_mem_cons.mpr ⟨by k_memK, (List.forall_mem_cons.mpr ⟨by k_memK, (List.forall_mem_nil _)⟩)⟩))))))
   (case eP0 => (unfold dueF; (repeat' split) <;> first | rfl | (exfalso; omega)))
   (case eP1 => first | assumption | exact tell_new hf)
   (case eP2 => rfl)
   (case eP3 => rfl))
theorem value_use : ∀ {w : World} {mean : ExcName → Option Value} {mg mb : Str → Option Value} {dp un : Nat} {gd : Option (List Code)} {cn : Str} {cs : Scope} {fa : Addr} {ccd : Value} {cl : List (Str × Addr)} {outer : List Env} {A₀ : Around} {base h₀ : Heap} {L : Addr} {m : Str → Option Value} {rest : List (Addr × Obj)} {s : Shared} {Q E : Value → Shared → Prop} {x dx : Addr} {a b c far l : Int} {u1 u2 u3 ta tb tc tf tl : Tok} (B : Below A₀ base outer h₀) (F : Fr h₀ L s.heap m) (X : (hd.heap_39 w.params).In h₀) (N : News h₀ L s.heap ((x, instObj 119 dx) :: (dx, dictOf [⟨PyData.keyHash w.params (Str.ofString "one"), .str (Str.ofString "one") u1, .int a ta⟩, ⟨PyData.keyHash w.params (Str.ofString "two"), .str (Str.ofString "two") u2, .int b tb⟩, ⟨PyData.keyHash w.params (Str.ofString "three"), .str (Str.ofString "three") u3, .int c tc⟩] 3) :: rest)) (hDx : ∀ p ∈ rest, p.1 ≠ x) (hDdx : ∀ p ∈ rest, p.1 ≠ dx) (T : Top view (looseW view [Str.ofString "PressError"]) mean mg mb h₀) (hk : cs.kind = .function) (hdp : dp + 6 < recursionLimit) (hun : un + 60 < cLine) (hxd : @LT.lt Nat _ dx x) (hf : 1 ≤ far) (hl : 0 ≤ l) (hret : ∀ (tv ta' tb' tc' : Tok) (h' : Heap) (tk' : Nat), Fr h₀ L h' m → News h₀ L h' ((x, instObj 119 dx) :: (dx, dictOf [⟨PyData.keyHash w.params (Str.ofString "one"), .str (Str.ofString "one") u1, .int far ta'⟩, ⟨PyData.keyHash w.params (Str.ofString "two"), .str (Str.ofString "two") u2, .int (t2 a b (dueF a b c far l) l) tb'⟩, ⟨PyData.keyHash w.params (Str.ofString "three"), .str (Str.ofString "three") u3, .int (t3 b c (dueF a b c far l) l) tc'⟩] 3) :: rest) → Q (.int (dueF a b c far l) tv) { s with heap := h', toks := tk' }), wpAny (model PySem.Challenge.rw_no0090_01.row.prog w) (ktrTop dp un gd cn cs L fa ccd cl outer) (call (.ref 116) [.ref x, .int far tf, .int l tl]) Q E s := by
  intro w mean mg mb dp un gd cn cs fa ccd cl outer A₀ base h₀ L m rest s Q E x dx a b c far l u1 u2 u3 ta tb tc tf tl B F X N hDx hDdx T hk hdp hun hxd hf hl hret
  refine value_spec B F X N hDx hDdx T hk hdp hun hxd hf hl (fun v₉ a'₉ b'₉ c'₉ tv₉ ta'₉ tb'₉ tc'₉ h'₉ tk'₉ k0₉ k1₉ e0₉ e1₉ e2₉ e3₉ => ?_)
  subst e0₉
  subst e1₉
  subst e2₉
  subst e3₉
  exact hret tv₉ ta'₉ tb'₉ tc'₉ h'₉ tk'₉ k0₉ k1₉
end

-- Wanted
local macro_rules | `(tactic| walk_at "call ref") => `(tactic| (k_here; (with_reducible show wpAny _ _ (call (Value.ref 137) _) _ _ _); (k_dflt (refine' take_spec ?kB ?kF ?kX ?kN ?kDbox ?kT ?kK ?kdp ?kun ?kp0 ?kp1 ?kp2 ?kp3 ?kp4 ?kp5 ?kp6 ?_; (case kB | kF | kX => k_asm); (case kN => exact (News.pick1 (by k_asm) (by k_mem))); (case kDbox => k_all); (case kT => k_asm); (case kK => first | exact rfl | assumption); (case kdp => ktr_room); (case kun => ktr_units); (case kp0 | kp1 | kp2 | kp3 | kp4 | kp5 | kp6 => omega); k_whole)); intro d' g' n' t' t1' t3' k' h' tk' F' N' b1 b2 b3 b4 b5 b6; (try k_sweep); (try dsimp only); (try k_fold)))
section
local macro_rules | `(tactic| walk_at "no such step") => `(tactic| skip)
local macro_rules | `(tactic| walk_at "no such step") => `(tactic| skip)
set_option maxHeartbeats 500000 in
theorem wanted_spec : ∀ {w : World} {mean : ExcName → Option Value} {mg mb : Str → Option Value} {dp un : Nat} {gd : Option (List Code)} {cn : Str} {cs : Scope} {fa : Addr} {ccd : Value} {cl : List (Str × Addr)} {outer : List Env} {A₀ : Around} {base h₀ : Heap} {L : Addr} {m : Str → Option Value} {rest : List (Addr × Obj)} {s : Shared} {Q E : Value → Shared → Prop} {box th : Addr} {g sd n a b c : Int} {t1 t2 t3 ta tb tc : Tok} {kb k : Nat} (B : Below A₀ base outer h₀) (F : Fr h₀ L s.heap m) (X : (hd.heap_39 w.params).In h₀) (N : News h₀ L s.heap ((box, listOf #[.int g t1, .int sd t2, .int n t3] kb) :: (th, listOf #[.int a ta, .int b tb, .int c tc] k) :: rest)) (hDbox : ∀ p ∈ rest, p.1 ≠ box) (hDth : ∀ p ∈ rest, p.1 ≠ th) (T : Top view (looseW view [Str.ofString "PressError"]) mean mg mb h₀) (hk : cs.kind = .function) (hdp : dp + 3 < recursionLimit) (hun : un + 60 < cLine) (hbt : @Ne Nat th box) (ha : 1 ≤ a) (hb : 1 ≤ b) (hc : 1 ≤ c) (hs0 : 0 ≤ sd) (hs1 : sd < 2147483629) (hn0 : 0 ≤ n) (hn1 : n < 999990) (hg0 : 0 ≤ g) (hret : ∀ (far g' n' : Int) (tf t1' t3' : Tok) (kb' : Nat) (h' : Heap) (tk' : Nat), Fr h₀ L h' m → News h₀ L h' ((box, listOf #[.int g' t1', .int sd t2, .int n' t3'] kb') :: (th, listOf #[.int a ta, .int b tb, .int c tc] k) :: rest) → 1 ≤ far → 0 ≤ g' → g' ≤ g → n ≤ n' → n' ≤ n + 2 → Q (.int far tf) { s with heap := h', toks := tk' }), wpAny (model PySem.Challenge.rw_no0090_01.row.prog w) (ktrTop dp un gd cn cs L fa ccd cl outer) (call (.ref 166) [.ref box, .ref th]) Q E s := by
  k_fill
  w_top off
  intro w mean mg mb dp un gd cn cs fa ccd cl outer A₀ base h₀ L m rest s Q E box th g sd n a b c t1 t2 t3 ta tb tc kb k B F X N hDbox hDth T hk hdp hun hbt ha hb hc hs0 hs1 hn0 hn1 hg0 hret
  have hMk : KstMark := kstMark
  have hObox : OwnOff rest [box] := fun p hp b hb => by rw [List.mem_singleton.mp hb]; exact hDbox p hp
  have hOth : OwnOff rest [th] := fun p hp b hb => by rw [List.mem_singleton.mp hb]; exact hDth p hp
  refine wpAny_call ?_
  k_dflt (refine' code_defS (small := [(box, listOf #[.int g t1, .int sd t2, .int n t3] kb), (th, listOf #[.int a ta, .int b tb, .int c tc] k)]) ?k1 ?k2 ?k3 ?k4 ?kO ?k5 ?kA ?kF ?kK ?k6 ?k7 ?k8 ?k9 ?kB ?_ ?c2 ?c3 ?c4 ?c5; (case kA => exact rfl); (case kF => exact rfl); (case kK => assumption); (case k1 => k_asm); (case k2 => k_asm); (case k3 => k_asm); (case k4 => exact N); (case kO => (refine List.forall_mem_cons.mpr ⟨hDbox, ?_⟩; refine List.forall_mem_cons.mpr ⟨hDth, ?_⟩; exact List.forall_mem_nil _)); (case k5 => k_asm); (case k6 => k_is); (case k7 => k_is); (case k8 => ktr_room); (case k9 => exact BindsTo.of_eq rfl); (case c5 => decide); (case kB => exact locs rfl); (case c2 => exact rfl); (case c3 => exact rfl); (case c4 => exact rfl); k_whole)
  intro g' L' h' hRest FG' F' N' B' X' T'
  try dsimp only
  try k_lift B'
  clear N
  try k_fold
  k_steps
  (refine' hret _ _ _ _ _ _ _ _ _ ?eF ?eN ?eP0 ?eP1 ?eP2 ?eP3 ?eP4
   (case eF => k_asm)
   (case eN => (refine' exitS (l := [_, _]) ?cN ?cF hRest; (case cF => assumption); (case cN => (refine' cb_drop ?cM ?cS; (case cM => k_asm); (case cS => exact (List.forall_mem_cons.mpr ⟨by k_memK, (List.forall_mem_cons.mpr ⟨by k_memK, (List.forall_mem_nil _)⟩)⟩))))))
   (case eP0 => omega)
   (case eP1 => omega)
   (case eP2 => omega)
   (case eP3 => omega)
   (case eP4 => omega))
end

-- Chain
local macro_rules | `(tactic| walk_at "call ref") => `(tactic| (k_here; (with_reducible show wpAny _ _ (call (Value.ref 119) _) _ _ _); (k_dflt (refine' mk_spec ?kB ?kF ?kX ?kN ?kT ?kK ?kdp ?kun ?kp0 ?kp1 ?kp2 ?_; (case kB | kF | kX => k_asm); (case kN => exact (by k_asm)); (case kT => k_asm); (case kK => first | exact rfl | assumption); (case kdp => ktr_room); (case kun => ktr_units); (case kp0 | kp1 | kp2 => first | assumption | omega | ((simp only [Int.reduceToNat, List.getD_cons_zero, List.getD_cons_succ]); omega)); k_whole)); intro x' dx' u1' u2' u3' h' tk' F' N' l1 l2 l3; (try k_lt l1); (try k_lt l2); (try simp only [Int.reduceToNat, List.getD_cons_zero, List.getD_cons_succ] at N'); (try k_sweep); (try dsimp only); (try k_fold)))
section
local macro_rules | `(tactic| walk_at "exec For Name Call cons nil") => `(tactic| (k_here; (with_unfolding_all refine' For_G ?_)))
set_option hygiene false in
local macro_rules | `(tactic| walk_at "call ref") => `(tactic| (k_here; (with_reducible show wpAny _ _ (call (Value.ref 166) _) _ _ _); (k_dflt (refine' wanted_spec ?kB ?kF ?kX ?kN ?kDbox ?kDth ?kT ?kK ?kdp ?kun ?kp0 ?kp1 ?kp2 ?kp3 ?kp4 ?kp5 ?kp6 ?kp7 ?kp8 ?_; (case kB | kF | kX => k_asm); (case kN => exact (News.pick2 (by k_asm) (by k_mem) (by k_mem))); (case kDbox | kDth => k_all); (case kT => k_asm); (case kK => first | exact rfl | assumption); (case kdp => ktr_room); (case kun => ktr_units); (case kp0 => first | assumption | (refine neN ?_; omega) | omega); (case kp1 | kp2 | kp3 | kp4 | kp5 | kp6 | kp7 | kp8 => omega); k_whole)); intro far' g' n' tf' t1' t3' kb' h' tk' F' N' b1 b2 b3 b4 b5; (try k_sweep); (try dsimp only); (try k_fold)))
local macro_rules | `(tactic| walk_at "call ref") => `(tactic| (k_here; (with_reducible show wpAny _ _ (call (Value.ref 159) _) _ _ _); (k_dflt (refine' due_use ?kB ?kF ?kX ?kN ?kDth ?kT ?kK ?kdp ?kun ?kp0 ?_; (case kB | kF | kX => k_asm); (case kN => exact (News.pick1 (by k_asm) (by k_mem))); (case kDth => k_all); (case kT => k_asm); (case kK => first | exact rfl | assumption); (case kdp => ktr_room); (case kun => ktr_units); (case kp0 => first | assumption | omega | exact ahead_ok (by omega) (by omega)); k_whole)); intro tv' h' tk' F' N'; (try k_sweep); (try dsimp only); (try k_fold)))
local macro_rules | `(tactic| walk_at "call ref") => `(tactic| (k_here; (with_reducible show wpAny _ _ (call (Value.ref 88) _) _ _ _); (k_dflt (refine' copy_spec ?kB ?kF ?kX ?kN ?kT ?kK ?kdp ?kun ?kp0 ?kp1 ?kp2 ?_; (case kB | kF | kX => k_asm); (case kN => exact (News.pick2 (by k_asm) (by k_mem) (by k_mem))); (case kT => k_asm); (case kK => first | exact rfl | assumption); (case kdp => ktr_room); (case kun => ktr_units); (case kp0 | kp1 | kp2 => first | assumption | omega | exact t2_pos (by omega) (by omega) | exact t3_pos (by omega) (by omega)); k_whole)); intro x' dx' u1' u2' u3' h' tk' F' N' l1 l2 l3; (try k_lt l1); (try k_lt l2); (try k_sweep); (try dsimp only); (try k_fold)))
local macro_rules | `(tactic| walk_at "call ref") => `(tactic| (k_here; (with_reducible show wpAny _ _ (call (Value.ref 116) _) _ _ _); (k_dflt (refine' value_use ?kB ?kF ?kX ?kN ?kDx ?kDdx ?kT ?kK ?kdp ?kun ?kp0 ?kp1 ?kp2 ?_; (case kB | kF | kX => k_asm); (case kN => exact (News.pick2 (by k_asm) (by k_mem) (by k_mem))); (case kDx | kDdx => k_all); (case kT => k_asm); (case kK => first | exact rfl | assumption); (case kdp => ktr_room); (case kun => ktr_units); (case kp0 => first | assumption | omega | (refine ltN' ?_; omega)); (case kp1 => first | assumption | omega); (case kp2 => first | assumption | omega | exact ahead_ok (by omega) (by omega)); k_whole)); intro tv' ta' tb' tc' h' tk' F' N'; (try k_sweep); (try dsimp only); (try k_fold)))
local macro_rules | `(tactic| walk_at "call ref") => `(tactic| (k_here; (with_reducible show wpAny _ _ (call (Value.ref 147) _) _ _ _); (k_dflt (refine' meant_use ?kB ?kF ?kX ?kN ?kDth ?kT ?kK ?kdp ?kun ?kp0 ?kp1 ?kd ?_; (case kB | kF | kX => k_asm); (case kN => exact (News.pick1 (by k_asm) (by k_mem))); (case kDth => k_all); (case kT => k_asm); (case kK => first | exact rfl | assumption); (case kdp => ktr_room); (case kun => ktr_units); (case kp0 => first | assumption | omega | exact due_pos (by assumption)); (case kp1 => first | assumption | omega | exact ahead_ok (by omega) (by omega)); (case kd => first | exact due_tell (by assumption) | exact rfl); k_whole)); intro tp' ls' td' te' tb' tc' k' h' tk' F' N' l1 l2 l3; (try k_lt l1); (try k_lt l2); (try k_sweep); (try dsimp only); (try k_fold)))
local macro_rules | `(tactic| walk_at "call ref") => `(tactic| (k_here; (with_reducible show wpAny _ _ (call (Value.ref 109) _) _ _ _); (k_dflt (refine' dist_use ?kB ?kF ?kX ?kN ?kDdx ?kT ?kK ?kdp ?kun ?kp0 ?kp1 ?kp2 ?kp3 ?kd ?_; (case kB | kF | kX => k_asm); (case kN => exact (News.pick2 (by k_asm) (by k_mem) (by k_mem))); (case kDdx => k_all); (case kT => k_asm); (case kK => first | exact rfl | assumption); (case kdp => ktr_room); (case kun => ktr_units); (case kp0 => first | assumption | omega | (refine ltN' ?_; omega)); (case kp1 => first | assumption | omega | exact due_pos (by assumption)); (case kp2 => first | assumption | omega | exact ahead_ok (by omega) (by omega)); (case kp3 => first | assumption | (rw [due_tell (by assumption)]; omega)); (case kd => first | exact due_tell (by assumption) | exact rfl); k_whole)); intro td' ta' tb' tc' h' tk' F' N'; (try k_sweep); (try dsimp only); (try k_fold)))
local macro_rules | `(tactic| walk_at "call ref") => `(tactic| (k_here; (with_reducible show wpAny _ _ (call (Value.ref 152) _) _ _ _); (k_dflt (refine' rowof_use ?kB ?kF ?kX ?kN ?kDx ?kDdx ?kT ?kK ?kdp ?kun ?kp0 ?kp1 ?kp2 ?kp3 ?_; (case kB | kF | kX => k_asm); (case kN => exact (News.pick2 (by k_asm) (by k_mem) (by k_mem))); (case kDx | kDdx => k_all); (case kT => k_asm); (case kK => first | exact rfl | assumption); (case kdp => ktr_room); (case kun => ktr_units); (case kp0 => first | assumption | omega | (refine ltN' ?_; omega)); (case kp1 | kp2 | kp3 => first | assumption | omega | exact t2_pos (by omega) (by omega) | exact t3_pos (by omega) (by omega)); k_whole)); intro ls' ta' tb' tc' k' h' tk' F' N' Ap'; (try k_sweep); (try dsimp only); (try k_fold)))
def Stop (p : Prop) : Prop := p
theorem Stop.in {p : Prop} (h : Stop p) : p := h
local macro_rules | `(tactic| walk_at "SrcLP") => `(tactic| (k_here; (with_reducible refine Stop.in ?_)))
local macro_rules | `(tactic| walk_at "call builtin:list.append") => `(tactic| (k_here; k_dflt (refine' append_led ?kF ?kN ?ko ?ks ?_; (case kF => k_asm); (case kN => exact (News.pick1 (by k_asm) (by k_mem))); (case ko => k_all); (case ks => (rw [sizeLine_eq]; omega)); k_whole); intro h' F' N'; (try k_sweep); (try dsimp only); (try k_fold)))
theorem off_single {news : List (Addr × Obj)} {I : Addr} {o : Obj} (h : ∀ p ∈ news, @Ne Nat p.1 I) : ∀ p ∈ news, ∀ q ∈ [(I, o)], p.1 ≠ q.1 := fun p hp q hq => by
  rw [List.mem_singleton.mp hq]
  exact h p hp
set_option maxHeartbeats 12000000 in
theorem chain_spec : ∀ {w : World} {mean : ExcName → Option Value} {mg mb : Str → Option Value} {dp un : Nat} {gd : Option (List Code)} {cn : Str} {cs : Scope} {fa : Addr} {ccd : Value} {cl : List (Str × Addr)} {outer : List Env} {A₀ : Around} {base h₀ : Heap} {L : Addr} {m : Str → Option Value} {rest : List (Addr × Obj)} {s : Shared} {Q E : Value → Shared → Prop} {box th : Addr} {g sd n a b c tn : Int} {t1 t2 t3 ta tb tc tt : Tok} {kb k : Nat} (B : Below A₀ base outer h₀) (F : Fr h₀ L s.heap m) (X : (hd.heap_39 w.params).In h₀) (N : News h₀ L s.heap ((box, listOf #[.int g t1, .int sd t2, .int n t3] kb) :: (th, listOf #[.int a ta, .int b tb, .int c tc] k) :: rest)) (hDbox : ∀ p ∈ rest, p.1 ≠ box) (hDth : ∀ p ∈ rest, p.1 ≠ th) (T : Top view (looseW view [Str.ofString "PressError"]) mean mg mb h₀) (hk : cs.kind = .function) (hdp : dp + 20 < recursionLimit) (hun : un + 200 < cLine) (hbt : @Ne Nat th box) (ha : 1 ≤ a) (hb : 1 ≤ b) (hc : 1 ≤ c) (hs0 : 0 ≤ sd) (hs1 : sd < 2147483629) (hn0 : 0 ≤ n) (hn1 : n < 900000) (hg0 : 0 ≤ g) (htn : 0 ≤ tn) (htn1 : tn ≤ 10) (hret : ∀  (h' : Heap) (tk' : Nat), Fr h₀ L h' m → News h₀ L h' (rest) → Q (.bool true) { s with heap := h', toks := tk' }), wpAny (model PySem.Challenge.rw_no0090_01.row.prog w) (ktrTop dp un gd cn cs L fa ccd cl outer) (call (.ref 185) [.ref box, .ref th, .int tn tt]) Q E s := by
  k_fill
  w_top off
  intro w mean mg mb dp un gd cn cs fa ccd cl outer A₀ base h₀ L m rest s Q E box th g sd n a b c tn t1 t2 t3 ta tb tc tt kb k B F X N hDbox hDth T hk hdp hun hbt ha hb hc hs0 hs1 hn0 hn1 hg0 htn htn1 hret
  have hMk : KstMark := kstMark
  have hObox : OwnOff rest [box] := fun p hp b hb => by rw [List.mem_singleton.mp hb]; exact hDbox p hp
  have hOth : OwnOff rest [th] := fun p hp b hb => by rw [List.mem_singleton.mp hb]; exact hDth p hp
  refine wpAny_call ?_
  k_dflt (refine' code_defCS (small := [(box, listOf #[.int g t1, .int sd t2, .int n t3] kb), (th, listOf #[.int a ta, .int b tb, .int c tc] k)]) ?k1 ?k2 ?k3 ?k4 ?kO ?k5 ?kA ?kF ?kK ?k6 ?k7 ?k8 ?k9 ?kB ?kD ?_ ?c2 ?c3 ?c4; (case kA => exact rfl); (case kF => exact rfl); (case kK => assumption); (case k1 => k_asm); (case k2 => k_asm); (case k3 => k_asm); (case k4 => exact N); (case kO => (refine List.forall_mem_cons.mpr ⟨hDbox, ?_⟩; refine List.forall_mem_cons.mpr ⟨hDth, ?_⟩; exact List.forall_mem_nil _)); (case k5 => k_asm); (case k6 => k_is); (case k7 => k_is); (case k8 => ktr_room); (case k9 => first | exact BindsTo.of_eq rfl | exact binds_K (by k_in) rfl (by k_is) rfl rfl rfl); (case kB => exact rfl); (case kD => decide +kernel); (case c2 => exact rfl); (case c3 => exact rfl); (case c4 => exact rfl); k_whole)
  intro g' L' h' tk' cells' hRest FG' F' N' Y' B' X' T' l1 lR
  try k_lt l1
  have nb1 : @Ne Nat box (L' + 1) := by omega
  have nb2 : @Ne Nat th (L' + 1) := by omega
  k_cells Y'
  try simp only [List.cons_append, List.nil_append] at N'
  try dsimp only
  try k_lift B'
  clear N
  try k_fold
  k_steps
  refine' loopG_range (n := (tn - 0).toNat) (J := ChainJ w n box th (L' + 1) sd t2 a b c ta tb tc k g') ?R ?sm ?hn ?F ?N ?h0 ?step ?hR
  (case R => assumption)
  (case sm => exact small_one (by omega) (by omega) (by omega) (by omega))
  (case hn => exact rangeSize_nat 0 tn)
  (case F => assumption)
  case' h0 => (refine' ⟨_, _, _, _, _, _, _, a, b, c, g, n, _, _, _, _, _, _, _, _, _, _, _, _, _, _, _, _, _, _, _, _, _, _, [], [], [], [], rfl, rfl, rfl, rfl, rfl, rfl, rfl, rfl, ?hoc, Tale.nil _ _ _, IntsAre.nil, rfl, ha, hb, hc, hg0, hn0, ?hb, ?o0, ?o1, ?o2, ?o3, ?o4, ?o5, ?o6, ?o7, ?o8, ?ne1, ?ne2, (fun _ h => nomatch h), (fun _ h => nomatch h), rfl⟩)
  (case N => (refine' cb_drop ?cM ?cS; (case cM => k_asm); (case cS => exact List.forall_mem_cons.mpr ⟨by k_memK, List.forall_mem_cons.mpr ⟨by k_memK, List.forall_mem_cons.mpr ⟨by k_memK, List.forall_mem_cons.mpr ⟨by k_memK, List.forall_mem_cons.mpr ⟨by k_memK, List.forall_mem_cons.mpr ⟨by k_memK, List.forall_mem_cons.mpr ⟨by k_memK, List.forall_mem_cons.mpr ⟨by k_memK, List.forall_mem_cons.mpr ⟨by k_memK, List.forall_mem_cons.mpr ⟨by k_memK, List.forall_mem_nil _⟩⟩⟩⟩⟩⟩⟩⟩⟩⟩)))
  (case hoc => assumption)
  (case hb => omega)
  (case o0 => first | omega | (refine ltN' ?_; omega))
  (case o1 => first | omega | (refine ltN' ?_; omega))
  (case o2 => first | omega | (refine ltN' ?_; omega))
  (case o3 => first | omega | (refine ltN' ?_; omega))
  (case o4 => first | omega | (refine ltN' ?_; omega))
  (case o5 => first | omega | (refine ltN' ?_; omega))
  (case o6 => first | omega | (refine ltN' ?_; omega))
  (case o7 => first | omega | (refine ltN' ?_; omega))
  (case o8 => first | omega | (refine ltN' ?_; omega))
  (case ne1 => (refine neN ?_; omega))
  (case ne2 => (refine neN ?_; omega))
  (case step =>
    intro I lI i t gr m₁ news₁ o1 h1 tk1 hi hJ ho1 F1 N1
    clear lI
    refine ChainJ.out hJ ?_
    clear hJ
    intro xw dxw xr dxr ml tl cl' A B C g1 n1 v1 v2 v3 v4 v5 v6 q1 q2 q3 q4 q5 q6 q7 q8 q9 r1 r3 km kt kc kb' oc ts vs fs tups hoc hT hIv hfs hA hB hC hg1 hn1' hn2 o0 o1 o2 o3 o4 o5 o6 o7 o8 ne1 ne2 hu1 hu2 hts hvs hU0 hU1 hU2 hU3 hU4 hU5 hU6 hU7 hU8 hU9 p0 p1 p2 p3 p4 p5 p6 hmm hgr hnw
    subst hgr hnw
    rw [hmm] at F1
    clear hmm
    have hi' : (i : Int) < 10 := by omega
    clear hi
    have hAI : Apart I _ := ⟨ho1⟩
    have hU10 : OwnOff tups [I] := fun p hp b hb => by rw [List.mem_singleton.mp hb]; exact ho1 p (List.mem_cons_of_mem _ (List.mem_cons_of_mem _ (List.mem_cons_of_mem _ (List.mem_cons_of_mem _ (List.mem_cons_of_mem _ (List.mem_cons_of_mem _ (List.mem_cons_of_mem _ (List.mem_cons_of_mem _ (List.mem_cons_of_mem _ (List.mem_cons_of_mem _ (hp)))))))))))
    try (with_reducible show wpAny _ _ _ _ _ _)
    try k_fold
    k_steps
    · exfalso; omega
    · exfalso; omega
    · exfalso; omega
    refine' nextG_ ?eF ?eN ?eO ?eJ
    (case eF => k_asm)
    case' eJ => (refine' ⟨_, _, _, _, _, _, _, ?f, _, _, _, _, _, _, _, _, _, _, _, _, _, _, _, _, _, _, _, _, _, _, _, _, _, _, ts ++ [.ref ?tt], vs ++ [.int ?f tf'], fs ++ [?f], (?tt, tupO ?vv ?tv ?ll ?tl) :: tups, rfl, rfl, rfl, rfl, rfl, rfl, rfl, rfl, hoc, (Tale.snocF hT (fun p hp => .tail _ hp) ?hv ?hl (.head _) ?hf ?he), (ints_snoc hIv), (by rw [List.length_append, hfs]; rfl), ?hf, ?hB, ?hC, ?hg, ?hn, ?hb, ?o0, ?o1, ?o2, ?o3, ?o4, ?o5, ?o6, ?o7, ?o8, ?ne1, ?ne2, ?hu1, ?hu2, rfl⟩)
    (case eN => (refine' cb_drop ?cM ?cS; (case cM => k_asm); (case cS => exact List.forall_mem_cons.mpr ⟨by k_memK, List.forall_mem_cons.mpr ⟨by k_memK, List.forall_mem_cons.mpr ⟨by k_memK, List.forall_mem_cons.mpr ⟨by k_memK, List.forall_mem_cons.mpr ⟨by k_memK, List.forall_mem_cons.mpr ⟨by k_memK, List.forall_mem_cons.mpr ⟨by k_memK, List.forall_mem_cons.mpr ⟨by k_memK, List.forall_mem_cons.mpr ⟨by k_memK, List.forall_mem_cons.mpr ⟨by k_memK, List.forall_mem_cons.mpr ⟨by k_memK, List.forall_mem_cons.mpr ⟨by k_memK, (fun p hp => by k_ownIn)⟩⟩⟩⟩⟩⟩⟩⟩⟩⟩⟩⟩)))
    (case hv => exact due_pos (by assumption))
    (case hl => exact ahead_ok (by omega) (by omega))
    (case hf => assumption)
    (case he => exact due_tell (by assumption))
    (case hB => exact t2_pos hA hB)
    (case hC => exact t3_pos hB hC)
    (case hg => assumption)
    (case hn => omega)
    (case hb => omega)
    (case o0 => first | assumption | omega | (refine ltN' ?_; omega))
    (case o1 => first | assumption | omega | (refine ltN' ?_; omega))
    (case o2 => first | assumption | omega | (refine ltN' ?_; omega))
    (case o3 => first | assumption | omega | (refine ltN' ?_; omega))
    (case o4 => first | assumption | omega | (refine ltN' ?_; omega))
    (case o5 => first | assumption | omega | (refine ltN' ?_; omega))
    (case o6 => first | assumption | omega | (refine ltN' ?_; omega))
    (case o7 => first | assumption | omega | (refine ltN' ?_; omega))
    (case o8 => first | assumption | omega | (refine ltN' ?_; omega))
    (case ne1 => (refine neN ?_; omega))
    (case ne2 => (refine neN ?_; omega))
    (case hu1 => refine List.forall_mem_cons.mpr ⟨by first | assumption | omega | (refine ltN' ?_; omega), hu1⟩)
    (case hu2 => refine List.forall_mem_cons.mpr ⟨by (refine neN ?_; omega), by k_all⟩)
    (case eO => (refine off_single ?_; refine List.forall_mem_cons.mpr ⟨by first | k_ne | (refine neN ?_; omega), ?_⟩; refine List.forall_mem_cons.mpr ⟨by first | k_ne | (refine neN ?_; omega), ?_⟩; refine List.forall_mem_cons.mpr ⟨by first | k_ne | (refine neN ?_; omega), ?_⟩; refine List.forall_mem_cons.mpr ⟨by first | k_ne | (refine neN ?_; omega), ?_⟩; refine List.forall_mem_cons.mpr ⟨by first | k_ne | (refine neN ?_; omega), ?_⟩; refine List.forall_mem_cons.mpr ⟨by first | k_ne | (refine neN ?_; omega), ?_⟩; refine List.forall_mem_cons.mpr ⟨by first | k_ne | (refine neN ?_; omega), ?_⟩; refine List.forall_mem_cons.mpr ⟨by first | k_ne | (refine neN ?_; omega), ?_⟩; refine List.forall_mem_cons.mpr ⟨by first | k_ne | (refine neN ?_; omega), ?_⟩; refine List.forall_mem_cons.mpr ⟨by first | k_ne | (refine neN ?_; omega), ?_⟩; refine List.forall_mem_cons.mpr ⟨by first | k_ne | (refine neN ?_; omega), ?_⟩;  k_all))
)
  (case hR =>
    intro g1 h1 tk1 m₁ news₁ F1 N1 hJ
    refine ChainJ.out hJ ?_
    clear hJ
    intro xw dxw xr dxr ml tl cl' A B C g1 n1 v1 v2 v3 v4 v5 v6 q1 q2 q3 q4 q5 q6 q7 q8 q9 r1 r3 km kt kc kb' oc ts vs fs tups hoc hT hIv hfs hA hB hC hg1 hn1' hn2 o0 o1 o2 o3 o4 o5 o6 o7 o8 ne1 ne2 hu1 hu2 hts hvs hU0 hU1 hU2 hU3 hU4 hU5 hU6 hU7 hU8 hU9 p0 p1 p2 p3 p4 p5 p6 hmm hgr hnw
    subst hgr hnw
    rw [hmm] at F1
    clear hmm
    have hn10 : (tn - 0).toNat ≤ 10 := by omega
    try k_fold
    k_steps
    unfold Stop
    refine LCp.SrcLP.ledger (by rfl) (by k_asm) (by k_asm) (by k_mem) ?sz ?RR
    (case sz => (rw [List.size_toArray, sizeLine_eq]; omega))
    (case RR =>
      intro gq
      refine' comp_tale (tups := tups) ?hsub ?step2 ?fin hT [] [] [] _ _ _ ?e1 .nil rfl
      (case hsub => (intro p hp; simp only [List.mem_cons]; exact Or.inr (Or.inr (Or.inr (Or.inr (Or.inr (Or.inr (Or.inr (Or.inr (Or.inr (Or.inr hp)))))))))))
      (case e1 => (rw [List.nil_append]))
      (case step2 =>
        intro v l a b c tv tl ta tb tc ys hv hl h0 I oI C oC D m₂ h tk E' hC hx hx₂ F N off ne
        have hdI := Ne.symm off.2.1.1
        have hdC := Ne.symm off.2.1.2.1
        have hdD := Ne.symm off.2.1.2.2
        k_steps
        refine' LCg.CompEnd.intro ?cF ?cN _ ?cs ?co ?cS ⟨_, _, _, _, rfl, rfl⟩
        (case cF => k_asm)
        (case cN => k_asm)
        (case cs => exact List.forall_mem_cons.mpr ⟨by k_memK, List.forall_mem_cons.mpr ⟨by k_memK, List.forall_mem_cons.mpr ⟨by k_memK, List.forall_mem_cons.mpr ⟨by k_memK, List.forall_mem_cons.mpr ⟨by k_memK, List.forall_mem_cons.mpr ⟨by k_memK, List.forall_mem_cons.mpr ⟨by k_memK, List.forall_mem_cons.mpr ⟨by k_memK, List.forall_mem_cons.mpr ⟨by k_memK, List.forall_mem_cons.mpr ⟨by k_memK, List.forall_mem_cons.mpr ⟨by k_memK, List.forall_mem_cons.mpr ⟨by k_memK, List.forall_mem_cons.mpr ⟨by k_memK, List.forall_mem_cons.mpr ⟨by k_memK, List.forall_mem_cons.mpr ⟨by k_memK, (fun p hp => by k_ownIn)⟩⟩⟩⟩⟩⟩⟩⟩⟩⟩⟩⟩⟩⟩⟩)
        (case co => exact off)
        (case cS => exact Or.inr ⟨_, by k_memK, rfl, _, rfl⟩)
        skip)
      (case fin =>
        intro ys ta tb tc hys
        k_steps
        rw [List.nil_append, decide_eq_true (rfl : fs = fs)]
        refine' hret _ _ ?eF ?eN
        (case eF => k_asm)
        (case eN => (refine' exitS (l := []) ?cN ?cF hRest; (case cF => assumption); (case cN => (refine' cb_drop ?cM ?cS; (case cM => k_asm); (case cS => exact List.forall_mem_nil _))))))))
end

-- Ba
theorem meta_ve : typeOf (.type "ValueError") = pure (.type "type") := by kernel_rfl
local macro_rules | `(tactic| walk_at "getMethod type:ValueError") => `(tactic| (k_here; refine' method_type ?F ?X ?m (by decide +kernel) ?e ?h ?_; (case F => k_asm); (case X => k_asm); (case m => exact meta_ve); (case e => k_dflt k_is); (case h => k_handed)))
section
local macro_rules | `(tactic| walk_at "call builtin:ValueError.__init__") => `(tactic| (k_here; (refine ve_init (by k_asm) (by k_asm) (by k_all) ((by assumption : Frag.In _ _) 57 _ (by k_is)) (by simp [VE]) ?_); intro t1 h1 F1 N1 K1; (try k_sweep); (try dsimp only); (try k_fold)))
local macro_rules | `(tactic| walk_at "setAttr ref") => `(tactic| (k_here; (refine exc_store (P := 32) (by k_asm) (by k_asm) (by k_all) (by assumption) ((by assumption : Frag.In _ _) 57 _ (by k_is)) (by k_is) (by k_is) (by k_is) ?_); intro dx h2 tk2 F2 N2 K2; (try k_sweep); (try dsimp only); (try k_fold)))
local macro_rules | `(tactic| walk_at "no such step") => `(tactic| skip)
local macro_rules | `(tactic| walk_at "no such step") => `(tactic| skip)
local macro_rules | `(tactic| walk_at "no such step") => `(tactic| skip)
set_option maxHeartbeats 4000000 in
theorem ba_spec : ∀ {w : World} {mean : ExcName → Option Value} {mg mb : Str → Option Value} {dp un : Nat} {gd : Option (List Code)} {cn : Str} {cs : Scope} {fa : Addr} {ccd : Value} {cl : List (Str × Addr)} {outer : List Env} {A₀ : Around} {base h₀ : Heap} {L : Addr} {m : Str → Option Value} {rest : List (Addr × Obj)} {s : Shared} {Q E : Value → Shared → Prop} {txt : Str} {tt : Tok} (B : Below A₀ base outer h₀) (F : Fr h₀ L s.heap m) (X : (hd.heap_39 w.params).In h₀) (N : News h₀ L s.heap (rest)) (T : Top view (looseW view [Str.ofString "PressError"]) mean mg mb h₀) (hk : cs.kind = .function) (hdp : dp + 3 < recursionLimit) (hun : un + 60 < cLine) (hret : ∀ (e t0 dx : Addr) (h' : Heap) (tk' : Nat), Fr h₀ L h' m → News h₀ L h' ((e, excO 57 (some dx) t0) :: rest) → (∀ p ∈ rest, p.1 ≠ e) → Q (.ref e) { s with heap := h', toks := tk' }), wpAny (model PySem.Challenge.rw_no0090_01.row.prog w) (ktrTop dp un gd cn cs L fa ccd cl outer) (call (.ref 57) [.str txt tt]) Q E s := by
  k_fill
  w_top off
  intro w mean mg mb dp un gd cn cs fa ccd cl outer A₀ base h₀ L m rest s Q E txt tt B F X N T hk hdp hun hret
  have hMk : KstMark := kstMark
  refine call_exc (P := 32) (fI := 29) (by k_asm) (by assumption) (by k_asm) (X 57 _ (by k_is)) (by k_is) (X 29 _ (by k_is)) rfl ?_
  intro e t0 h' F' N' hDe
  have hOe : OwnOff rest [e] := fun p hp b hb => by rw [List.mem_singleton.mp hb]; exact hDe p hp
  k_sweep
  k_dflt (refine' code_def ?k1 ?k2 ?k3 ?k4 ?k5 ?kA ?kF ?kK ?k6 ?k7 ?k8 ?k9 ?kB ?_ ?c2 ?c3 ?c4 ?c5; (case kA => exact rfl); (case kF => exact rfl); (case kK => assumption); (case k1 => k_asm); (case k2 => k_asm); (case k3 => k_asm); (case k4 => k_asm); (case k5 => k_asm); (case k6 => k_is); (case k7 => k_is);  (case k8 => k_room); (case k9 => first | exact BindsTo.of_eq rfl | exact binds_K (by k_in) rfl (by k_is) rfl rfl rfl); (case c5 => decide); (case kB => exact locs rfl); (case c2 => exact rfl); (case c3 => exact rfl); (case c4 => exact rfl); k_whole)
  intro g' L' h'' FG' F' N' B' X' T'
  try dsimp only
  try k_lift B'
  try k_fold
  k_steps
  exact hret _ _ _ _ _ (by assumption) (by assumption) hDe
end

-- Bs
section
local macro_rules | `(tactic| walk_at "call builtin:ValueError.__init__") => `(tactic| (k_here; (refine ve_init (by k_asm) (by k_asm) (by k_all) ((by assumption : Frag.In _ _) 45 _ (by k_is)) (by simp [VE]) ?_); intro t1 h1 F1 N1 K1; (try k_sweep); (try dsimp only); (try k_fold)))
local macro_rules | `(tactic| walk_at "setAttr ref") => `(tactic| (k_here; (refine exc_store (P := 32) (by k_asm) (by k_asm) (by k_all) (by assumption) ((by assumption : Frag.In _ _) 45 _ (by k_is)) (by k_is) (by k_is) (by k_is) ?_); intro dx h2 tk2 F2 N2 K2; (try k_sweep); (try dsimp only); (try k_fold)))
local macro_rules | `(tactic| walk_at "no such step") => `(tactic| skip)
local macro_rules | `(tactic| walk_at "no such step") => `(tactic| skip)
local macro_rules | `(tactic| walk_at "no such step") => `(tactic| skip)
local macro_rules | `(tactic| walk_at "no such step") => `(tactic| skip)
set_option maxHeartbeats 4000000 in
theorem bs_spec : ∀ {w : World} {mean : ExcName → Option Value} {mg mb : Str → Option Value} {dp un : Nat} {gd : Option (List Code)} {cn : Str} {cs : Scope} {fa : Addr} {ccd : Value} {cl : List (Str × Addr)} {outer : List Env} {A₀ : Around} {base h₀ : Heap} {L : Addr} {m : Str → Option Value} {rest : List (Addr × Obj)} {s : Shared} {Q E : Value → Shared → Prop} {txt : Str} {tt : Tok} (B : Below A₀ base outer h₀) (F : Fr h₀ L s.heap m) (X : (hd.heap_39 w.params).In h₀) (N : News h₀ L s.heap (rest)) (T : Top view (looseW view [Str.ofString "PressError"]) mean mg mb h₀) (hk : cs.kind = .function) (hdp : dp + 3 < recursionLimit) (hun : un + 60 < cLine) (hret : ∀ (e t0 dx : Addr) (h' : Heap) (tk' : Nat), Fr h₀ L h' m → News h₀ L h' ((e, excO 45 (some dx) t0) :: rest) → (∀ p ∈ rest, p.1 ≠ e) → Q (.ref e) { s with heap := h', toks := tk' }), wpAny (model PySem.Challenge.rw_no0090_01.row.prog w) (ktrTop dp un gd cn cs L fa ccd cl outer) (call (.ref 45) [.str txt tt]) Q E s := by
  k_fill
  w_top off
  intro w mean mg mb dp un gd cn cs fa ccd cl outer A₀ base h₀ L m rest s Q E txt tt B F X N T hk hdp hun hret
  have hMk : KstMark := kstMark
  refine call_exc (P := 32) (fI := 29) (by k_asm) (by assumption) (by k_asm) (X 45 _ (by k_is)) (by k_is) (X 29 _ (by k_is)) rfl ?_
  intro e t0 h' F' N' hDe
  have hOe : OwnOff rest [e] := fun p hp b hb => by rw [List.mem_singleton.mp hb]; exact hDe p hp
  k_sweep
  k_dflt (refine' code_def ?k1 ?k2 ?k3 ?k4 ?k5 ?kA ?kF ?kK ?k6 ?k7 ?k8 ?k9 ?kB ?_ ?c2 ?c3 ?c4 ?c5; (case kA => exact rfl); (case kF => exact rfl); (case kK => assumption); (case k1 => k_asm); (case k2 => k_asm); (case k3 => k_asm); (case k4 => k_asm); (case k5 => k_asm); (case k6 => k_is); (case k7 => k_is);  (case k8 => k_room); (case k9 => first | exact BindsTo.of_eq rfl | exact binds_K (by k_in) rfl (by k_is) rfl rfl rfl); (case c5 => decide); (case kB => exact locs rfl); (case c2 => exact rfl); (case c3 => exact rfl); (case c4 => exact rfl); k_whole)
  intro g' L' h'' FG' F' N' B' X' T'
  try dsimp only
  try k_lift B'
  try k_fold
  k_steps
  exact hret _ _ _ _ _ (by assumption) (by assumption) hDe
end

-- RefA
local macro_rules | `(tactic| walk_at "call ref") => `(tactic| (k_here; (with_reducible show wpAny _ _ (call (Value.ref 57) _) _ _ _); (k_dflt (refine' ba_spec ?kB ?kF ?kX ?kN ?kT ?kK ?kdp ?kun ?_; (case kB | kF | kX => k_asm); (case kN => exact (by k_asm)); (case kT => k_asm); (case kK => first | exact rfl | assumption); (case kdp => ktr_room); (case kun => ktr_units); k_whole)); intro e t0 dx h' tk' F' N' hDe; (have hOe := ownOff1 hDe); (try k_sweep); (try dsimp only); (try k_fold)))
local macro_rules | `(tactic| walk_at "call ref") => `(tactic| (k_here; (with_reducible show wpAny _ _ (call (Value.ref 45) _) _ _ _); (k_dflt (refine' bs_spec ?kB ?kF ?kX ?kN ?kT ?kK ?kdp ?kun ?_; (case kB | kF | kX => k_asm); (case kN => exact (by k_asm)); (case kT => k_asm); (case kK => first | exact rfl | assumption); (case kdp => ktr_room); (case kun => ktr_units); k_whole)); intro e t0 dx h' tk' F' N' hDe; (have hOe := ownOff1 hDe); (try k_sweep); (try dsimp only); (try k_fold)))
local macro_rules | `(tactic| walk_at "exec Raise some none") => `(tactic| (k_here; (with_reducible show wpAny _ _ (exec (Stmt.Raise (some (Expr.Call (Expr.Name ("BadArgument" : Str) _) _ _ _)) none _) _) _ _ _); (refine' raise_own' (C := 57) ?X ?k rfl ?_; (case X => assumption); (case k => kts_isx))))
local macro_rules | `(tactic| walk_at "exec Raise some none") => `(tactic| (k_here; (with_reducible show wpAny _ _ (exec (Stmt.Raise (some (Expr.Call (Expr.Name ("BadSequence" : Str) _) _ _ _)) none _) _) _ _ _); (refine' raise_own' (C := 45) ?X ?k rfl ?_; (case X => assumption); (case k => kts_isx))))
local macro_rules | `(tactic| walk_at "RaiseQ") => `(tactic| ((with_reducible rename News _ _ _ ((_, excO _ _ _) :: _) => rqN); (refine raiseQ (rqN _ (.head _)).1 (by k_in) ?_)))
local macro_rules | `(tactic| walk_at "leaving ref") => `(tactic| (k_here; (with_reducible rename News _ _ _ ((_, excO _ _ _) :: _) => rqN); (refine' leave_O ?k1 ?k2 rqN ?k3 ?_; (case k1 => assumption); (case k2 => assumption); (case k3 => k_all); k_whole); intro h' S' U'; (try dsimp only at S' U' ⊢)))
local macro_rules | `(tactic| walk_at "noteFrame ref") => `(tactic| (k_here; k_dflt (refine' caught_O (P := 32) ?R ?F ?K ?U ?XB ?TB ?D ?T0 ?ex ?hC ?hP ?hb ?hs ?_; (case R => assumption); (case F => assumption); (case K => assumption); (case U => assumption); (case XB => assumption); (case TB => assumption); (case D => assumption); (case T0 => assumption); (case ex => k_is); (case hC => k_is); (case hP => k_is); (case hb => rfl); (case hs => rfl); k_whole); intro h' g' T' F' N' K' X' P' D'; (try k_lift K'); (try k_sweep)))
set_option maxHeartbeats 4000000 in
theorem refa_spec : ∀ {w : World} {mean : ExcName → Option Value} {mg mb : Str → Option Value} {dp un : Nat} {gd : Option (List Code)} {cn : Str} {cs : Scope} {fa : Addr} {ccd : Value} {outer : List Env} {A₀ : Around} {base h₀ : Heap} {L : Addr} {m : Str → Option Value} {rest : List (Addr × Obj)} {s : Shared} {Q E : Value → Shared → Prop} {g₀ : Heap} {x dx : Addr} {a b c v l : Int} {u1 u2 u3 ta tb tc tv tl : Tok} (B : Below A₀ base outer h₀) (F : Fr h₀ L s.heap m) (X : (hd.heap_39 w.params).In h₀) (N : News h₀ L s.heap ((x, instObj 119 dx) :: (dx, dictOf [⟨PyData.keyHash w.params (Str.ofString "one"), .str (Str.ofString "one") u1, .int a ta⟩, ⟨PyData.keyHash w.params (Str.ofString "two"), .str (Str.ofString "two") u2, .int b tb⟩, ⟨PyData.keyHash w.params (Str.ofString "three"), .str (Str.ofString "three") u3, .int c tc⟩] 3) :: rest)) (hDx : ∀ p ∈ rest, p.1 ≠ x) (hDdx : ∀ p ∈ rest, p.1 ≠ dx) (T : Top view (looseW view [Str.ofString "PressError"]) mean mg mb h₀) (XB : (hd.heap_39 w.params).In base) (TB : Top view (looseW view [Str.ofString "PressError"]) mean mg mb base) (D : KtsDicts (outer.filterMap (·.frame)) h₀) (T0 : KtsTurn (outer.filterMap (·.frame)) g₀ h₀) (hk : cs.kind = .function) (hdp : dp + 8 < recursionLimit) (hun : un + 100 < cLine) (ha : 1 ≤ a) (hb : 1 ≤ b) (hc : 1 ≤ c) (hv : v < 1 ∨ l < 0) (hret : ∀  (h₀' h' : Heap) (tk' : Nat), KtsTurn (outer.filterMap (·.frame)) g₀ h₀' → Fr h₀' L h' m → News h₀' L h' ((x, instObj 119 dx) :: (dx, dictOf [⟨PyData.keyHash w.params (Str.ofString "one"), .str (Str.ofString "one") u1, .int a ta⟩, ⟨PyData.keyHash w.params (Str.ofString "two"), .str (Str.ofString "two") u2, .int b tb⟩, ⟨PyData.keyHash w.params (Str.ofString "three"), .str (Str.ofString "three") u3, .int c tc⟩] 3) :: rest) → Below A₀ base outer h₀' → (hd.heap_39 w.params).In h₀' → Top view (looseW view [Str.ofString "PressError"]) mean mg mb  h₀' → KtsDicts (outer.filterMap (·.frame)) h₀' → Q (.bool true) { s with heap := h', toks := tk' }), wpAny (model PySem.Challenge.rw_no0090_01.row.prog w) (ktrTop dp un gd cn cs L fa ccd [] outer) (call (.ref 173) [.ref x, .int v tv, .int l tl]) Q E s := by
  k_fill
  w_top off
  intro w mean mg mb dp un gd cn cs fa ccd outer A₀ base h₀ L m rest s Q E g₀ x dx a b c v l u1 u2 u3 ta tb tc tv tl B F X N hDx hDdx T XB TB D T0 hk hdp hun ha hb hc hv hret
  have hMk : KstMark := kstMark
  have hOx : OwnOff rest [x] := fun p hp b hb => by rw [List.mem_singleton.mp hb]; exact hDx p hp
  have hOdx : OwnOff rest [dx] := fun p hp b hb => by rw [List.mem_singleton.mp hb]; exact hDdx p hp
  refine wpAny_call ?_
  k_dflt (refine' code_defT (small := [(x, instObj 119 dx), (dx, dictOf [⟨PyData.keyHash w.params (Str.ofString "one"), .str (Str.ofString "one") u1, .int a ta⟩, ⟨PyData.keyHash w.params (Str.ofString "two"), .str (Str.ofString "two") u2, .int b tb⟩, ⟨PyData.keyHash w.params (Str.ofString "three"), .str (Str.ofString "three") u3, .int c tc⟩] 3)]) ?k1 ?k2 ?k3 ?k4 ?kO ?k5 ?XB ?TB ?D ?T0 ?kA ?k6 ?k7 ?k8 ?k9 ?kB ?_ ?cK ?c2 ?c3 ?c4 ?c5; (case kA => exact rfl); (case XB => assumption); (case TB => assumption); (case D => assumption); (case T0 => assumption); (case k1 => k_asm); (case k2 => k_asm); (case k3 => k_asm); (case k4 => exact N); (case kO => (refine List.forall_mem_cons.mpr ⟨hDx, ?_⟩; refine List.forall_mem_cons.mpr ⟨hDdx, ?_⟩; exact List.forall_mem_nil _)); (case k5 => k_asm); (case k6 => k_is); (case k7 => k_is); (case k8 => ktr_room); (case k9 => first | exact BindsTo.of_eq rfl | exact binds_K (by k_in) rfl (by k_is) rfl rfl rfl); (case c5 => decide); (case kB => exact locs rfl); (case cK => assumption); (case c2 => exact rfl); (case c3 => exact rfl); (case c4 => exact rfl); k_whole)
  intro g' L' h' FG' F' N' B' X' T' D' T1
  try dsimp only
  try k_lift B'
  clear N T0 D
  try k_fold
  rcases hv with hv | hv
  · k_steps
    all_goals
    ((try dsimp only); refine' leaveT_ (news' := [(x, instObj 119 dx), (dx, dictOf [⟨PyData.keyHash w.params (Str.ofString "one"), .str (Str.ofString "one") u1, .int a ta⟩, ⟨PyData.keyHash w.params (Str.ofString "two"), .str (Str.ofString "two") u2, .int b tb⟩, ⟨PyData.keyHash w.params (Str.ofString "three"), .str (Str.ofString "three") u3, .int c tc⟩] 3)]) ?eT ?eF ?eN ?eK
     (case eT => assumption)
     (case eF => k_asm)
     (case eN => (refine' cb_drop ?cM ?cS; (case cM => k_asm); (case cS => exact (List.forall_mem_cons.mpr ⟨by k_memK, (List.forall_mem_cons.mpr ⟨by k_memK, (List.forall_mem_nil _)⟩)⟩))))
     (case eK => intro h₂ T₂ F₂ N₂ B₂ X₂ P₂ D₂; refine' hret _ _ _ T₂ F₂ N₂ B₂ X₂ P₂ D₂ ))
  · k_steps
    all_goals
    ((try dsimp only); refine' leaveT_ (news' := [(x, instObj 119 dx), (dx, dictOf [⟨PyData.keyHash w.params (Str.ofString "one"), .str (Str.ofString "one") u1, .int a ta⟩, ⟨PyData.keyHash w.params (Str.ofString "two"), .str (Str.ofString "two") u2, .int b tb⟩, ⟨PyData.keyHash w.params (Str.ofString "three"), .str (Str.ofString "three") u3, .int c tc⟩] 3)]) ?eT ?eF ?eN ?eK
     (case eT => assumption)
     (case eF => k_asm)
     (case eN => (refine' cb_drop ?cM ?cS; (case cM => k_asm); (case cS => exact (List.forall_mem_cons.mpr ⟨by k_memK, (List.forall_mem_cons.mpr ⟨by k_memK, (List.forall_mem_nil _)⟩)⟩))))
     (case eK => intro h₂ T₂ F₂ N₂ B₂ X₂ P₂ D₂; refine' hret _ _ _ T₂ F₂ N₂ B₂ X₂ P₂ D₂ ))

-- Odd
local macro_rules | `(tactic| walk_at "call ref") => `(tactic| (k_here; (with_reducible show wpAny _ _ (call (Value.ref 152) _) _ _ _); (k_dflt (refine' rowof_use ?kB ?kF ?kX ?kN ?kDx ?kDdx ?kT ?kK ?kdp ?kun ?kp0 ?kp1 ?kp2 ?kp3 ?_; (case kB | kF | kX => k_asm); (case kN => exact (News.pick2 (by k_asm) (by k_mem) (by k_mem))); (case kDx | kDdx => k_all); (case kT => k_asm); (case kK => first | exact rfl | assumption); (case kdp => ktr_room); (case kun => ktr_units); (case kp0 => first | assumption | omega | (refine ltN' ?_; omega)); (case kp1 | kp2 | kp3 => first | assumption | omega); k_whole)); intro ls' ta' tb' tc' k' h' tk' F' N' Ap'; (try k_sweep); (try dsimp only); (try k_fold)))
section
local macro_rules | `(tactic| walk_at "InitBack") => `(tactic| (dsimp only [InitBack]))
local macro_rules | `(tactic| walk_at "call ref") => `(tactic| (k_here; (with_reducible show wpAny _ _ (call (Value.ref 173) _) _ _ _); (k_dflt (refine' refa_spec ?kB ?kF ?kX ?kN ?kDx ?kDdx ?kT ?XB ?TB ?D ?T0 ?kK ?kdp ?kun ?kp0 ?kp1 ?kp2 ?kp3 ?_; (case kB | kF | kX => k_asm); (case kN => exact (News.pick2 (by k_asm) (by k_mem) (by k_mem))); (case kDx | kDdx => k_all); (case kT => k_asm); (case XB | TB | D | T0 => assumption); (case kK => first | exact rfl | assumption); (case kdp => ktr_room); (case kun => ktr_units); (case kp0 | kp1 | kp2 => first | assumption | omega); (case kp3 => omega); k_whole)); intro  h₁' h' tk' T0' F' N' B' X' T' D'; (try k_lift B'); (try k_sweep); (try dsimp only); (try k_fold)))
local macro_rules | `(tactic| walk_at "call ref") => `(tactic| (k_here; (with_reducible show wpAny _ _ (call (Value.ref 57) _) _ _ _); (k_dflt (refine' ba_spec ?kB ?kF ?kX ?kN ?kT ?kK ?kdp ?kun ?_; (case kB | kF | kX => k_asm); (case kN => exact (by k_asm)); (case kT => k_asm); (case kK => first | exact rfl | assumption); (case kdp => ktr_room); (case kun => first | ktr_units | ((simp only [PyProof.Rows.units_under_make]); ktr_units)); k_whole)); intro e t0 dx h' tk' F' N' hDe; (have hOe := ownOff1 hDe); (try k_sweep); (try dsimp only); (try k_fold)))
local macro_rules | `(tactic| walk_at "exec For Name Call cons nil") => `(tactic| (k_here; (with_unfolding_all refine' For_G ?_)))
set_option maxHeartbeats 1000000 in
theorem odd_spec : ∀ {w : World} {mean : ExcName → Option Value} {mg mb : Str → Option Value} {dp un : Nat} {gd : Option (List Code)} {cn : Str} {cs : Scope} {fa : Addr} {ccd : Value} {outer : List Env} {A₀ : Around} {base h₀ : Heap} {L : Addr} {m : Str → Option Value} {rest : List (Addr × Obj)} {s : Shared} {Q E : Value → Shared → Prop} {g₀ : Heap} {th : Addr} {a b c : Int} {ta tb tc : Tok} {k : Nat} (B : Below A₀ base outer h₀) (F : Fr h₀ L s.heap m) (X : (hd.heap_39 w.params).In h₀) (N : News h₀ L s.heap ((th, listOf #[.int a ta, .int b tb, .int c tc] k) :: rest)) (hDth : ∀ p ∈ rest, p.1 ≠ th) (T : Top view (looseW view [Str.ofString "PressError"]) mean mg mb h₀) (XB : (hd.heap_39 w.params).In base) (TB : Top view (looseW view [Str.ofString "PressError"]) mean mg mb base) (D : KtsDicts (outer.filterMap (·.frame)) h₀) (T0 : KtsTurn (outer.filterMap (·.frame)) g₀ h₀) (hk : cs.kind = .function) (hdp : dp + 20 < recursionLimit) (hun : un + 200 < cLine) (ha : 1 ≤ a) (hb : 1 ≤ b) (hc : 1 ≤ c) (hret : ∀  (h₀' h' : Heap) (tk' : Nat), KtsTurn (outer.filterMap (·.frame)) g₀ h₀' → Fr h₀' L h' m → News h₀' L h' ((th, listOf #[.int a ta, .int b tb, .int c tc] k) :: rest) → Below A₀ base outer h₀' → (hd.heap_39 w.params).In h₀' → Top view (looseW view [Str.ofString "PressError"]) mean mg mb  h₀' → KtsDicts (outer.filterMap (·.frame)) h₀' → Q (.bool true) { s with heap := h', toks := tk' }), wpAny (model PySem.Challenge.rw_no0090_01.row.prog w) (ktrTop dp un gd cn cs L fa ccd [] outer) (call (.ref 192) [.ref th]) Q E s := by
  k_fill
  w_top off
  intro w mean mg mb dp un gd cn cs fa ccd outer A₀ base h₀ L m rest s Q E g₀ th a b c ta tb tc k B F X N hDth T XB TB D T0 hk hdp hun ha hb hc hret
  have hMk : KstMark := kstMark
  have hOth : OwnOff rest [th] := fun p hp b hb => by rw [List.mem_singleton.mp hb]; exact hDth p hp
  refine wpAny_call ?_
  k_dflt (refine' code_defT (small := [(th, listOf #[.int a ta, .int b tb, .int c tc] k)]) ?k1 ?k2 ?k3 ?k4 ?kO ?k5 ?XB ?TB ?D ?T0 ?kA ?k6 ?k7 ?k8 ?k9 ?kB ?_ ?cK ?c2 ?c3 ?c4 ?c5; (case kA => exact rfl); (case XB => assumption); (case TB => assumption); (case D => assumption); (case T0 => assumption); (case k1 => k_asm); (case k2 => k_asm); (case k3 => k_asm); (case k4 => exact N); (case kO => (refine List.forall_mem_cons.mpr ⟨hDth, ?_⟩; exact List.forall_mem_nil _)); (case k5 => k_asm); (case k6 => k_is); (case k7 => k_is); (case k8 => ktr_room); (case k9 => first | exact BindsTo.of_eq rfl | exact binds_K (by k_in) rfl (by k_is) rfl rfl rfl); (case c5 => decide); (case kB => exact locs rfl); (case cK => assumption); (case c2 => exact rfl); (case c3 => exact rfl); (case c4 => exact rfl); k_whole)
  intro g' L' h' FG' F' N' B' X' T' D' T1
  try dsimp only
  try k_lift B'
  clear N T0 D
  try k_fold
  k_steps
  refine' loopG_range (n := 3) (J := fun i g m news => m (Str.ofString "three") = some (.ref th) ∧ news = [(th, listOf #[.int a ta, .int b tb, .int c tc] k)] ∧ Below (ktrTop dp un gd cn cs L fa ccd [] outer) base (envOf cn cs L fa ccd :: outer) g ∧ (hd.heap_39 w.params).In g ∧ Top view (looseW view [Str.ofString "PressError"]) mean mg mb g ∧ KtsDicts ((envOf cn cs L fa ccd :: outer).filterMap (·.frame)) g ∧ KtsTurn ((envOf cn cs L fa ccd :: outer).filterMap (·.frame)) g' g) ?R ?sm ?hn ?F ?N ?h0 ?step ?hR
  (case R => assumption)
  (case sm => rfl)
  (case hn => rfl)
  (case F => k_asm)
  (case N => k_asm)
  (case h0 => exact ⟨rfl, rfl, B', X', T', D', T1⟩)
  (case step =>
    intro I lI i t g1 m₁ news₁ o1 h1 tk1 hi hJ ho1 F1 N1
    obtain ⟨hm1, rfl, B1, X1, P1, D1, T2⟩ := hJ
    have hm : m₁ = fun y => if y = Str.ofString "three" then some (.ref th) else m₁ y := by
      funext y
      by_cases h1 : y = Str.ofString "three"
      · rw [if_pos h1, h1, hm1]
      · rw [if_neg h1]
    rw [hm] at F1
    clear hm hm1
    k_lt lI
    clear B' X' T' D' T1
    have hi3 : i = 0 ∨ i = 1 ∨ i = 2 := by omega
    rcases hi3 with rfl | rfl | rfl
    all_goals try (with_reducible show wpAny _ _ _ _ _ _)
    all_goals try k_fold
    · have e1 : (0 : Int) + ((0 : Nat) : Int) = 0 := rfl
      rw [e1] at F1
      k_steps
      all_goals first
      | (exfalso; (simp only [Int.reduceToNat, List.getD_cons_zero, List.getD_cons_succ, Int.reduceBNe, bne_self_eq_false, Bool.false_eq_true, if_false, if_true, Int.mul_zero, Int.mul_one, reduceIte] at *); omega)
      | (refine' nextG_ (news₂ := [(th, listOf #[.int a ta, .int b tb, .int c tc] k)]) ?eF ?eN ?eO ?eJ
         (case eF => k_asm)
         (case eN => (refine' cb_drop ?cM ?cS; (case cM => k_asm); (case cS => exact List.forall_mem_cons.mpr ⟨by k_memK, List.forall_mem_cons.mpr ⟨by k_memK, List.forall_mem_nil _⟩⟩)))
         (case eO => exact List.forall_mem_cons.mpr ⟨List.forall_mem_cons.mpr ⟨by k_ne, List.forall_mem_nil _⟩, List.forall_mem_nil _⟩)
         (case eJ => exact ⟨rfl, rfl, by assumption, by assumption, by assumption, by assumption, by assumption⟩))
    · have e1 : (0 : Int) + ((1 : Nat) : Int) = 1 := rfl
      rw [e1] at F1
      k_steps
      all_goals first
      | (exfalso; (simp only [Int.reduceToNat, List.getD_cons_zero, List.getD_cons_succ, Int.reduceBNe, bne_self_eq_false, Bool.false_eq_true, if_false, if_true, Int.mul_zero, Int.mul_one, reduceIte] at *); omega)
      | (refine' nextG_ (news₂ := [(th, listOf #[.int a ta, .int b tb, .int c tc] k)]) ?eF ?eN ?eO ?eJ
         (case eF => k_asm)
         (case eN => (refine' cb_drop ?cM ?cS; (case cM => k_asm); (case cS => exact List.forall_mem_cons.mpr ⟨by k_memK, List.forall_mem_cons.mpr ⟨by k_memK, List.forall_mem_nil _⟩⟩)))
         (case eO => exact List.forall_mem_cons.mpr ⟨List.forall_mem_cons.mpr ⟨by k_ne, List.forall_mem_nil _⟩, List.forall_mem_nil _⟩)
         (case eJ => exact ⟨rfl, rfl, by assumption, by assumption, by assumption, by assumption, by assumption⟩))
    · have e1 : (0 : Int) + ((2 : Nat) : Int) = 2 := rfl
      rw [e1] at F1
      k_steps
      all_goals first
      | (exfalso; (simp only [Int.reduceToNat, List.getD_cons_zero, List.getD_cons_succ, Int.reduceBNe, bne_self_eq_false, Bool.false_eq_true, if_false, if_true, Int.mul_zero, Int.mul_one, reduceIte] at *); omega)
      | (refine' nextG_ (news₂ := [(th, listOf #[.int a ta, .int b tb, .int c tc] k)]) ?eF ?eN ?eO ?eJ
         (case eF => k_asm)
         (case eN => (refine' cb_drop ?cM ?cS; (case cM => k_asm); (case cS => exact List.forall_mem_cons.mpr ⟨by k_memK, List.forall_mem_cons.mpr ⟨by k_memK, List.forall_mem_nil _⟩⟩)))
         (case eO => exact List.forall_mem_cons.mpr ⟨List.forall_mem_cons.mpr ⟨by k_ne, List.forall_mem_nil _⟩, List.forall_mem_nil _⟩)
         (case eJ => exact ⟨rfl, rfl, by assumption, by assumption, by assumption, by assumption, by assumption⟩)))
  (case hR =>
    intro g1 h1 tk1 m₁ news₁ F1 N1 hJ
    obtain ⟨hm1, rfl, B1, X1, P1, D1, T2⟩ := hJ
    have hm : m₁ = fun y => if y = Str.ofString "three" then some (.ref th) else m₁ y := by
      funext y
      by_cases h1 : y = Str.ofString "three"
      · rw [if_pos h1, h1, hm1]
      · rw [if_neg h1]
    rw [hm] at F1
    clear hm hm1
    clear B' X' T' D' T1
    k_steps
    ((try dsimp only); refine' leaveT_ (news' := [(th, listOf #[.int a ta, .int b tb, .int c tc] k)]) ?eT ?eF ?eN ?eK
     (case eT => assumption)
     (case eF => k_asm)
     (case eN => (refine' cb_drop ?cM ?cS; (case cM => k_asm); (case cS => exact (List.forall_mem_cons.mpr ⟨by k_memK, (List.forall_mem_nil _)⟩))))
     (case eK => intro h₂ T₂ F₂ N₂ B₂ X₂ P₂ D₂; refine' hret _ _ _ T₂ F₂ N₂ B₂ X₂ P₂ D₂ )))
end

-- RefB
set_option maxHeartbeats 4000000 in
theorem refb_spec : ∀ {w : World} {mean : ExcName → Option Value} {mg mb : Str → Option Value} {dp un : Nat} {gd : Option (List Code)} {cn : Str} {cs : Scope} {fa : Addr} {ccd : Value} {outer : List Env} {A₀ : Around} {base h₀ : Heap} {L : Addr} {m : Str → Option Value} {rest : List (Addr × Obj)} {s : Shared} {Q E : Value → Shared → Prop} {g₀ : Heap} {x dx : Addr} {a b c v l : Int} {u1 u2 u3 ta tb tc tv tl : Tok} (B : Below A₀ base outer h₀) (F : Fr h₀ L s.heap m) (X : (hd.heap_39 w.params).In h₀) (N : News h₀ L s.heap ((x, instObj 119 dx) :: (dx, dictOf [⟨PyData.keyHash w.params (Str.ofString "one"), .str (Str.ofString "one") u1, .int a ta⟩, ⟨PyData.keyHash w.params (Str.ofString "two"), .str (Str.ofString "two") u2, .int b tb⟩, ⟨PyData.keyHash w.params (Str.ofString "three"), .str (Str.ofString "three") u3, .int c tc⟩] 3) :: rest)) (hDx : ∀ p ∈ rest, p.1 ≠ x) (hDdx : ∀ p ∈ rest, p.1 ≠ dx) (T : Top view (looseW view [Str.ofString "PressError"]) mean mg mb h₀) (XB : (hd.heap_39 w.params).In base) (TB : Top view (looseW view [Str.ofString "PressError"]) mean mg mb base) (D : KtsDicts (outer.filterMap (·.frame)) h₀) (T0 : KtsTurn (outer.filterMap (·.frame)) g₀ h₀) (hk : cs.kind = .function) (hdp : dp + 8 < recursionLimit) (hun : un + 100 < cLine) (ha : 1 ≤ a) (hb : 1 ≤ b) (hc : 1 ≤ c) (hv : 1 ≤ v) (hl : 0 ≤ l) (h0 : tellD a b c v l = 0) (hret : ∀  (h₀' h' : Heap) (tk' : Nat), KtsTurn (outer.filterMap (·.frame)) g₀ h₀' → Fr h₀' L h' m → News h₀' L h' ((x, instObj 119 dx) :: (dx, dictOf [⟨PyData.keyHash w.params (Str.ofString "one"), .str (Str.ofString "one") u1, .int a ta⟩, ⟨PyData.keyHash w.params (Str.ofString "two"), .str (Str.ofString "two") u2, .int b tb⟩, ⟨PyData.keyHash w.params (Str.ofString "three"), .str (Str.ofString "three") u3, .int c tc⟩] 3) :: rest) → Below A₀ base outer h₀' → (hd.heap_39 w.params).In h₀' → Top view (looseW view [Str.ofString "PressError"]) mean mg mb  h₀' → KtsDicts (outer.filterMap (·.frame)) h₀' → Q (.bool true) { s with heap := h', toks := tk' }), wpAny (model PySem.Challenge.rw_no0090_01.row.prog w) (ktrTop dp un gd cn cs L fa ccd [] outer) (call (.ref 173) [.ref x, .int v tv, .int l tl]) Q E s := by
  k_fill
  w_top off
  intro w mean mg mb dp un gd cn cs fa ccd outer A₀ base h₀ L m rest s Q E g₀ x dx a b c v l u1 u2 u3 ta tb tc tv tl B F X N hDx hDdx T XB TB D T0 hk hdp hun ha hb hc hv hl h0 hret
  have hMk : KstMark := kstMark
  have hOx : OwnOff rest [x] := fun p hp b hb => by rw [List.mem_singleton.mp hb]; exact hDx p hp
  have hOdx : OwnOff rest [dx] := fun p hp b hb => by rw [List.mem_singleton.mp hb]; exact hDdx p hp
  refine wpAny_call ?_
  k_dflt (refine' code_defT (small := [(x, instObj 119 dx), (dx, dictOf [⟨PyData.keyHash w.params (Str.ofString "one"), .str (Str.ofString "one") u1, .int a ta⟩, ⟨PyData.keyHash w.params (Str.ofString "two"), .str (Str.ofString "two") u2, .int b tb⟩, ⟨PyData.keyHash w.params (Str.ofString "three"), .str (Str.ofString "three") u3, .int c tc⟩] 3)]) ?k1 ?k2 ?k3 ?k4 ?kO ?k5 ?XB ?TB ?D ?T0 ?kA ?k6 ?k7 ?k8 ?k9 ?kB ?_ ?cK ?c2 ?c3 ?c4 ?c5; (case kA => exact rfl); (case XB => assumption); (case TB => assumption); (case D => assumption); (case T0 => assumption); (case k1 => k_asm); (case k2 => k_asm); (case k3 => k_asm); (case k4 => exact N); (case kO => (refine List.forall_mem_cons.mpr ⟨hDx, ?_⟩; refine List.forall_mem_cons.mpr ⟨hDdx, ?_⟩; exact List.forall_mem_nil _)); (case k5 => k_asm); (case k6 => k_is); (case k7 => k_is); (case k8 => ktr_room); (case k9 => first | exact BindsTo.of_eq rfl | exact binds_K (by k_in) rfl (by k_is) rfl rfl rfl); (case c5 => decide); (case kB => exact locs rfl); (case cK => assumption); (case c2 => exact rfl); (case c3 => exact rfl); (case c4 => exact rfl); k_whole)
  intro g' L' h' FG' F' N' B' X' T' D' T1
  try dsimp only
  try k_lift B'
  clear N T0 D
  try k_fold
  k_steps
  all_goals first
  | (exfalso; omega)
  | skip
  all_goals
  ((try dsimp only); refine' leaveT_ (news' := [(x, instObj 119 dx), (dx, dictOf [⟨PyData.keyHash w.params (Str.ofString "one"), .str (Str.ofString "one") u1, .int a ta⟩, ⟨PyData.keyHash w.params (Str.ofString "two"), .str (Str.ofString "two") u2, .int b tb⟩, ⟨PyData.keyHash w.params (Str.ofString "three"), .str (Str.ofString "three") u3, .int c tc⟩] 3)]) ?eT ?eF ?eN ?eK
   (case eT => assumption)
   (case eF => k_asm)
   (case eN => (refine' cb_drop ?cM ?cS; (case cM => k_asm); (case cS => exact (List.forall_mem_cons.mpr ⟨by k_memK, (List.forall_mem_cons.mpr ⟨by k_memK, (List.forall_mem_nil _)⟩)⟩))))
   (case eK => intro h₂ T₂ F₂ N₂ B₂ X₂ P₂ D₂; refine' hret _ _ _ T₂ F₂ N₂ B₂ X₂ P₂ D₂ ))

-- Small
section
local macro_rules | `(tactic| walk_at "call ref") => `(tactic| (k_here; (with_reducible show wpAny _ _ (call (Value.ref 152) _) _ _ _); (k_dflt (refine' rowof_use ?kB ?kF ?kX ?kN ?kDx ?kDdx ?kT ?kK ?kdp ?kun ?kp0 ?kp1 ?kp2 ?kp3 ?_; (case kB | kF | kX => k_asm); (case kN => exact (News.pick2 (by k_asm) (by k_mem) (by k_mem))); (case kDx | kDdx => k_all); (case kT => k_asm); (case kK => first | exact rfl | assumption); (case kdp => ktr_room); (case kun => ktr_units); (case kp0 => first | assumption | omega | (refine ltN' ?_; omega)); (case kp1 | kp2 | kp3 => first | assumption | omega | exact tell_pos (by omega) (by omega) (by omega) (by omega) (by assumption) | exact t2_pos (by omega) (by omega) | exact t3_pos (by omega) (by omega)); k_whole)); intro ls' ta' tb' tc' k' h' tk' F' N' Ap'; (try k_sweep); (try dsimp only); (try k_fold)))
local macro_rules | `(tactic| walk_at "call ref") => `(tactic| (k_here; (with_reducible show wpAny _ _ (call (Value.ref 173) _) _ _ _); (k_dflt (refine' refb_spec ?kB ?kF ?kX ?kN ?kDx ?kDdx ?kT ?XB ?TB ?D ?T0 ?kK ?kdp ?kun ?kp0 ?kp1 ?kp2 ?kp3 ?kp4 ?kp5 ?_; (case kB | kF | kX => k_asm); (case kN => exact (News.pick2 (by k_asm) (by k_mem) (by k_mem))); (case kDx | kDdx => k_all); (case kT => k_asm); (case XB | TB | D | T0 => assumption); (case kK => first | exact rfl | assumption); (case kdp => ktr_room); (case kun => ktr_units); (case kp0 | kp1 | kp2 => first | assumption | omega); (case kp3 | kp4 => omega); (case kp5 => first | assumption | omega); k_whole)); intro  h₁' h' tk' T0' F' N' B' X' T' D'; (try k_lift B'); (try k_sweep); (try dsimp only); (try k_fold)))
local macro_rules | `(tactic| walk_at "exec For Name List cons nil") => `(tactic| (k_here; (with_unfolding_all refine' For_G ?_)))
set_option maxHeartbeats 1000000 in
theorem small_spec : ∀ {w : World} {mean : ExcName → Option Value} {mg mb : Str → Option Value} {dp un : Nat} {gd : Option (List Code)} {cn : Str} {cs : Scope} {fa : Addr} {ccd : Value} {outer : List Env} {A₀ : Around} {base h₀ : Heap} {L : Addr} {m : Str → Option Value} {rest : List (Addr × Obj)} {s : Shared} {Q E : Value → Shared → Prop} {g₀ : Heap} {th : Addr} {a b c l : Int} {ta tb tc tl : Tok} {k : Nat} (B : Below A₀ base outer h₀) (F : Fr h₀ L s.heap m) (X : (hd.heap_39 w.params).In h₀) (N : News h₀ L s.heap ((th, listOf #[.int a ta, .int b tb, .int c tc] k) :: rest)) (hDth : ∀ p ∈ rest, p.1 ≠ th) (T : Top view (looseW view [Str.ofString "PressError"]) mean mg mb h₀) (XB : (hd.heap_39 w.params).In base) (TB : Top view (looseW view [Str.ofString "PressError"]) mean mg mb base) (D : KtsDicts (outer.filterMap (·.frame)) h₀) (T0 : KtsTurn (outer.filterMap (·.frame)) g₀ h₀) (hk : cs.kind = .function) (hdp : dp + 20 < recursionLimit) (hun : un + 200 < cLine) (ha : 1 ≤ a) (hb : 1 ≤ b) (hc : 1 ≤ c) (hl : 0 ≤ l) (hret : ∀  (h₀' h' : Heap) (tk' : Nat), KtsTurn (outer.filterMap (·.frame)) g₀ h₀' → Fr h₀' L h' m → News h₀' L h' ((th, listOf #[.int a ta, .int b tb, .int c tc] k) :: rest) → Below A₀ base outer h₀' → (hd.heap_39 w.params).In h₀' → Top view (looseW view [Str.ofString "PressError"]) mean mg mb  h₀' → KtsDicts (outer.filterMap (·.frame)) h₀' → Q (.bool true) { s with heap := h', toks := tk' }), wpAny (model PySem.Challenge.rw_no0090_01.row.prog w) (ktrTop dp un gd cn cs L fa ccd [] outer) (call (.ref 180) [.ref th, .int l tl]) Q E s := by
  k_fill
  w_top off
  intro w mean mg mb dp un gd cn cs fa ccd outer A₀ base h₀ L m rest s Q E g₀ th a b c l ta tb tc tl k B F X N hDth T XB TB D T0 hk hdp hun ha hb hc hl hret
  have hMk : KstMark := kstMark
  have hOth : OwnOff rest [th] := fun p hp b hb => by rw [List.mem_singleton.mp hb]; exact hDth p hp
  refine wpAny_call ?_
  k_dflt (refine' code_defT (small := [(th, listOf #[.int a ta, .int b tb, .int c tc] k)]) ?k1 ?k2 ?k3 ?k4 ?kO ?k5 ?XB ?TB ?D ?T0 ?kA ?k6 ?k7 ?k8 ?k9 ?kB ?_ ?cK ?c2 ?c3 ?c4 ?c5; (case kA => exact rfl); (case XB => assumption); (case TB => assumption); (case D => assumption); (case T0 => assumption); (case k1 => k_asm); (case k2 => k_asm); (case k3 => k_asm); (case k4 => exact N); (case kO => (refine List.forall_mem_cons.mpr ⟨hDth, ?_⟩; exact List.forall_mem_nil _)); (case k5 => k_asm); (case k6 => k_is); (case k7 => k_is); (case k8 => ktr_room); (case k9 => first | exact BindsTo.of_eq rfl | exact binds_K (by k_in) rfl (by k_is) rfl rfl rfl); (case c5 => decide); (case kB => exact locs rfl); (case cK => assumption); (case c2 => exact rfl); (case c3 => exact rfl); (case c4 => exact rfl); k_whole)
  intro g' L' h' FG' F' N' B' X' T' D' T1
  try dsimp only
  try k_lift B'
  clear N T0 D
  try k_fold
  k_steps
  refine' loopG_list (J := fun i g m news => m (Str.ofString "three") = some (.ref th) ∧ m (Str.ofString "ahead") = some (.int l tl) ∧ news = [(th, listOf #[.int a ta, .int b tb, .int c tc] k)] ∧ Below (ktrTop dp un gd cn cs L fa ccd [] outer) base (envOf cn cs L fa ccd :: outer) g ∧ (hd.heap_39 w.params).In g ∧ Top view (looseW view [Str.ofString "PressError"]) mean mg mb g ∧ KtsDicts ((envOf cn cs L fa ccd :: outer).filterMap (·.frame)) g ∧ KtsTurn ((envOf cn cs L fa ccd :: outer).filterMap (·.frame)) g' g) ?F ?N ?off ?h0 ?step ?hR
  (case F => k_asm)
  (case N => k_asm)
  (case off => k_all)
  (case h0 => exact ⟨rfl, rfl, rfl, B', X', T', D', T1⟩)
  (case step =>
    intro I lI i v g1 m₁ news₁ o1 o2 h1 tk1 hi hv hJ ho1 ho2 F1 N1
    obtain ⟨hm1, hm2, rfl, B1, X1, P1, D1, T2⟩ := hJ
    have hm : m₁ = fun y => if y = Str.ofString "three" then some (.ref th) else if y = Str.ofString "ahead" then some (.int l tl) else m₁ y := by
      funext y
      by_cases h1 : y = Str.ofString "three"
      · rw [if_pos h1, h1, hm1]
      · by_cases h2 : y = Str.ofString "ahead"
        · rw [if_neg h1, if_pos h2, h2, hm2]
        · rw [if_neg h1, if_neg h2]
    rw [hm] at F1
    clear hm hm1 hm2
    have hAm : ∃ am t, v = .int am t ∧ 1 ≤ am := by
      refine item_ok (P := fun v => ∃ am t, v = .int am t ∧ 1 ≤ am) ?_ hv
      refine List.forall_mem_cons.mpr ⟨⟨_, _, rfl, by decide⟩, List.forall_mem_cons.mpr ⟨⟨_, _, rfl, by decide⟩, List.forall_mem_cons.mpr ⟨⟨_, _, rfl, by decide⟩, List.forall_mem_cons.mpr ⟨⟨_, _, rfl, by decide⟩, List.forall_mem_cons.mpr ⟨⟨_, _, rfl, by decide⟩, List.forall_mem_cons.mpr ⟨⟨_, _, rfl, ?_⟩, List.forall_mem_cons.mpr ⟨⟨_, _, rfl, ?_⟩, List.forall_mem_cons.mpr ⟨⟨_, _, rfl, by decide⟩, List.forall_mem_nil _⟩⟩⟩⟩⟩⟩⟩⟩
      · simp only [Int.reduceToNat, List.getD_cons_zero, List.getD_cons_succ]; omega
      · simp only [Int.reduceToNat, List.getD_cons_zero, List.getD_cons_succ]; omega
    obtain ⟨am, tam, rfl, ham⟩ := hAm
    clear hv hi
    k_lt lI
    clear B' X' T' D' T1
    try (with_reducible show wpAny _ _ _ _ _ _)
    try k_fold
    k_steps
    all_goals first
    | (exfalso; omega)
    | (refine' nextG_ (news₂ := [(th, listOf #[.int a ta, .int b tb, .int c tc] k)]) ?eF ?eN ?eO ?eJ
       (case eF => k_asm)
       (case eN => (refine' cb_drop ?cM ?cS; (case cM => k_asm); (case cS => exact List.forall_mem_cons.mpr ⟨by k_memK, List.forall_mem_cons.mpr ⟨by k_memK, List.forall_mem_cons.mpr ⟨by k_memK, List.forall_mem_nil _⟩⟩⟩)))
       (case eO => exact List.forall_mem_cons.mpr ⟨List.forall_mem_cons.mpr ⟨by k_ne, List.forall_mem_cons.mpr ⟨by k_ne, List.forall_mem_nil _⟩⟩, List.forall_mem_nil _⟩)
       (case eJ => exact ⟨rfl, rfl, rfl, by assumption, by assumption, by assumption, by assumption, by assumption⟩)))
  (case hR =>
    intro g1 h1 tk1 m₁ news₁ F1 N1 hJ
    obtain ⟨hm1, hm2, rfl, B1, X1, P1, D1, T2⟩ := hJ
    clear B' X' T' D' T1
    k_steps
    ((try dsimp only); refine' leaveT_ (news' := [(th, listOf #[.int a ta, .int b tb, .int c tc] k)]) ?eT ?eF ?eN ?eK
     (case eT => assumption)
     (case eF => k_asm)
     (case eN => (refine' cb_drop ?cM ?cS; (case cM => k_asm); (case cS => exact (List.forall_mem_cons.mpr ⟨by k_memK, (List.forall_mem_nil _)⟩))))
     (case eK => intro h₂ T₂ F₂ N₂ B₂ X₂ P₂ D₂; refine' hret _ _ _ T₂ F₂ N₂ B₂ X₂ P₂ D₂ )))
end

-- Low
theorem fr_back {g g' h : Heap} {L : Addr} {m : Str → Option Value} (T : KtsTurn [] g g') (F : Fr g' L h m) : Fr g L h m :=
  ⟨F.ns, fun b o e => F.keep b o (T.other b o e (fun q => nomatch q)), T.size ▸ F.above⟩
theorem news_back {g g' h : Heap} {L : Addr} {news : List (Addr × Obj)} (T : KtsTurn [] g g') (N : News g' L h news) : News g L h news := fun p hp => by
  refine ⟨(N p hp).1, (N p hp).2.1, ?_⟩
  cases e : g.get? p.1 with
  | none => rfl
  | some o =>
    have z := T.other _ o e (fun q => nomatch q)
    rw [(N p hp).2.2] at z
    cases z
theorem small0_spec : ∀ {w : World} {mean : ExcName → Option Value} {mg mb : Str → Option Value} {dp un : Nat} {gd : Option (List Code)} {cn : Str} {cs : Scope} {fa : Addr} {ccd : Value}  {A₀ : Around} {h₀ : Heap} {L : Addr} {m : Str → Option Value} {rest : List (Addr × Obj)} {s : Shared} {Q E : Value → Shared → Prop} {th : Addr} {a b c l : Int} {ta tb tc tl : Tok} {k : Nat} (B : Below A₀ h₀ [] h₀) (F : Fr h₀ L s.heap m) (X : (hd.heap_39 w.params).In h₀) (N : News h₀ L s.heap ((th, listOf #[.int a ta, .int b tb, .int c tc] k) :: rest)) (hDth : ∀ p ∈ rest, p.1 ≠ th) (T : Top view (looseW view [Str.ofString "PressError"]) mean mg mb h₀) (hk : cs.kind = .function) (hdp : dp + 20 < recursionLimit) (hun : un + 200 < cLine) (ha : 1 ≤ a) (hb : 1 ≤ b) (hc : 1 ≤ c) (hl : 0 ≤ l) (hret : ∀  (h' : Heap) (tk' : Nat), Fr h₀ L h' m → News h₀ L h' ((th, listOf #[.int a ta, .int b tb, .int c tc] k) :: rest) → Q (.bool true) { s with heap := h', toks := tk' }), wpAny (model PySem.Challenge.rw_no0090_01.row.prog w) (ktrTop dp un gd cn cs L fa ccd [] []) (call (.ref 180) [.ref th, .int l tl]) Q E s := by
  intro w mean mg mb dp un gd cn cs fa ccd A₀ h₀ L m rest s Q E th a b c l ta tb tc tl k B F X N hDth T hk hdp hun ha hb hc hl hret
  exact small_spec (g₀ := h₀) B F X N hDth T X T ktsDicts_nil KtsTurn.refl hk hdp hun ha hb hc hl (fun h₀' h' tk' T0 F' N' _ _ _ _ => hret h' tk' (fr_back T0 F') (news_back T0 N'))
theorem odd0_spec : ∀ {w : World} {mean : ExcName → Option Value} {mg mb : Str → Option Value} {dp un : Nat} {gd : Option (List Code)} {cn : Str} {cs : Scope} {fa : Addr} {ccd : Value}  {A₀ : Around} {h₀ : Heap} {L : Addr} {m : Str → Option Value} {rest : List (Addr × Obj)} {s : Shared} {Q E : Value → Shared → Prop} {th : Addr} {a b c : Int} {ta tb tc : Tok} {k : Nat} (B : Below A₀ h₀ [] h₀) (F : Fr h₀ L s.heap m) (X : (hd.heap_39 w.params).In h₀) (N : News h₀ L s.heap ((th, listOf #[.int a ta, .int b tb, .int c tc] k) :: rest)) (hDth : ∀ p ∈ rest, p.1 ≠ th) (T : Top view (looseW view [Str.ofString "PressError"]) mean mg mb h₀) (hk : cs.kind = .function) (hdp : dp + 20 < recursionLimit) (hun : un + 200 < cLine) (ha : 1 ≤ a) (hb : 1 ≤ b) (hc : 1 ≤ c) (hret : ∀  (h' : Heap) (tk' : Nat), Fr h₀ L h' m → News h₀ L h' ((th, listOf #[.int a ta, .int b tb, .int c tc] k) :: rest) → Q (.bool true) { s with heap := h', toks := tk' }), wpAny (model PySem.Challenge.rw_no0090_01.row.prog w) (ktrTop dp un gd cn cs L fa ccd [] []) (call (.ref 192) [.ref th]) Q E s := by
  intro w mean mg mb dp un gd cn cs fa ccd A₀ h₀ L m rest s Q E th a b c ta tb tc k B F X N hDth T hk hdp hun ha hb hc hret
  exact odd_spec (g₀ := h₀) B F X N hDth T X T ktsDicts_nil KtsTurn.refl hk hdp hun ha hb hc (fun h₀' h' tk' T0 F' N' _ _ _ _ => hret h' tk' (fr_back T0 F') (news_back T0 N'))

-- Mk0
set_option maxHeartbeats 4000000 in
theorem mk0_spec : ∀ {w : World} {mean : ExcName → Option Value} {mg mb : Str → Option Value} {dp un : Nat} {gd : Option (List Code)} {cn : Str} {cs : Scope} {fa : Addr} {ccd : Value} {cl : List (Str × Addr)} {outer : List Env} {A₀ : Around} {base h₀ : Heap} {L : Addr} {m : Str → Option Value} {rest : List (Addr × Obj)} {s : Shared} {Q E : Value → Shared → Prop}  (B : Below A₀ base outer h₀) (F : Fr h₀ L s.heap m) (X : (hd.heap_39 w.params).In h₀) (N : News h₀ L s.heap (rest)) (T : Top view (looseW view [Str.ofString "PressError"]) mean mg mb h₀) (hk : cs.kind = .function) (hdp : dp + 3 < recursionLimit) (hun : un + 20 < cLine) (hret : ∀ (x dx : Addr) (u1 u2 u3 ta tb tc : Tok) (h' : Heap) (tk' : Nat), Fr h₀ L h' m → News h₀ L h' ((x, instObj 119 dx) :: (dx, dictOf [⟨PyData.keyHash w.params (Str.ofString "one"), .str (Str.ofString "one") u1, .int 1 ta⟩, ⟨PyData.keyHash w.params (Str.ofString "two"), .str (Str.ofString "two") u2, .int 4 tb⟩, ⟨PyData.keyHash w.params (Str.ofString "three"), .str (Str.ofString "three") u3, .int 8 tc⟩] 3) :: rest) → (∀ p ∈ rest, p.1 < x) → (∀ p ∈ rest, p.1 < dx) → @LT.lt Nat _ dx x → Q (.ref x) { s with heap := h', toks := tk' }), wpAny (model PySem.Challenge.rw_no0090_01.row.prog w) (ktrTop dp un gd cn cs L fa ccd cl outer) (call (.ref 119) []) Q E s := by
  k_fill
  w_top off
  intro w mean mg mb dp un gd cn cs fa ccd cl outer A₀ base h₀ L m rest s Q E  B F X N T hk hdp hun hret
  have hMk : KstMark := kstMark
  k_dflt (refine' call_cls ?k1 ?k2 ?k3 ?k4 ?k5 ?k6 ?_; (case k1 => k_asm); (case k2 => k_asm); (case k3 => k_asm); (case k4 => k_is); (case k5 => k_is); (case k6 => k_is); k_whole)
  intro x' d' h' F' N' l1 l2
  try k_lt l1
  k_lt2 l2
  k_sweep
  k_dflt (refine' code_def ?k1 ?k2 ?k3 ?k4 ?k5 ?kA ?kF ?kK ?k6 ?k7 ?k8 ?k9 ?kB ?_ ?c2 ?c3 ?c4 ?c5; (case kA => exact rfl); (case kF => exact rfl); (case kK => assumption); (case k1 => k_asm); (case k2 => k_asm); (case k3 => k_asm); (case k4 => k_asm); (case k5 => k_asm); (case k6 => k_is); (case k7 => k_is);  (case k8 => k_room); (case k9 => first | exact BindsTo.of_eq rfl | exact binds_K (by k_in) rfl (by k_is) rfl rfl rfl); (case c5 => decide); (case kB => exact locs rfl); (case c2 => exact rfl); (case c3 => exact rfl); (case c4 => exact rfl); k_whole)
  intro g' L' h'' FG' F' N' B' X' T'
  try dsimp only
  try k_lift B'
  try k_fold
  k_steps
  exact hret _ _ _ _ _ _ _ _ _ _ (by assumption) (by assumption) (fun p hp => Nat.lt_trans (l1 p hp) l2) l1 l2

-- Law
section
local macro_rules | `(tactic| walk_at "eval ListComp") => `(tactic| (k_here; k_dflt (refine LCg.ListComp_U (F₀ := by k_asm) (by with_unfolding_all rfl) (by decide) (by rfl) (by decide) (by rfl) ?_)))
local macro_rules | `(tactic| walk_at "CompSrc") => `(tactic| (k_here; k_dflt (refine LCg.CompSrc.base (by rfl) (by k_asm) (by k_asm) (by assumption) (by size_fits) ?_; intro gq'; (refine' kcf_list _ (by assumption) (fun k' t' I' oI' C' oC' D' m' ys' h' tk' E' hk' hC' hx' F' N' off' ne' hMark' => ?_) ?_); (all_goals (try (simp only [LCg.Off3, and_true] at off'))); kcf_last)))
local macro_rules | `(tactic| walk_at "call ref") => `(tactic| (k_here; (with_reducible show wpAny _ _ (call (Value.ref 119) _) _ _ _); (k_dflt (refine' mk0_spec ?kB ?kF ?kX ?kN ?kT ?kK ?kdp ?kun ?_; (case kB | kF | kX => k_asm); (case kN => exact (by k_asm)); (case kT => k_asm); (case kK => first | exact rfl | assumption); (case kdp => ktr_room); (case kun => ktr_units); k_whole)); intro x' dx' u1' u2' u3' ta' tb' tc' h' tk' F' N' l1 l2 l3; (try k_lt l1); (try k_lt l2); (try k_sweep); (try dsimp only); (try k_fold)))
local macro_rules | `(tactic| walk_at "call ref") => `(tactic| (k_here; (with_reducible show wpAny _ _ (call (Value.ref 130) _) _ _ _); (k_dflt (refine' box_spec ?kB ?kF ?kX ?kN ?kT ?kK ?kdp ?kun ?kp0 ?kp1 ?kp2 ?_; (case kB | kF | kX => k_asm); (case kN => exact (by k_asm)); (case kT => k_asm); (case kK => first | exact rfl | assumption); (case kdp => ktr_room); (case kun => ktr_units); (case kp0 | kp1 => assumption); (case kp2 => omega); k_whole)); intro box' g' sd' t1' t2' t3' kb' h' tk' F' N' Ap' b1 b2 b3; (try k_sweep); (try dsimp only); (try k_fold)))
local macro_rules | `(tactic| walk_at "call ref") => `(tactic| (k_here; (with_reducible show wpAny _ _ (call (Value.ref 142) _) _ _ _); (k_dflt (refine' row_spec ?kB ?kF ?kX ?kN ?kDbox ?kT ?kK ?kdp ?kun ?kp0 ?kp1 ?kp2 ?kp3 ?kp4 ?_; (case kB | kF | kX => k_asm); (case kN => exact (News.pick1 (by k_asm) (by k_mem))); (case kDbox => k_all); (case kT => k_asm); (case kK => first | exact rfl | assumption); (case kdp => ktr_room); (case kun => ktr_units); (case kp0 | kp1 | kp2 | kp3 | kp4 => omega); k_whole)); intro th' a' b' c' ta' tb' tc' k' g' n' t1' t3' kb' h' tk' F' N' Ap' b1 b2 b3 b4 b5 b6; (try k_sweep); (try dsimp only); (try k_fold)))
local macro_rules | `(tactic| walk_at "call ref") => `(tactic| (k_here; (with_reducible show wpAny _ _ (call (Value.ref 180) _) _ _ _); (k_dflt (refine' small0_spec ?kB ?kF ?kX ?kN ?kDth ?kT ?kK ?kdp ?kun ?kp0 ?kp1 ?kp2 ?kp3 ?_; (case kB | kF | kX => k_asm); (case kN => exact (News.pick1 (by k_asm) (by k_mem))); (case kDth => k_all); (case kT => k_asm); (case kK => first | exact rfl | assumption); (case kdp => ktr_room); (case kun => ktr_units); (case kp0 | kp1 | kp2 => first | assumption | omega); (case kp3 => omega); k_whole)); intro h' tk' F' N'; (try k_sweep); (try dsimp only); (try k_fold)))
local macro_rules | `(tactic| walk_at "call ref") => `(tactic| (k_here; (with_reducible show wpAny _ _ (call (Value.ref 192) _) _ _ _); (k_dflt (refine' odd0_spec ?kB ?kF ?kX ?kN ?kDth ?kT ?kK ?kdp ?kun ?kp0 ?kp1 ?kp2 ?_; (case kB | kF | kX => k_asm); (case kN => exact (News.pick1 (by k_asm) (by k_mem))); (case kDth => k_all); (case kT => k_asm); (case kK => first | exact rfl | assumption); (case kdp => ktr_room); (case kun => ktr_units); (case kp0 | kp1 | kp2 => first | assumption | omega); k_whole)); intro h' tk' F' N'; (try k_sweep); (try dsimp only); (try k_fold)))
local macro_rules | `(tactic| walk_at "call ref") => `(tactic| (k_here; (with_reducible show wpAny _ _ (call (Value.ref 185) _) _ _ _); (k_dflt (refine' chain_spec ?kB ?kF ?kX ?kN ?kDbox ?kDth ?kT ?kK ?kdp ?kun ?kp0 ?kp1 ?kp2 ?kp3 ?kp4 ?kp5 ?kp6 ?kp7 ?kp8 ?kp9 ?kp10 ?_; (case kB | kF | kX => k_asm); (case kN => exact (News.pick2 (by k_asm) (by k_mem) (by k_mem))); (case kDbox | kDth => k_all); (case kT => k_asm); (case kK => first | exact rfl | assumption); (case kdp => ktr_room); (case kun => ktr_units); (case kp0 => first | assumption | k_ne); (case kp1 | kp2 | kp3 => first | assumption | omega); (case kp4 | kp5 | kp6 | kp7 | kp8 | kp9 | kp10 => omega); k_whole)); intro h' tk' F' N'; (try k_sweep); (try dsimp only); (try k_fold)))
set_option maxRecDepth 100000 in
set_option maxHeartbeats 4000000 in
theorem law_holds : PySem.Challenge.rw_no0090_01.Holds := by
  refine hd ?_
  k_go0
  all_goals try k_fold
  k_steps
end
end Mine

theorem PySem.Challenge.cw_no0090_01_holds : PySem.Challenge.rw_no0090_01.Holds :=
  Mine.law_holds
