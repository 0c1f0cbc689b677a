import PyProof.Rows.All
import Wide.All
import OpenK.AllK
import Wide.FinOn
import PySem.Challenge.RW_xm0650_01
open PySem PySem.W PyProof.Rows PySem.Calls
set_option Elab.async false
set_option maxRecDepth 100000
set_option maxHeartbeats 8000000
namespace Mine
open_top hd for PySem.Challenge.rw_xm0650_01
-- the head turns the top's own arms of the walk on; the parts were built with them off
theorem arms_off : True := by
  w_top off
  trivial

section
-- part Base
structure Swap (h h' : Heap) (src : Addr) (o' : Obj) : Prop where
  keep : ∀ b x, b ≠ src → h.get? b = some x → h'.get? b = some x
  at' : h'.get? src = some o'
theorem Swap.trans {h h' h'' : Heap} {src : Addr} {o' o'' : Obj} (a : Swap h h' src o') (b : Swap h' h'' src o'') : Swap h h'' src o'' :=
  ⟨fun c x hc e => b.keep c x hc (a.keep c x hc e), b.at'⟩

section
variable {w : World} {A : Around} {E : Value → Shared → Prop} {s : Shared} {K : Frag} {p prog : Program} {loose : List Str} {mean : ExcName → Option Value} {mg mb : Str → Option Value} {h₀ : Heap}
  {name qual : Str} {params : Arguments} {body : List Stmt} {scope : Scope} {dV kV doc pm cdv ct oc : Value} {an od : Option Addr} {osl : Array (Option Value)} {f : Addr} {vals : List Value} {binds : List (Str × Value)}
  {Q : Value → Shared → Prop}

/-- a call of a def, one object of the caller's (src) may change -/
theorem enter1 {src : Addr} {o : Obj} (X : K.In h₀) (T : Top p loose mean mg mb h₀) (hk : ∀ b x, h₀.get? b = some x → s.heap.get? b = some x)
    (hS : s.heap.get? src = some o) (hS0 : h₀.get? src = none)
    (ho : K.lookup f = some ⟨oc, od, .func (fnOf name qual params body scope dV kV doc pm an cdv ct), osl⟩) (hcd : codeIn K cdv qual = true) (hroom : A.depth < recursionLimit)
    (hbind : BindsTo s (fnOf name qual params body scope dV kV doc pm an cdv ct) ⟨vals, []⟩ binds) (hloc : ∀ y ∈ binds, scope.names.lookup y.1 = some .local)
    (h : ∀ g L' h₁, (∀ b x, b ≠ src → s.heap.get? b = some x → g.get? b = some x) → Fr g L' h₁ (fun y => binds.reverse.lookup y) → News g L' h₁ [(src, o)] → K.In g → Top p loose mean mg mb g →
      wpAny (model prog w) (A.deeper (envOf qual scope L' f cdv)) (execs body (envOf qual scope L' f cdv))
        (fun fl s' => Q (match fl with | .ret v => v | _ => .none) s')
        (fun e s' => wpAny (model prog w) (A.deeper (envOf qual scope L' f cdv)) (leaving (envOf qual scope L' f cdv) e) (fun _ s'' => E e s'') (fun e' s'' => E e' s'') s')
        { s with heap := h₁, toks := s.toks + binds.length })
    (hco : scope.isCoroutine = false := by rfl) (hgen : scope.isGenerator = false := by rfl) (hkd : scope.kind = .function := by rfl)
    (hcell : ∀ x ∈ scope.names, x.2 ≠ .cell := by decide) : wpAny (model prog w) A (call (.ref f) vals) Q E s := by
  refine wpAny_call (codeAny_call_def (fd := fnOf name qual params body scope dV kV doc pm an cdv ct) (body := body) (binds := binds) hroom (hk _ _ (X _ _ ho)) rfl (T.nolimit.keeps hk) ((codeRec_of X hcd).keeps hk) rfl hbind hcell hloc (fun h₁ hns hk₁ => ?_) hco hgen hkd)
  have st : ∀ b x, b ≠ src → s.heap.get? b = some x → (s.heap.hide src).get? b = some x := fun b x hb e => (Heap.hide_ne _ hb).trans e
  have s0 : ∀ b x, h₀.get? b = some x → (s.heap.hide src).get? b = some x := fun b x e => st b x (fun q => by rw [q, hS0] at e; cases e) (hk b x e)
  exact h (s.heap.hide src) s.heap.objs.size h₁ st ⟨hns, fun b x e => hk₁ b x (Heap.of_hide e), Nat.le_of_eq (Heap.hide_size _ _)⟩
    (fun q hq => by
      obtain rfl := List.mem_singleton.mp hq
      exact ⟨hk₁ _ _ hS, Nat.ne_of_lt (Heap.lt_size hS), Heap.hide_self _ _⟩) (fun a x e => s0 _ _ (X a x e)) (T.keeps s0)

/-- a call of a def that changes nothing -/
theorem enter0 (X : K.In h₀) (T : Top p loose mean mg mb h₀) (hk : ∀ b x, h₀.get? b = some x → s.heap.get? b = some x)
    (ho : K.lookup f = some ⟨oc, od, .func (fnOf name qual params body scope dV kV doc pm an cdv ct), osl⟩) (hcd : codeIn K cdv qual = true) (hroom : A.depth < recursionLimit)
    (hbind : BindsTo s (fnOf name qual params body scope dV kV doc pm an cdv ct) ⟨vals, []⟩ binds) (hloc : ∀ y ∈ binds, scope.names.lookup y.1 = some .local)
    (h : ∀ L' h₁, Fr s.heap L' h₁ (fun y => binds.reverse.lookup y) → News s.heap L' h₁ [] → K.In s.heap → Top p loose mean mg mb s.heap →
      wpAny (model prog w) (A.deeper (envOf qual scope L' f cdv)) (execs body (envOf qual scope L' f cdv))
        (fun fl s' => Q (match fl with | .ret v => v | _ => .none) s')
        (fun e s' => wpAny (model prog w) (A.deeper (envOf qual scope L' f cdv)) (leaving (envOf qual scope L' f cdv) e) (fun _ s'' => E e s'') (fun e' s'' => E e' s'') s')
        { s with heap := h₁, toks := s.toks + binds.length })
    (hco : scope.isCoroutine = false := by rfl) (hgen : scope.isGenerator = false := by rfl) (hkd : scope.kind = .function := by rfl)
    (hcell : ∀ x ∈ scope.names, x.2 ≠ .cell := by decide) : wpAny (model prog w) A (call (.ref f) vals) Q E s := by
  refine wpAny_call (codeAny_call_def (fd := fnOf name qual params body scope dV kV doc pm an cdv ct) (body := body) (binds := binds) hroom (hk _ _ (X _ _ ho)) rfl (T.nolimit.keeps hk) ((codeRec_of X hcd).keeps hk) rfl hbind hcell hloc (fun h₁ hns hk₁ => ?_) hco hgen hkd)
  exact h s.heap.objs.size h₁ ⟨hns, hk₁, Nat.le_refl _⟩ (fun q hq => nomatch hq) (fun a x e => hk _ _ (X a x e)) (T.keeps hk)
end
end

section
-- part Take
theorem fdiv_le {x top : Int} (hx : 0 ≤ x) (ht : 0 < top) : x.fdiv top ≤ x := by
  rw [Int.fdiv_eq_ediv_of_nonneg _ (by omega)]
  exact Int.ediv_le_self _ hx

theorem take_ends {w : World} {A : Around} {E : Value → Shared → Prop} {s : Shared} {mean : ExcName → Option Value} {mg mb : Str → Option Value} {h₀ : Heap} {Q : Value → Shared → Prop}
    {src : Addr} {x y top : Int} {tx ty tt : Tok} {n : Nat}
    (X : (hd.heap_39 w.params).In h₀) (T : Top hd.view_39 (looseW hd.view_39 []) mean mg mb h₀) (hk : ∀ b x, h₀.get? b = some x → s.heap.get? b = some x)
    (hS : s.heap.get? src = some (listOf [Value.int x tx, .int y ty].toArray n)) (hS0 : h₀.get? src = none) (hroom : A.depth < recursionLimit)
    (hx : 0 ≤ x) (hy : 0 ≤ y) (hy2 : y < 2147483648) (ht : 0 < top) (ht2 : top < 1000)
    (h : ∀ h' tk r tr x' tx' y' ty', Swap s.heap h' src (listOf [Value.int x' tx', .int y' ty'].toArray n) → 0 ≤ x' → x' ≤ x → 0 ≤ y' → y' < 2147483648 → 0 ≤ r → r < top → Q (.int r tr) { s with heap := h', toks := tk }) :
    wpAny (model PySem.Challenge.rw_xm0650_01.row.prog w) A (call (.ref 88) [.ref src, .int top tt]) Q E s := by
  revert X; k_fill; intro X
  refine' enter1 X T hk hS hS0 ?ho ?hcd hroom ?hb ?hl ?_ ?hco ?hgen ?hkd ?hcell
  case ho => k_is
  case hcd => k_is
  case hb => exact BindsTo.of_eq rfl
  case hl => exact locs rfl
  case hco => exact rfl
  case hgen => exact rfl
  case hkd => exact rfl
  case hcell => decide
  intro g L' h₁ hg F N X' T'
  have hi : IntsAre [Value.int x tx, .int y ty] [x, y] := .cons _ _ (.cons _ _ .nil)
  (try dsimp only)
  (try k_fold)
  clear X T hk
  k_steps
  · dsimp only
    rename Fr g L' _ _ => F'
    rename News g L' _ _ => N'
    refine h _ _ _ _ (x.fdiv top) _ y _ ⟨fun b z hb e => F'.keep _ _ (hg b z hb e), (N' _ (.head _)).1⟩ ?_ ?_ hy hy2 ?_ ?_
    · exact Int.fdiv_nonneg hx (by omega)
    · exact fdiv_le hx ht
    · exact Int.fmod_nonneg_of_pos _ ht
    · exact Int.fmod_lt_of_pos _ ht
  · have z0 : 0 ≤ (y * 39373 + 7).fmod 2147483647 := Int.fmod_nonneg_of_pos _ (by omega)
    have z1 : (y * 39373 + 7).fmod 2147483647 < 2147483647 := Int.fmod_lt_of_pos _ (by omega)
    refine mul_int ?_ (IntMulOk.of_left (intBits_le_64 (by show -(2^64) < (y * 39373 + 7).fmod 2147483647; omega) (by show (y * 39373 + 7).fmod 2147483647 < 2 ^ 64; omega)))
    k_steps
    dsimp only
    rename Fr g L' _ _ => F'
    rename News g L' _ _ => N'
    refine h _ _ _ _ x _ ((y * 39373 + 7).fmod 2147483647) _ ⟨fun b z hb e => F'.keep _ _ (hg b z hb e), (N' _ (.head _)).1⟩ hx (Int.le_refl _) z0 (by omega) ?_ ?_
    · exact Int.fmod_nonneg_of_pos _ ht
    · exact Int.fmod_lt_of_pos _ ht
end

section
-- part One
theorem Swap.fr {g h h' : Heap} {L : Addr} {m : Str → Option Value} {src : Addr} {o' : Obj} (F : Fr g L h m) (hL : src ≠ L) (h0 : g.get? src = none) (S : Swap h h' src o') : Fr g L h' m := by
  obtain ⟨⟨oL, es, ep, h1, r⟩, k, ab⟩ := F
  exact ⟨⟨oL, es, ep, S.keep _ _ (Ne.symm hL) h1, r⟩, fun b x e => S.keep b x (fun q => by rw [q, h0] at e; cases e) (k b x e), ab⟩
theorem Swap.news {g h h' : Heap} {L : Addr} {src : Addr} {o o' : Obj} {news news' : List (Addr × Obj)} (N : News g L h news) (S : Swap h h' src o') (U : Upd src o o' news news') : News g L h' news' := by
  obtain ⟨pre, post, rfl, rfl, a, b⟩ := U.split
  have z := N (src, o) (List.mem_append.mpr (.inr (.head _)))
  intro q hq
  rcases List.mem_append.mp hq with q' | q'
  · have P := N q (List.mem_append_left _ q'); exact ⟨S.keep _ _ (a q q') P.1, P.2⟩
  · rcases List.mem_cons.mp q' with rfl | q'
    · exact ⟨S.at', z.2⟩
    · have P := N q (List.mem_append_right _ (.tail _ q')); exact ⟨S.keep _ _ (b q q') P.1, P.2⟩

theorem one_ends {w : World} {A : Around} {E : Value → Shared → Prop} {s : Shared} {mean : ExcName → Option Value} {mg mb : Str → Option Value} {h₀ : Heap} {Q : Value → Shared → Prop}
    {src th : Addr} {x y : Int} {tx ty : Tok} {n : Nat} {vs : List Value}
    (X : (hd.heap_39 w.params).In h₀) (T : Top hd.view_39 (looseW hd.view_39 []) mean mg mb h₀) (hk : ∀ b x, h₀.get? b = some x → s.heap.get? b = some x)
    (hS : s.heap.get? src = some (listOf [Value.int x tx, .int y ty].toArray n)) (hS0 : h₀.get? src = none) (hroom : A.depth + 9 < recursionLimit)
    (hth : s.heap.IsList th vs.toArray) (hne : th ≠ src) (hl : 0 < vs.length) (hl2 : vs.length < 1000)
    (hx : 0 ≤ x) (hy : 0 ≤ y) (hy2 : y < 2147483648)
    (h : ∀ h' tk v x' tx' y' ty', v ∈ vs → Swap s.heap h' src (listOf [Value.int x' tx', .int y' ty'].toArray n) → 0 ≤ x' → x' ≤ x → 0 ≤ y' → y' < 2147483648 → Q v { s with heap := h', toks := tk }) :
    wpAny (model PySem.Challenge.rw_xm0650_01.row.prog w) A (call (.ref 95) [.ref src, .ref th]) Q E s := by
  revert X; k_fill; intro X
  refine' enter1 X T hk hS hS0 ?ho ?hcd (by omega) ?hb ?hl ?_ ?hco ?hgen ?hkd ?hcell
  case ho => k_is
  case hcd => k_is
  case hb => exact BindsTo.of_eq rfl
  case hl => exact locs rfl
  case hco => exact rfl
  case hgen => exact rfl
  case hkd => exact rfl
  case hcell => decide
  intro g L' h₁ hg F N X' T'
  obtain ⟨oth, hth, hcth, nth, hdth⟩ := hth
  have hL : g.IsList th vs.toArray := ⟨oth, hg _ _ hne hth, hcth, nth, hdth⟩
  (try dsimp only)
  (try k_fold)
  clear X T hk
  k_steps
  refine len_list (l := th) (items := vs.toArray) ⟨oth, F.keep _ _ (hg _ _ hne hth), hcth, nth, hdth⟩ (by simp only [List.size_toArray]; omega) ?_
  k_steps
  refine take_ends (n := n) X' T' F.keep (N _ (.head _)).1 (N _ (.head _)).2.2 (by simp only [depth_deeper]; omega) hx hy hy2 (by simp only [List.size_toArray]; omega) (by simp only [List.size_toArray]; omega) ?_
  intro h' tk r tr x' tx' y' ty' S a1 a2 a3 a4 a5 a6
  have F' := S.fr F (N _ (.head _)).2.1 (N _ (.head _)).2.2
  clear F N
  have hl9 : h'.IsList th vs.toArray := ⟨oth, F'.keep _ _ (hg _ _ hne hth), hcth, nth, hdth⟩
  simp only [List.size_toArray] at a6
  have ri : r.toNat < vs.length := by omega
  refine tail_any hl9.typeIs slot_list_getitem.lookup (wpAny_getItem_list hl9 a5 (by omega) (x := vs[r.toNat]) (by rw [List.getElem?_toArray]; exact List.getElem?_eq_getElem ri) ?_) (by with_unfolding_all rfl)
  exact h _ _ _ _ _ _ _ (List.getElem_mem ri) ⟨fun b z hb e => F'.keep _ _ (hg b z hb e), S.at'⟩ a1 a2 a3 a4
end

section
-- part Core
abbrev sSETS : List Str := ["last", "position", "count", "id", "local-name", "namespace-uri", "name", "sum", "lang"]
abbrev sTRUTHS : List Str := ["boolean", "not", "true", "false"]
abbrev sNUMBERS : List Str := ["number", "floor", "ceiling", "round"]
abbrev sTEXTS : List Str := ["string", "concat", "starts-with", "contains", "substring-before", "substring-after", "substring", "string-length", "normalize-space", "translate"]
def coreB (z : Str) : Bool := sSETS.any (· == z) || (sTRUTHS.any (· == z) || (sNUMBERS.any (· == z) || sTEXTS.any (· == z)))

theorem or1 {a b c d : Bool} (h : a = true) : (a || (b || (c || d))) = a := by simp [h]
theorem or2 {a b c d : Bool} (ha : a = false) (h : b = true) : (a || (b || (c || d))) = b := by simp [ha, h]
theorem or3 {a b c d : Bool} (ha : a = false) (hb : b = false) (h : c = true) : (a || (b || (c || d))) = c := by simp [ha, hb, h]
theorem or4 {a b c d : Bool} (ha : a = false) (hb : b = false) (h : c = false) : (a || (b || (c || d))) = d := by simp [ha, hb, h]

local macro_rules | `(tactic| walk_at "compareOp In") => `(tactic| (k_here; (with_reducible show wpAny _ _ (compareOp CmpOp.In (Value.str _ _) (Value.ref _)) _ _ _); refine' in_tuple_strs (tupK (by k_in) ?e) ?i ?_; (case e => k_is); (case i => (repeat' constructor))))
theorem core_ends {w : World} {A : Around} {E : Value → Shared → Prop} {s : Shared} {mean : ExcName → Option Value} {mg mb : Str → Option Value} {h₀ : Heap} {Q : Value → Shared → Prop}
    {z : Str} {tz : Tok}
    (X : (hd.heap_39 w.params).In h₀) (T : Top hd.view_39 (looseW hd.view_39 []) mean mg mb h₀) (hk : ∀ b x, h₀.get? b = some x → s.heap.get? b = some x)
    (hroom : A.depth + 9 < recursionLimit)
    (h : ∀ h' tk, (∀ b x, s.heap.get? b = some x → h'.get? b = some x) → Q (.bool (coreB z)) { s with heap := h', toks := tk }) :
    wpAny (model PySem.Challenge.rw_xm0650_01.row.prog w) A (call (.ref 60) [.str z tz]) Q E s := by
  revert X; k_fill; intro X
  refine' enter0 X T hk ?ho ?hcd (by omega) ?hb ?hl ?_ ?hco ?hgen ?hkd ?hcell
  case ho => k_is
  case hcd => k_is
  case hb => exact BindsTo.of_eq rfl
  case hl => exact locs rfl
  case hco => exact rfl
  case hgen => exact rfl
  case hkd => exact rfl
  case hcell => decide
  intro L' h₁ F N X' T'
  (try dsimp only)
  (try k_fold)
  clear X T hk
  k_steps
  all_goals dsimp only
  all_goals rename Fr s.heap L' _ _ => F'
  · exact Eq.mp (congrArg (fun b => Q (.bool b) _) (or1 (by assumption))) (h _ _ F'.keep)
  · exact Eq.mp (congrArg (fun b => Q (.bool b) _) (or2 (by assumption) (by assumption))) (h _ _ F'.keep)
  · exact Eq.mp (congrArg (fun b => Q (.bool b) _) (or3 (by assumption) (by assumption) (by assumption))) (h _ _ F'.keep)
  · exact Eq.mp (congrArg (fun b => Q (.bool b) _) (or4 (by assumption) (by assumption) (by assumption))) (h _ _ F'.keep)
end

section
-- part Bent
theorem Swap.frN {g h h' : Heap} {L : Addr} {m : Str → Option Value} {src : Addr} {o' o : Obj} {news : List (Addr × Obj)} (S : Swap h h' src o') (F : Fr g L h m) (N : News g L h news) (hm : (src, o) ∈ news) : Fr g L h' m :=
  S.fr F (N _ hm).2.1 (N _ hm).2.2

theorem bent_ends {w : World} {A : Around} {E : Value → Shared → Prop} {s : Shared} {mean : ExcName → Option Value} {mg mb : Str → Option Value} {h₀ : Heap} {Q : Value → Shared → Prop}
    {src th : Addr} {x y : Int} {tx ty : Tok} {n : Nat} {vs : List Value}
    (X : (hd.heap_39 w.params).In h₀) (T : Top hd.view_39 (looseW hd.view_39 []) mean mg mb h₀) (hk : ∀ b x, h₀.get? b = some x → s.heap.get? b = some x)
    (hS : s.heap.get? src = some (listOf [Value.int x tx, .int y ty].toArray n)) (hS0 : h₀.get? src = none) (hroom : A.depth + 19 < recursionLimit) (hA : A.handled = none)
    (hth : s.heap.IsList th vs.toArray) (hne : th ≠ src) (hl : 0 < vs.length) (hl2 : vs.length < 1000)
    (hvs : ∀ v ∈ vs, ∃ z t, v = .str z t ∧ 1 ≤ z.length ∧ z.length ≤ 20)
    (hx : 0 ≤ x) (hy : 0 ≤ y) (hy2 : y < 2147483648)
    (h : ∀ h' tk z t x' tx' y' ty', Swap s.heap h' src (listOf [Value.int x' tx', .int y' ty'].toArray n) → 0 ≤ x' → x' ≤ x → 0 ≤ y' → y' < 2147483648 → Q (.str z t) { s with heap := h', toks := tk }) :
    wpAny (model PySem.Challenge.rw_xm0650_01.row.prog w) A (call (.ref 116) [.ref src, .ref th]) Q E s := by
  obtain ⟨hd0, _, _, _, _⟩ := A
  obtain rfl : hd0 = none := hA
  revert X; k_fill; intro X
  refine' enter1 X T hk hS hS0 ?ho ?hcd (by omega) ?hb ?hl ?_ ?hco ?hgen ?hkd ?hcell
  case ho => k_is
  case hcd => k_is
  case hb => exact BindsTo.of_eq rfl
  case hl => exact locs rfl
  case hco => exact rfl
  case hgen => exact rfl
  case hkd => exact rfl
  case hcell => decide
  intro g L' h₁ hg F N X' T'
  obtain ⟨oth, hth, hcth, nth, hdth⟩ := hth
  (try dsimp only)
  (try k_fold)
  clear X T hk
  k_steps
  refine one_ends (n := n) X' T' F.keep (N _ (.head _)).1 (N _ (.head _)).2.2 (by simp only [depth_deeper]; dsimp only at hroom ⊢; omega) ⟨oth, F.keep _ _ (hg _ _ hne hth), hcth, nth, hdth⟩ hne hl hl2 hx hy hy2 ?_
  intro h2 tk2 v x2 tx2 y2 ty2 hv S2 b1 b2 b3 b4
  obtain ⟨z, t, rfl, z1, z2⟩ := hvs v hv
  have F2 := S2.fr F (N _ (.head _)).2.1 (N _ (.head _)).2.2
  have N2 := S2.news N (.head (fun _ q => nomatch q))
  clear F N
  k_steps
  refine take_ends (n := n) X' T' F2.keep (N2 _ (.head _)).1 (N2 _ (.head _)).2.2 (by simp only [depth_deeper]; dsimp only at hroom ⊢; omega) b1 b3 b4 (by omega) (by omega) ?_
  intro h3 tk3 way tw x3 tx3 y3 ty3 S3 c1 c2 c3 c4 c5 c6
  have F3 := S3.fr F2 (N2 _ (.head _)).2.1 (N2 _ (.head _)).2.2
  have N3 := S3.news N2 (.head (fun _ q => nomatch q))
  clear F2 N2
  k_steps
  rename Fr g L' _ _ => F
  rename News g L' _ _ => N
  refine take_ends (n := n) X' T' F.keep (N.get (by k_mem)) (N.fresh (by k_mem)) (by simp only [depth_deeper]; dsimp only at hroom ⊢; omega) c1 c3 c4 (by omega) (by omega) ?_
  intro h4 tk4 place tp x4 tx4 y4 ty4 S4 d1 d2 d3 d4 d5 d6
  have F4 := S4.fr F (N _ (.tail _ (.head _))).2.1 (N _ (.tail _ (.head _))).2.2
  have N4 := S4.news N (by k_upd)
  clear F N
  k_steps
  · dsimp only
    rename Fr g L' _ _ => F
    rename News g L' _ _ => N
    exact h _ _ _ _ _ _ _ _ ⟨fun b z hb e => F.keep _ _ (hg b z hb e), N.get (by k_mem)⟩ d1 (by omega) d3 d4
  · rename Fr g L' _ _ => F
    rename News g L' _ _ => N
    refine one_ends (n := n) X' T' F.keep (N.get (by k_mem)) (N.fresh (by k_mem)) (by simp only [depth_deeper]; dsimp only at hroom ⊢; omega) ⟨_, N.get (.head _), rfl, _, rfl⟩ (by k_ne) (by simp) (by simp) d1 d3 d4 ?_
    intro h5 tk5 v5 x5 tx5 y5 ty5 hv5 S5 e1 e2 e3 e4
    obtain ⟨z5, t5, rfl, q5⟩ : ∃ z5 t5, v5 = .str z5 t5 ∧ z5.length = 1 := by
      simp only [List.mem_cons, List.not_mem_nil, or_false] at hv5
      rcases hv5 with rfl | rfl | rfl <;> exact ⟨_, _, rfl, by decide +kernel⟩
    have q5' : z5.length ≤ 20 := by omega
    have F5 := S5.frN F N (by k_mem)
    have N5 := S5.news N (by k_upd)
    clear F N
    k_steps
    (try dsimp only)
    rename Fr g L' _ _ => F
    rename News g L' _ _ => N
    exact h _ _ _ _ _ _ _ _ ⟨fun b z hb e => F.keep _ _ (hg b z hb e), N.get (by k_mem)⟩ e1 (by omega) e3 e4
  · dsimp only
    rename Fr g L' _ _ => F
    rename News g L' _ _ => N
    exact h _ _ _ _ _ _ _ _ ⟨fun b z hb e => F.keep _ _ (hg b z hb e), N.get (by k_mem)⟩ d1 (by omega) d3 d4
  · rename Fr g L' _ _ => F
    rename News g L' _ _ => N
    refine one_ends (n := n) X' T' F.keep (N.get (by k_mem)) (N.fresh (by k_mem)) (by simp only [depth_deeper]; dsimp only at hroom ⊢; omega) ⟨oth, F.keep _ _ (hg _ _ hne hth), hcth, nth, hdth⟩ hne hl hl2 d1 d3 d4 ?_
    intro h5 tk5 v5 x5 tx5 y5 ty5 hv5 S5 e1 e2 e3 e4
    obtain ⟨z5, t5, rfl, q5, q5'⟩ := hvs v5 hv5
    have F5 := S5.frN F N (by k_mem)
    have N5 := S5.news N (by k_upd)
    clear F N
    k_steps
    (try dsimp only)
    rename Fr g L' _ _ => F
    rename News g L' _ _ => N
    exact h _ _ _ _ _ _ _ _ ⟨fun b z hb e => F.keep _ _ (hg b z hb e), N.get (by k_mem)⟩ e1 (by omega) e3 e4
  · dsimp only
    rename Fr g L' _ _ => F
    rename News g L' _ _ => N
    exact h _ _ _ _ _ _ _ _ ⟨fun b z hb e => F.keep _ _ (hg b z hb e), N.get (by k_mem)⟩ d1 (by omega) d3 d4
end

section
-- part Bounds
abbrev sNONE : List Str := ["last", "position", "true", "false"]
abbrev sONE : List Str := ["local-name", "namespace-uri", "name", "string", "number", "string-length", "normalize-space"]
abbrev sTWO : List Str := ["starts-with", "contains", "substring-before", "substring-after"]
def bndB (a b c d e f : Bool) : Int × Int := if a = true then (0, 0) else if b = true then (0, 1) else if c = true then (2, 2) else if d = true then (2, 3) else if e = true then (3, 3) else if f = true then (2, 1000) else (1, 1)
def bnd (z : Str) : Int × Int := bndB (sNONE.any (· == z)) (sONE.any (· == z)) (sTWO.any (· == z)) (z == ("substring" : Str)) (z == ("translate" : Str)) (z == ("concat" : Str))
section
variable {a b c d e f : Bool}
theorem b1 (h : a = true) : bndB a b c d e f = (0, 0) := by subst h; rfl
theorem b2 (ha : a = false) (h : b = true) : bndB a b c d e f = (0, 1) := by subst ha h; rfl
theorem b3 (ha : a = false) (hb : b = false) (h : c = true) : bndB a b c d e f = (2, 2) := by subst ha hb h; rfl
theorem b4 (ha : a = false) (hb : b = false) (hc : c = false) (h : d = true) : bndB a b c d e f = (2, 3) := by subst ha hb hc h; rfl
theorem b5 (ha : a = false) (hb : b = false) (hc : c = false) (hd : d = false) (h : e = true) : bndB a b c d e f = (3, 3) := by subst ha hb hc hd h; rfl
theorem b6 (ha : a = false) (hb : b = false) (hc : c = false) (hd : d = false) (he : e = false) (h : f = true) : bndB a b c d e f = (2, 1000) := by subst ha hb hc hd he h; rfl
theorem b7 (ha : a = false) (hb : b = false) (hc : c = false) (hd : d = false) (he : e = false) (h : f = false) : bndB a b c d e f = (1, 1) := by subst ha hb hc hd he h; rfl
end
local macro_rules | `(tactic| walk_at "compareOp In") => `(tactic| (k_here; (with_reducible show wpAny _ _ (compareOp CmpOp.In (Value.str _ _) (Value.ref _)) _ _ _); refine' in_tuple_strs (tupK (by k_in) ?e) ?i ?_; (case e => k_is); (case i => (repeat' constructor))))
theorem bounds_ends {w : World} {A : Around} {E : Value → Shared → Prop} {s : Shared} {mean : ExcName → Option Value} {mg mb : Str → Option Value} {h₀ : Heap} {Q : Value → Shared → Prop}
    {z : Str} {tz : Tok}
    (X : (hd.heap_39 w.params).In h₀) (T : Top hd.view_39 (looseW hd.view_39 []) mean mg mb h₀) (hk : ∀ b x, h₀.get? b = some x → s.heap.get? b = some x)
    (hroom : A.depth + 9 < recursionLimit) (hA : A.handled = none)
    (h : ∀ h' tk a t1 t2, (∀ b x, s.heap.get? b = some x → h'.get? b = some x) → s.heap.get? a = none → h'.get? a = some { cls := .type "tuple", data := .seq [.int (bnd z).1 t1, .int (bnd z).2 t2].toArray } → Q (.ref a) { s with heap := h', toks := tk }) :
    wpAny (model PySem.Challenge.rw_xm0650_01.row.prog w) A (call (.ref 67) [.str z tz]) Q E s := by
  obtain ⟨hd0, _, _, _, _⟩ := A
  obtain rfl : hd0 = none := hA
  revert X; k_fill; intro X
  refine' enter0 X T hk ?ho ?hcd (by omega) ?hb ?hl ?_ ?hco ?hgen ?hkd ?hcell
  case ho => k_is
  case hcd => k_is
  case hb => exact BindsTo.of_eq rfl
  case hl => exact locs rfl
  case hco => exact rfl
  case hgen => exact rfl
  case hkd => exact rfl
  case hcell => decide
  intro L' h₁ F N X' T'
  (try dsimp only)
  (try k_fold)
  clear X T hk
  k_steps
  all_goals rename Fr s.heap L' _ _ => F
  all_goals rename News s.heap L' _ _ => N
  · have e : bnd z = _ := b1 (by assumption)
    exact h _ _ _ _ _ F.keep (N.fresh (.head _)) (by rw [e]; exact N.get (.head _))
  · have e : bnd z = _ := b2 (by assumption) (by assumption)
    exact h _ _ _ _ _ F.keep (N.fresh (.head _)) (by rw [e]; exact N.get (.head _))
  · have e : bnd z = _ := b3 (by assumption) (by assumption) (by assumption)
    exact h _ _ _ _ _ F.keep (N.fresh (.head _)) (by rw [e]; exact N.get (.head _))
  · have e : bnd z = _ := b4 (by assumption) (by assumption) (by assumption) (by assumption)
    exact h _ _ _ _ _ F.keep (N.fresh (.head _)) (by rw [e]; exact N.get (.head _))
  · have e : bnd z = _ := b5 (by assumption) (by assumption) (by assumption) (by assumption) (by assumption)
    exact h _ _ _ _ _ F.keep (N.fresh (.head _)) (by rw [e]; exact N.get (.head _))
  · have e : bnd z = _ := b6 (by assumption) (by assumption) (by assumption) (by assumption) (by assumption) (by assumption)
    exact h _ _ _ _ _ F.keep (N.fresh (.head _)) (by rw [e]; exact N.get (.head _))
  · have e : bnd z = _ := b7 (by assumption) (by assumption) (by assumption) (by assumption) (by assumption) (by assumption)
    exact h _ _ _ _ _ F.keep (N.fresh (.head _)) (by rw [e]; exact N.get (.head _))
end

section
-- part Pf
abbrev pfMro : List Value := [.ref 31, .type "Exception", .type "BaseException", .type "object"]
abbrev excFields (t : Addr) : Data := .fields #[.ref t, .none, .none, .none, .bool false, .none]
section
variable {prog : Program} {w : World} {A : Around} {E : Value → Shared → Prop} {R : Result → Shared → Prop} {h : Heap} {g : Array GenState} {d : Drawn} {t : Nat} {os : OsState}
variable {nm q : Str} {C N : Addr} {bs : List Value} {hdct : Bool} {sn : List Str} {sub : List Value} {ab : Bool} {col : Option Bool} {dd : Option Addr} {k0 k1 k2 k3 k5 : Option Value}

theorem pf_check {M : Model} {rest : List Value} {Q : Unit → Shared → Prop} (hC : h.get? C = some (excClassObj nm q C N bs pfMro hdct sn sub ab col dd k0 k1 k2 k3 k5 "Exception.__new__"))
    (hq : Q () ⟨h, g, d, t, os⟩) : wpAny M A (checkBuiltinCall "Exception.__new__" ⟨.ref C :: rest, []⟩) Q E ⟨h, g, d, t, os⟩ :=
  wpAny_check_new_subU PySem.F.excBase_Exception (bmB := pfMro) (by decide +kernel) .base hC hq

theorem pf_new {rest : List Value} (hC : h.get? C = some (excClassObj nm q C N bs pfMro hdct sn sub ab col dd k0 k1 k2 k3 k5 "Exception.__new__"))
    (hq : R (.ok (.ret (.ref (h.objs.size + 1)))) ⟨(h.push { cls := .type "tuple", data := .seq rest.toArray }).push { cls := .ref C, data := excFields h.objs.size }, g, d, t, os⟩) (hrest : rest.length ≤ sizeLine) :
    codeAny (model prog w) A (.builtin "Exception.__new__" ⟨.ref C :: rest, []⟩) R ⟨h, g, d, t, os⟩ := by
  have hends := PySem.F.excBase_Exception.ends
  have hcB : (Value.ref C :: pfMro).contains (.type "Exception") = true := by rw [List.contains_cons]; exact (Bool.or_eq_true _ _).mpr (.inr (by decide +kernel))
  have hcA : (Value.ref C :: pfMro).contains (.type "AttributeError") = false := by rw [List.contains_cons]; exact Bool.or_eq_false_iff.mpr ⟨rfl, by decide +kernel⟩
  have hcN : (Value.ref C :: pfMro).contains (.type "NameError") = false := by rw [List.contains_cons]; exact Bool.or_eq_false_iff.mpr ⟨rfl, by decide +kernel⟩
  refine codeAny_builtinAt PySem.F.excBase_Exception.entry ?_
  unfold Builtin.«BaseException.__new__»
  refine PySem.wpAt_bind ?_
  show PySem.wpAt _ _ _ (stack >>= _) _ _ _
  refine PySem.wpAt_bind (PySem.wpAt_stack fun p below => PySem.wpAt_of_wpAny ?_)
  wp_walk
  refine PySem.wpAt_of_wpAny ?_
  rw [PySem.F.excBase_Exception.owner]
  repeat (first | with_reducible refine wpAny_madeHere_exc PySem.F.excBase_Exception.canon hC ?_ | with_reducible refine wpAny_loadPart_at hC ?_ | (with_reducible refine wpAny_isSubtype_exc hC ?_; first | rw [hcB] | rw [hcA] | rw [hcN]) | wp_step)
  show R _ _
  rw [Heap.size_push]
  exact hq

theorem pf_type {K : Frag} {rest : List Value} {fI : Addr} {Q : Fin → Shared → Prop}
    (X : K.In h) (hi : findIn K (.ref C) "__init__" = some (some (.ref fI))) (hf : typeIn K (.ref fI) = some (.type "function"))
    (hC : h.get? C = some (excClassObj nm q C N bs pfMro hdct sn sub ab col dd k0 k1 k2 k3 k5 "Exception.__new__"))
    (hq : ∀ h' e, Heap.MadeExcOf h h' e (.ref C) rest →
      wpAny (model prog w) A (call (.ref fI) (.ref e :: rest)) (fun r s' => r = .none ∧ Q (.done (.ret (.ref e))) s') E ⟨h', g, d, t, os⟩) (hrest : rest.length ≤ sizeLine) :
    wpAny (model prog w) A (Builtin.«type.__call__» ⟨.ref C :: rest, []⟩) Q E ⟨h, g, d, t, os⟩ := by
  repeat (first | with_reducible refine wpAny_loadPart_at hC ?_ | with_reducible refine wpAny_madeBy_exc hC ?_ | wp_step)
  refine codeAny_call_builtin_code (Code.quiet_builtin _ PySem.F.excBase_Exception.quiet) (pf_check hC ?_)
  refine pf_new hC ?_ hrest
  show wpAny _ _ _ _ _ _
  have kk : ∀ b o, h.get? b = some o → ((h.push { cls := .type "tuple", data := .seq rest.toArray }).push { cls := .ref C, data := excFields h.objs.size }).get? b = some o :=
    fun b o e => Heap.get?_push_of_some _ (Heap.get?_push_of_some _ e)
  have hC₁ := kk _ _ hC
  have X₁ : K.In ((h.push { cls := .type "tuple", data := .seq rest.toArray }).push { cls := .ref C, data := excFields h.objs.size }) := fun a x e => kk _ _ (X a x e)
  have hget : ((h.push { cls := .type "tuple", data := .seq rest.toArray }).push { cls := .ref C, data := excFields h.objs.size }).get? (h.objs.size + 1) = some { cls := .ref C, data := excFields h.objs.size } := by heap_get
  have hcC : (Value.ref C :: pfMro).contains (.ref C) = true := by simp
  unfold isInstance
  repeat (first | with_reducible refine wpAny_loadPart_at hget ?_ | (with_reducible refine wpAny_isSubtype_exc hC₁ ?_; rw [hcC]) | wp_step)
  show wpAny _ _ (typeLookup (.ref C) _) _ _ _
  refine (looks_findIn X₁ hi).here ?_
  refine wpAny_holding (wpAny_bind ((bind_fn X₁ _ hf).here ?_))
  refine wpAny_bind (wpAny_mono (hq _ (h.objs.size + 1) ⟨kk, Heap.get?_none_of_le (Nat.le_succ _), h.objs.size, hget, Heap.get?_none_of_le (Nat.le_refl _), ?_⟩) (fun r s' hr => ?_) fun _ _ x => x)
  · exact Heap.get?_push_of_some _ (Heap.get?_push_at rfl rfl)
  · obtain ⟨rfl, hQ⟩ := hr
    wp_walk
    exact hQ

theorem pf_call {K : Frag} {rest : List Value} {fI : Addr} {Q : Value → Shared → Prop}
    (X : K.In h) (hi : findIn K (.ref C) "__init__" = some (some (.ref fI))) (hf : typeIn K (.ref fI) = some (.type "function"))
    (hC : h.get? C = some (excClassObj nm q C N bs pfMro hdct sn sub ab col dd k0 k1 k2 k3 k5 "Exception.__new__"))
    (hq : ∀ h' e, Heap.MadeExcOf h h' e (.ref C) rest →
      wpAny (model prog w) (A.under (.builtin "type.__call__" ⟨.ref C :: rest, []⟩)) (call (.ref fI) (.ref e :: rest)) (fun r s' => r = .none ∧ Q (.ref e) s') E ⟨h', g, d, t, os⟩) (hrest : rest.length ≤ sizeLine) :
    wpAny (model prog w) A (call (.ref C) rest) Q E ⟨h, g, d, t, os⟩ := by
  have f1 := tc_lookup
  have f2 := tc_bind (.ref C)
  have hT : (⟨h, g, d, t, os⟩ : Shared).TypeIs (.ref C) "type" := ⟨_, hC, rfl⟩
  refine wpAny_call (codeAny_of_tree ?_)
  show wpAny _ _ (callAny (.ref C) _) _ _ _
  repeat (any_goals (first | assumption | with_reducible refine wpAny_loadPart_at hC ?_ | wp_step))
  refine ⟨rfl, ?_⟩
  refine codeAny_call_builtin_at (Code.quiet_builtin _ (by decide +kernel)) entry_typeCall (wpAny_check_type_call_sub hC (pf_type (hrest := hrest) X hi hf hC fun h' e hm => ?_))
  exact hq h' e hm
end
end

section
-- part Ini2
section
variable {prog : Program} {w : World} {A : Around} {E : Value → Shared → Prop} {R : Result → Shared → Prop} {h : Heap} {g : Array GenState} {d : Drawn} {t : Nat} {os : OsState}
variable {nm q : Str} {C N : Addr} {bs : List Value} {hdct : Bool} {sn : List Str} {sub : List Value} {ab : Bool} {col : Option Bool} {dd : Option Addr} {k0 k1 k2 k3 k5 : Option Value}
theorem pf_check_init {M : Model} {e : Addr} {oe : Obj} {rest : List Value} {Q : Unit → Shared → Prop} (hC : h.get? C = some (excClassObj nm q C N bs pfMro hdct sn sub ab col dd k0 k1 k2 k3 k5 "Exception.__new__"))
    (he : h.get? e = some oe) (hcls : oe.cls = .ref C) (hq : Q () ⟨h, g, d, t, os⟩) :
    wpAny M A (checkBuiltinCall "Exception.__init__" ⟨.ref e :: rest, []⟩) Q E ⟨h, g, d, t, os⟩ := by
  have F := PySem.F.excBase_Exception
  have hcB : (Value.ref C :: pfMro).contains (.type "Exception") = true := by rw [List.contains_cons]; exact (Bool.or_eq_true _ _).mpr (.inr (by decide +kernel))
  have hshort := F.noStar
  simp only [checkBuiltinCall, F.initKind, F.initSplit, F.initRow]
  repeat (first | (with_reducible refine wpAny_loadPart_at he ?_; rw [hcls]) | with_reducible refine wpAny_loadPart_at hC ?_ | (with_reducible refine wpAny_isSubtype_exc hC ?_; rw [hcB]) | wp_step)
  refine wpAny_onRaise ?_
  rw [show ∀ (a b : String) (n : Nat), Bind.check ⟨.positional, "*", "Exception", .self, [⟨"args", .varPos, false⟩]⟩ a b n (List.map (fun x => x.fst) ({ pos := Value.ref e :: rest } : Args).kw) = pure () from
    fun a b n => check_star_args _ _ _ _ _ _]
  exact wpAny_pure hq

theorem pf_base_init {e t0 : Addr} {rest : List Value} {Q : Value → Shared → Prop} (hC : h.get? C = some (excClassObj nm q C N bs pfMro hdct sn sub ab col dd k0 k1 k2 k3 k5 "Exception.__new__"))
    (he : h.get? e = some { cls := .ref C, data := excFields t0 }) (hrest : rest.length ≤ sizeLine)
    (hq : ∀ h' t2, (∀ b x, b ≠ e → h.get? b = some x → h'.get? b = some x) → h'.get? e = some { cls := .ref C, data := excFields t2 } → h.get? t2 = none → h'.get? t2 = some { cls := .type "tuple", data := .seq rest.toArray } → Q .none ⟨h', g, d, t, os⟩) :
    wpAny (model prog w) A (call (.builtin "Exception.__init__") (.ref e :: rest)) Q E ⟨h, g, d, t, os⟩ := by
  have F := PySem.F.excBase_Exception
  have hlt : e < h.objs.size := Heap.lt_size he
  have ee := Heap.get?_push_of_some { cls := .type "tuple", data := .seq rest.toArray } he
  refine wpAny_call (codeAny_call_builtin F.init.plain F.initEntry (pf_check_init hC he rfl ?_))
  wp_walk
  refine hq _ h.objs.size (fun b x hb hx => ?_) ?_ (Heap.get?_none_of_le (Nat.le_refl _)) ?_
  · rw [Heap.get?_update_other _ _ (Ne.symm hb)]
    exact Heap.get?_push_of_some _ hx
  · rw [Heap.get?_update_self _ ee rfl]
    rfl
  · rw [Heap.get?_update_other _ _ (Nat.ne_of_lt hlt)]
    exact Heap.get?_push_at rfl rfl
end
end

section
-- part PfSet
theorem pf_passes (self : Value) : refuseLoop self "__setattr__" [.type "Exception", .type "BaseException", .type "object"] = pure () := by kernel_rfl

theorem pf_set {prog : Program} {w : World} {A : Around} {E : Value → Shared → Prop} {K : Frag} {C D : Addr} {cd : ClassData} {h : Heap} {g : Array GenState} {dr : Drawn} {t : Nat} {os : OsState} {e t2 : Addr} {v : Value} {Q : Unit → Shared → Prop}
    (X : K.In h) (hc : clsIn K C = some cd) (hmro : cd.mro = [.ref C, .ref D, .type "Exception", .type "BaseException", .type "object"]) (hdt : cd.hasDict = true)
    (hs : findIn K (.ref C) "__setattr__" = some (some (.builtin "object.__setattr__"))) (ha : findIn K (.ref C) "message" = some none)
    (he : h.get? e = some { cls := .ref C, data := excFields t2 })
    (hq : ∀ h' d tk, (∀ b x, b ≠ e → h.get? b = some x → h'.get? b = some x) → h'.get? e = some { cls := .ref C, dict := some d, data := excFields t2 } → Q () ⟨h', g, dr, tk, os⟩) :
    wpAny (model prog w) A (setAttr (.ref e) "message" v) Q E ⟨h, g, dr, t, os⟩ := by
  have I : InstAt h e { cls := .ref C, data := excFields t2 } C none := ⟨he, rfl, rfl, trivial⟩
  refine set_plain (s := ⟨h, g, dr, t, os⟩) X I hs ?_
  have SF := PySem.F.store_object
  have ne : cd.mro.isEmpty = false := by rw [hmro]; rfl
  have sub : Looks (model prog w) h (isInstance (.ref e) (.type "object")) true := I.type.andThen (looks_mroIn X (by unfold mroIn; rw [hc, Option.bind_some, if_neg (by rw [ne]; decide), hmro]; simp))
  refine codeAny_call_builtin SF.slot.plain SF.entry (@check_slot (model prog w) _ _ _ "object.__setattr__" "object" "__setattr__" (.ref e) [.str "message" t, v] [] _ SF.kind SF.split sub (SF.args (.ref e) (.str "message" t) v) ?_)
  have hm : Looks (model prog w) h (mroOf (.ref C)) cd.mro := (looks_clsIn X hc).andThen .now
  rw [osa_eq, refuse_eq]
  refine wpAny_bind (wpAny_bind (I.type.here (wpAny_bind (hm.here ?_))))
  rw [hmro, refuseLoop_ref, refuseLoop_ref, pf_passes]
  refine wpAny_pure (wpAny_bind (I.type.here (wpAny_bind ((looks_findIn X ha).here (wpAny_bind (wpAny_pure (a := none) ?_))))))
  refine wpAny_bind (wpAny_pure (wpAny_bind (wpAny_bind (wpAny_loadPart he (wpAny_bind ((looks_clsIn X hc).here ?_))))))
  rw [hdt]
  have hlt : e < h.objs.size := Heap.lt_size he
  have e1 := Heap.get?_push_of_some { cls := .type "dict", data := .dict #[] } he
  have d1 : (h.push { cls := .type "dict", data := .dict #[] }).get? h.objs.size = some { cls := .type "dict", data := .dict #[] } := Heap.get?_push_size _ rfl
  have d2 : ((h.push { cls := .type "dict", data := .dict #[] }).update e (fun o => { o with dict := some h.objs.size })).get? h.objs.size = some { cls := .type "dict", data := .dict #[] } := by
    rw [Heap.get?_update_other _ _ (Nat.ne_of_lt hlt)]; exact d1
  simp only [Bool.not_true, Bool.false_eq_true, if_false]
  refine wpAny_bind (wpAny_alloc (wpAny_bind (wpAny_updatePart (a := e) e1 ?_)))
  refine wpAny_bind (wpAny_pure (wpAny_pure ?_))
  dsimp only
  unfold Builtin.ObjectAttr.storeInDict
  refine wpAny_bind (wpAny_pure (wpAny_bind ?_))
  unfold nsSet
  refine wpAny_bind (wpAny_bind (wpAny_askSetting (wpAny_pure (wpAny_bind (wpAny_mkText (wpAny_bind (wpAny_loadPart d2 ?_)))))))
  dsimp only
  rw [if_neg (by rw [aRefKeyMayBeTheName_at]; simp)]
  refine wpAny_updatePart d2 ?_
  have d3 := Heap.get?_update_self (Obj.putName "message" (if ("message" : Str).cps.isEmpty = true then 0 else reduceHash (w.params.strHash ("message" : Str).cps)) (.str "message" (t + 1)) v) d2 (by exact congrArg Obj.isFreed (putName_dict "message" _ (.str "message" (t + 1)) v [] 0))
  refine wpAny_bind (wpAny_lookBehind d3 (by rw [show Obj.data _ = _ from congrArg Obj.data (putName_dict "message" _ (.str "message" (t + 1)) v [] 0)]; exact pastItsLine_dict (by rw [List.size_toArray, sizeLine_eq]; simp [putL])) ?_)
  refine wpAny_pure (hq _ h.objs.size _ (fun b x hb hx => ?_) ?_)
  · have hb2 : b ≠ h.objs.size := Nat.ne_of_lt (Heap.lt_size hx)
    rw [Heap.get?_update_other _ _ (Ne.symm hb2), Heap.get?_update_other _ _ (Ne.symm hb)]
    exact Heap.get?_push_of_some _ hx
  · rw [Heap.get?_update_other _ _ (Nat.ne_of_gt hlt)]
    exact Heap.get?_update_self _ e1 rfl
end

section
-- part PfInit
theorem meta_Exception : typeOf (.type "Exception") = pure (.type "type") := by kernel_rfl
theorem init_ends {w : World} {A : Around} {E : Value → Shared → Prop} {s : Shared} {mean : ExcName → Option Value} {mg mb : Str → Option Value} {h₀ : Heap} {Q : Value → Shared → Prop}
    {e t0 : Addr} {z : Str} {tz : Tok}
    (X : (hd.heap_39 w.params).In h₀) (T : Top hd.view_39 (looseW hd.view_39 []) mean mg mb h₀) (hk : ∀ b x, h₀.get? b = some x → s.heap.get? b = some x)
    (hS : s.heap.get? e = some { cls := .ref 44, data := excFields t0 }) (hS0 : h₀.get? e = none) (hroom : A.depth + 9 < recursionLimit)
    (h : ∀ h' tk d t2, (∀ b x, b ≠ e → s.heap.get? b = some x → h'.get? b = some x) → h'.get? e = some { cls := .ref 44, dict := some d, data := excFields t2 } → t2 ≠ e → h₀.get? t2 = none → Q .none { s with heap := h', toks := tk }) :
    wpAny (model PySem.Challenge.rw_xm0650_01.row.prog w) A (call (.ref 28) [.ref e, .str z tz]) Q E s := by
  revert X; k_fill; intro X
  refine' enter1 X T hk hS hS0 ?ho ?hcd (by omega) ?hb ?hl ?_ ?hco ?hgen ?hkd ?hcell
  case ho => k_is
  case hcd => k_is
  case hb => exact BindsTo.of_eq rfl
  case hl => exact locs rfl
  case hco => exact rfl
  case hgen => exact rfl
  case hkd => exact rfl
  case hcell => decide
  intro g L' h₁ hg F N X' T'
  (try dsimp only)
  (try k_fold)
  k_steps
  refine' method_type F X' meta_Exception (by decide +kernel) ?e1 ?h1 ?_
  case e1 => k_is
  case h1 => k_handed
  k_steps
  refine' pf_base_init (X'.keeps F.keep _ _ ?hC) (N _ (.head _)).1 (by rw [sizeLine_eq]; simp) ?_
  case hC => k_is
  intro h2 t2 kp he2 hn2 ht2
  have S : Swap h₁ h2 e { cls := .ref 44, data := excFields t2 } := ⟨kp, he2⟩
  have F2 := S.frN F N (.head _)
  have N2 := S.news N (.head (fun _ q => nomatch q))
  have hn0 : h₀.get? t2 = none := by
    cases q : h₀.get? t2 with
    | none => rfl
    | some x =>
      have := F.keep _ _ (hg t2 x (fun z => by rw [z, hS0] at q; cases q) (hk _ _ q))
      rw [hn2] at this; cases this
  have hne : t2 ≠ e := fun z => by
    have := (N _ (.head _)).1
    rw [z] at hn2
    rw [hn2] at this; cases this
  clear F N
  k_steps
  refine' pf_set (D := 31) (fun a x q => F2.keep _ _ (X' a x q)) ?c1 ?m1 ?m2 ?c2 ?c3 (N2 _ (.head _)).1 ?_
  case c1 => k_is
  case m1 => exact rfl
  case m2 => exact rfl
  case c2 => k_is
  case c3 => k_is
  intro h3 d tk3 kp3 he3
  have S3 : Swap h2 h3 e { cls := .ref 44, dict := some d, data := excFields t2 } := ⟨kp3, he3⟩
  have F3 := S3.frN F2 N2 (.head _)
  clear F2 N2
  k_steps
  exact h _ _ d t2 (fun b z hb q => F3.keep _ _ (hg b z hb q)) he3 hne hn0
end

section
-- part Check
def IsPf (h : Heap) (C : Addr) : Prop := ∃ nm q N bs hdct sn sub ab col dd k0 k1 k2 k3 k5, h.get? C = some (excClassObj nm q C N bs pfMro hdct sn sub ab col dd k0 k1 k2 k3 k5 "Exception.__new__")
theorem isPf_of {K : Frag} {h : Heap} {C : Addr} {nm q : Str} {N : Addr} {bs : List Value} {hdct : Bool} {sn : List Str} {sub : List Value} {ab : Bool} {col : Option Bool} {dd : Option Addr} {k0 k1 k2 k3 k5 : Option Value} (X : K.In h)
    (e : K.lookup C = some (excClassObj nm q C N bs pfMro hdct sn sub ab col dd k0 k1 k2 k3 k5 "Exception.__new__")) : IsPf h C :=
  ⟨nm, q, N, bs, hdct, sn, sub, ab, col, dd, k0, k1, k2, k3, k5, X _ _ e⟩
def PfMade (C : Addr) (E : Value → Shared → Prop) (v : Value) (s₁ : Shared) : Prop :=
  ∃ e t d, v = .ref e ∧ IsPf s₁.heap C ∧ s₁.heap.get? e = some { cls := .ref C, dict := some d, data := excFields t } ∧ E (.ref e) s₁
theorem pf_exec_raise {M : Model} {A : Around} {E : Value → Shared → Prop} {env : Env} {s : Shared} {ex : PySem.Expr} {pos : Pos} {Q : Flow → Shared → Prop} (C : Addr)
    (hh : A.handled = none) (h : wpAny M A (eval ex env) (PfMade C E) E s) : wpAny M A (exec (.Raise (some ex) none pos) env) Q E s := by
  rw [arm_exec_Raise]
  refine wpAny_bind (wpAny_standAt ?_)
  have hcB : (Value.ref C :: pfMro).contains (.type "BaseException") = true := by rw [List.contains_cons]; exact (Bool.or_eq_true _ _).mpr (.inr (by decide +kernel))
  simp only [evalOpt, Option.map]
  unfold raiseStmt
  refine wpAny_bind (wpAny_bind (wpAny_mono h (fun v s₁ h₁ => wpAny_bind (wpAny_standAt (wpAny_pure ?_))) fun _ _ x => x))
  obtain ⟨e, t, d, rfl, hC, he, hE⟩ := h₁
  obtain ⟨nm, q, N, bs, hdct, sn, sub, ab, col, dd, k0, k1, k2, k3, k5, hC⟩ := hC
  obtain ⟨hp, g, dr, tk, os⟩ := s₁
  repeat (first | with_reducible refine wpAny_loadPart_at he ?_ | with_reducible refine wpAny_loadPart_at hC ?_ | (with_reducible refine wpAny_isSubtype_exc hC ?_; rw [hcB]) | wp_step)
  exact wpAny_raiseNew_none hh hE

local macro_rules | `(tactic| walk_at "exec Raise some none") => `(tactic| (k_here; refine pf_exec_raise 44 rfl ?_))
theorem check_ends {w : World} {A : Around} {E : Value → Shared → Prop} {s : Shared} {mean : ExcName → Option Value} {mg mb : Str → Option Value} {h₀ b₀ : Heap} {Q : Value → Shared → Prop}
    {outer : List Env} {z : Str} {tz : Tok} {lst : Addr} {vs : List Value}
    (X : (hd.heap_39 w.params).In h₀) (T : Top hd.view_39 (looseW hd.view_39 []) mean mg mb h₀) (hk : ∀ b x, h₀.get? b = some x → s.heap.get? b = some x)
    (hroom : A.depth + 19 < recursionLimit) (hA : A.handled = none) (hfr : A.frames = some outer) (hFF : s.heap.FunFrames b₀ outer)
    (hl : s.heap.IsList lst vs.toArray) (hn : vs.length ≤ 1001) (hz : z.length ≤ 100)
    (hok : ∀ h' tk, (∀ b x, s.heap.get? b = some x → h'.get? b = some x) → (bnd z).1 ≤ vs.length → (vs.length : Int) ≤ (bnd z).2 → Q .none { s with heap := h', toks := tk })
    (her : ∀ h' tk e a0, ¬ ((bnd z).1 ≤ vs.length ∧ (vs.length : Int) ≤ (bnd z).2) → Heap.FlyingW (hideAll s.heap (outer.filterMap (·.frame))) outer e (.ref 44) a0 h' → s.heap.UpToSlots h' → E (.ref e) { s with heap := h', toks := tk }) :
    wpAny (model PySem.Challenge.rw_xm0650_01.row.prog w) A (call (.ref 74) [.str z tz, .ref lst]) Q E s := by
  obtain ⟨hd0, dp, fr, gd, un⟩ := A
  obtain rfl : hd0 = none := hA
  obtain rfl : fr = some outer := hfr
  revert X; k_fill; intro X
  refine' enter0 X T hk ?ho ?hcd (by dsimp only at hroom ⊢; omega) ?hb ?hl ?_ ?hco ?hgen ?hkd ?hcell
  case ho => k_is
  case hcd => k_is
  case hb => exact BindsTo.of_eq rfl
  case hl => exact locs rfl
  case hco => exact rfl
  case hgen => exact rfl
  case hkd => exact rfl
  case hcell => decide
  intro L' h₁ F N X' T'
  (try dsimp only)
  (try k_fold)
  clear X T hk
  k_steps
  refine bounds_ends X' T' F.keep (by simp only [depth_deeper]; dsimp only at hroom ⊢; omega) rfl ?_
  intro h2 tk2 a t1 t2 kp ha0 ha
  have F2 := F.after kp
  have ga : s.heap.get? a = none := by
    cases q : s.heap.get? a with
    | none => rfl
    | some x => have := F.keep _ _ q; rw [ha0] at this; cases this
  have N2 : News s.heap L' h2 [(a, { cls := .type "tuple", data := .seq [.int (bnd z).1 t1, .int (bnd z).2 t2].toArray })] := fun p hp => by
    obtain rfl := List.mem_singleton.mp hp
    refine ⟨ha, fun q => ?_, ga⟩
    obtain ⟨⟨oL, _, _, hL, _⟩, _, _⟩ := F
    dsimp only at q
    rw [q, hL] at ha0; cases ha0
  clear F N
  k_steps
  rename Fr s.heap L' _ _ => F
  obtain ⟨ol, ho9, hc9, nn, hd9⟩ := hl
  refine len_list (l := lst) (items := vs.toArray) ⟨ol, F.keep _ _ ho9, hc9, nn, hd9⟩ (by simp only [List.size_toArray]; omega) ?_
  simp only [List.size_toArray]
  k_steps
  · rename Fr s.heap L' _ _ => F
    exact hok _ _ F.keep (by assumption) (by assumption)
  all_goals
    have hnot : ¬ ((bnd z).1 ≤ vs.length ∧ (vs.length : Int) ≤ (bnd z).2) := by omega
    rename Fr s.heap L' _ _ => F
    obtain ⟨nm, qn, NN, bs, hdct, sn, sub, ab, col, dd, k0, k1, k2, k3, k5, hC⟩ := isPf_of (K := hd.heap_39 w.params) (C := 44) (fun a x q => F.keep _ _ (X' a x q)) (by k_is)
    refine pf_call (K := hd.heap_39 w.params) (C := 44) (fun a x q => F.keep _ _ (X' a x q)) (by k_is) (by k_is) hC ?_ (by rw [sizeLine_eq]; simp)
    intro h3 e hm
    obtain ⟨t, he3, ht0, _⟩ := hm.there
    have hen : s.heap.get? e = none := by
      cases q : s.heap.get? e with
      | none => rfl
      | some x => have := F.keep _ _ q; rw [hm.new] at this; cases this
    refine init_ends (h₀ := s.heap) X' T' (fun b x q => hm.keeps _ _ (F.keep _ _ q)) he3 hen (by simp only [depth_under_make, depth_deeper]; dsimp only at hroom ⊢; omega) ?_
    intro h4 tk4 d t2 kp4 he4 _ _
    have k4 : ∀ b x, s.heap.get? b = some x → h4.get? b = some x := fun b x q => kp4 b x (fun r => by rw [r, hen] at q; cases q) (hm.keeps _ _ (F.keep _ _ q))
    have ip : IsPf h4 44 := isPf_of (K := hd.heap_39 w.params) (fun a x q => k4 _ _ (X' a x q)) (by k_is)
    refine ⟨rfl, e, t2, d, rfl, ip, he4, ?_⟩
    have hen' : (hideAll s.heap (outer.filterMap (·.frame))).get? e = none := by
      cases q : (hideAll s.heap (outer.filterMap (·.frame))).get? e with
      | none => rfl
      | some x => have := of_hideAll _ q; rw [hen] at this; cases this
    have hin : ∀ env ∈ outer, ∀ b, env.frame = some b → b ∈ outer.filterMap (·.frame) := fun env he b hb => List.mem_filterMap.mpr ⟨env, he, hb⟩
    have ff := (funFrames_hide hFF hin).of_keeps (h' := h4) fun b o q _ => ⟨o, k4 b o q, rfl⟩
    obtain ⟨oL, es, ep, hL, hLd, _⟩ := F.ns
    have hLe : L' ≠ e := fun r => by rw [r, hm.new] at hL; cases hL
    have hL0 : (hideAll s.heap (outer.filterMap (·.frame))).get? L' = none := by
      cases q : (hideAll s.heap (outer.filterMap (·.frame))).get? L' with
      | none => rfl
      | some x => exact absurd (Heap.lt_size (of_hideAll _ q)) (Nat.not_lt.mpr F.above)
    refine wpAny_leaving_firstW (base := hideAll s.heap (outer.filterMap (·.frame))) (outer := outer) (L := L') (a0 := .ref t2) rfl ⟨(by intro q; cases q), ⟨L', oL, rfl, hL0, kp4 _ _ hLe (hm.keeps _ _ hL), fun ws q => by rw [hLd] at q; cases q⟩, ff⟩ rfl he4 (fun b o q => k4 b o (of_hideAll _ q)) hen' rfl rfl rfl ?_
    intro h5 hLW
    obtain ⟨k1, ⟨_, _, k2⟩, k3, k5⟩ := hLW
    exact her h5 _ e _ hnot ⟨k1, hen', k2, k3⟩ ((Heap.UpToSlots.of_keeps k4).trans k5)
end

section
-- part Let
theorem stay_in {g h h9 : Heap} {L' : Addr} {m : Str → Option Value} {env : Env} {outer : List Env} (F : Fr g L' h m) (hf : env.frame = some L') (st : (hideAll h ((env :: outer).filterMap (·.frame))).StaysIn h9) :
    ∀ b x, b ∉ outer.filterMap (·.frame) → g.get? b = some x → h9.get? b = some x := fun b x hb q =>
  st b x (hideAll_get _ (F.keep b x q) (fun hm => by
    rw [List.filterMap_cons_some hf] at hm
    rcases List.mem_cons.mp hm with r | r
    · exact absurd (Heap.lt_size q) (Nat.not_lt.mpr (r ▸ F.above))
    · exact hb r))
theorem let_ends {w : World} {A : Around} {E : Value → Shared → Prop} {s : Shared} {mean : ExcName → Option Value} {mg mb : Str → Option Value} {h₀ b₀ : Heap} {Q : Value → Shared → Prop}
    {outer : List Env} {z : Str} {tz tk : Tok} {k : Int}
    (X : (hd.heap_39 w.params).In h₀) (T : Top hd.view_39 (looseW hd.view_39 []) mean mg mb h₀) (hk : ∀ b x, h₀.get? b = some x → s.heap.get? b = some x)
    (h₀f : ∀ b ∈ outer.filterMap (·.frame), h₀.get? b = none)
    (hroom : A.depth + 29 < recursionLimit) (hA : A.handled = none) (hfr : A.frames = some outer) (hFF : s.heap.FunFrames b₀ outer)
    (hk0 : 0 ≤ k) (hk1 : k ≤ 1001) (hz : z.length ≤ 100)
    (h : ∀ h' tk, (∀ b x, b ∉ outer.filterMap (·.frame) → s.heap.get? b = some x → h'.get? b = some x) → s.heap.UpToSlots h' → Q (.bool (decide ((bnd z).1 ≤ k ∧ k ≤ (bnd z).2))) { s with heap := h', toks := tk }) :
    wpAny (model PySem.Challenge.rw_xm0650_01.row.prog w) A (call (.ref 109) [.str z tz, .int k tk]) Q E s := by
  obtain ⟨hd0, dp, fr, gd, un⟩ := A
  obtain rfl : hd0 = none := hA
  obtain rfl : fr = some outer := hfr
  revert X; k_fill; intro X
  have hkl : k.natAbs < 2 ^ 24 := by omega
  refine' enter0 X T hk ?ho ?hcd (by dsimp only at hroom ⊢; omega) ?hb ?hl ?_ ?hco ?hgen ?hkd ?hcell
  case ho => k_is
  case hcd => k_is
  case hb => exact BindsTo.of_eq rfl
  case hl => exact locs rfl
  case hco => exact rfl
  case hgen => exact rfl
  case hkd => exact rfl
  case hcell => decide
  intro L' h₁ F N X' T'
  (try dsimp only)
  (try k_fold)
  k_steps
  rename Fr s.heap L' _ _ => F
  have hlen : (List.replicate k.toNat #[Value.str (Str.ofString "x") tk].toList).flatten.length = k.toNat := by simp
  have hin : ∀ env ∈ outer, ∀ b, env.frame = some b → b ∈ outer.filterMap (·.frame) := fun env he b hb => List.mem_filterMap.mpr ⟨env, he, hb⟩
  have ff := (funFrames_hide hFF hin).of_keeps (h' := _) fun b o q _ => ⟨o, F.keep b o q, rfl⟩
  obtain ⟨oL, es, ep, hL, hLd, _⟩ := F.ns
  have hL0 : (hideAll s.heap (outer.filterMap (·.frame))).get? L' = none := by
    cases q : (hideAll s.heap (outer.filterMap (·.frame))).get? L' with
    | none => rfl
    | some x => exact absurd (Heap.lt_size (of_hideAll _ q)) (Nat.not_lt.mpr F.above)
  refine check_ends (b₀ := hideAll s.heap (outer.filterMap (·.frame))) (outer := envOf _ _ L' 109 (.ref 108) :: outer) X' T' F.keep (by simp only [depth_deeper]; dsimp only at hroom ⊢; omega) rfl rfl ⟨(by intro q; cases q), ⟨L', oL, rfl, hL0, hL, fun ws q => by rw [hLd] at q; cases q⟩, ff⟩ (by assumption) (by rw [hlen]; omega) hz ?_ ?_
  · intro h3 tk3 kp3 l1 l2
    have F2 := F.after kp3
    clear F
    k_steps
    have e : decide ((bnd z).1 ≤ k ∧ k ≤ (bnd z).2) = true := by
      rw [hlen] at l1 l2
      exact decide_eq_true ⟨by omega, by omega⟩
    rename Fr s.heap L' _ _ => F
    exact Eq.mp (congrArg (fun b => Q (.bool b) _) e) (h _ _ (fun b x _ q => F.keep b x q) (Heap.UpToSlots.of_keeps F.keep))
  · intro h3 tk3 e a0 hnot hfl hup
    have nf : ∀ b x, h₀.get? b = some x → b ∉ outer.filterMap (·.frame) := fun b x q hm => by rw [h₀f b hm] at q; cases q
    have k0 : ∀ b x, h₀.get? b = some x → (hideAll s.heap (outer.filterMap (·.frame))).get? b = some x := fun b x q => hideAll_get _ (hk b x q) (nf b x q)
    have X0 : (hd.heap_39 w.params).In (hideAll s.heap (outer.filterMap (·.frame))) := fun a x q => k0 _ _ (X a x q)
    have T0 := topRead_of (T.keeps k0)
    refine wpAny_looks_onW (L := L') rfl rfl hfl fun h4 hh4 u4 => ?_
    refine wpAny_landsW hh4 fun h5 fl5 u5 => ?_
    have k5 := fun b x (q : (hideAll s.heap (outer.filterMap (·.frame))).get? b = some x) => stay_in F rfl fl5.1 b x (fun hm => by rw [hideAll_none _ hm] at q; cases q) (of_hideAll _ q)
    have F5 : Fr (hideAll s.heap (outer.filterMap (·.frame))) L' h5 _ := ⟨(hup.trans (u4.trans u5)).ns F.ns, k5, Nat.le_trans (Nat.le_of_eq (hideAll_size _ _)) F.above⟩
    refine wpAny_handleBy_cons (codeAny_handlers_test (name_K F5 X0 T0 (v := .ref 44) (by k_is) ?_ rfl rfl (by decide))) (by intro q; cases q)
    obtain ⟨ob, hob, hobc⟩ := fl5.there
    obtain ⟨nm, qn, NN, bs, hdct, sn, sub, ab, col, dd, c0, c1, c2, c3, c5, hC⟩ := isPf_of (K := hd.heap_39 w.params) (C := 44) (fun a x q => k5 _ _ (X0 a x q)) (by k_is)
    refine wpAny_excMatches_sub_self hC hob hobc (by decide +kernel) (codeAny_handlers_suite ?_)
    refine lands_againW fl5 fun h6 fl6 u6 => ?_
    refine wpAny_mono (E := fun _ _ => False) ?_ (fun _ _ x => x) (fun _ _ x => x.elim)
    k_steps
    have e9 : decide ((bnd z).1 ≤ k ∧ k ≤ (bnd z).2) = false := by
      rw [hlen] at hnot
      exact decide_eq_false (by omega)
    exact Eq.mp (congrArg (fun b => Q (.bool b) _) e9) (h _ _ (stay_in F rfl fl6.1) (((Heap.UpToSlots.of_keeps F.keep).trans hup).trans ((u4.trans u5).trans u6)))
end

section
-- part Pool
theorem pool_x (i : Int) (c : Bool) : 0 ≤ (if -1 - i > i then -1 - i else i) * (if c = true then 1 else 0) := by
  have h1 : 0 ≤ (if -1 - i > i then -1 - i else i) := by split <;> omega
  exact Int.mul_nonneg h1 (by split <;> omega)
theorem pool_ends {w : World} {A : Around} {E : Value → Shared → Prop} {s : Shared} {mean : ExcName → Option Value} {mg mb : Str → Option Value} {h₀ : Heap} {Q : Value → Shared → Prop}
    {sc : Addr} {vs : List Value} {ns : List Int}
    (X : (hd.heap_39 w.params).In h₀) (T : Top hd.view_39 (looseW hd.view_39 []) mean mg mb h₀) (hk : ∀ b x, h₀.get? b = some x → s.heap.get? b = some x)
    (hroom : A.depth + 9 < recursionLimit) (hA : A.handled = none) (hu : A.units + 100 < cLine)
    (hL : s.heap.IsList sc vs.toArray) (hI : IntsAre vs ns)
    (h : ∀ h' tk a x tx y ty, (∀ b x, s.heap.get? b = some x → h'.get? b = some x) → s.heap.get? a = none → h'.get? a = some (listOf [Value.int x tx, .int y ty].toArray 0) → 0 ≤ x → 0 ≤ y → y < 2147483648 → Q (.ref a) { s with heap := h', toks := tk }) :
    wpAny (model PySem.Challenge.rw_xm0650_01.row.prog w) A (call (.ref 81) [.ref sc]) Q E s := by
  obtain ⟨hd0, dp, fr, gd, un⟩ := A
  obtain rfl : hd0 = none := hA
  revert X; k_fill; intro X
  refine' enter0 X T hk ?ho ?hcd (by dsimp only at hroom ⊢; omega) ?hb ?hl ?_ ?hco ?hgen ?hkd ?hcell
  case ho => k_is
  case hcd => k_is
  case hb => exact BindsTo.of_eq rfl
  case hl => exact locs rfl
  case hco => exact rfl
  case hgen => exact rfl
  case hkd => exact rfl
  case hcell => decide
  intro L' h₁ F N X' T'
  (try dsimp only)
  (try k_fold)
  clear X T hk
  obtain ⟨os9, ho9, hc9, nn9, hd9⟩ := hL
  cases hI with
  | nil =>
    k_steps
    rename Fr s.heap L' _ _ => F
    rename News s.heap L' _ _ => N
    refine ne_intsK (vs := []) (us := []) (ns := []) (ms := []) ⟨os9, F.keep _ _ ho9, hc9, nn9, hd9⟩ .nil ⟨_, (N _ (.head _)).1, rfl, _, rfl⟩ .nil (by have hcL := cLine_is; simp only [units_deeper]; dsimp only at hu ⊢; omega) ?_
    k_steps
    rename Fr s.heap L' _ _ => F
    rename News s.heap L' _ _ => N
    exact h _ _ _ _ _ _ _ F.keep (N.fresh (.head _)) (N.get (.head _)) (pool_x _ _) (Int.fmod_nonneg_of_pos _ (by omega)) (Int.lt_trans (Int.fmod_lt_of_pos _ (by omega)) (by omega))
  | @cons i ti vs' ns' hI =>
    k_steps
    rename Fr s.heap L' _ _ => F
    rename News s.heap L' _ _ => N
    refine ne_intsK (vs := .int i ti :: vs') (us := []) (ns := i :: ns') (ms := []) ⟨os9, F.keep _ _ ho9, hc9, nn9, hd9⟩ (.cons i ti hI) ⟨_, (N _ (.head _)).1, rfl, _, rfl⟩ .nil (by have hcL := cLine_is; simp only [units_deeper]; dsimp only at hu ⊢; omega) ?_
    rw [show (!decide (i :: ns' = [])) = true from by simp]
    k_steps
    rename Fr s.heap L' _ _ => F
    have hl9 : Heap.IsList _ sc (Value.int i ti :: vs').toArray := ⟨os9, F.keep _ _ ho9, hc9, nn9, hd9⟩
    refine tail_any hl9.typeIs slot_list_getitem.lookup (wpAny_getItem_list hl9 (by decide) (by decide) (x := .int i ti) (by simp) ?_) (by with_unfolding_all rfl)
    k_steps
    rename Fr s.heap L' _ _ => F
    rename News s.heap L' _ _ => N
    exact h _ _ _ _ _ _ _ F.keep (N.fresh (.head _)) (N.get (.head _)) (pool_x _ _) (Int.fmod_nonneg_of_pos _ (by omega)) (Int.lt_trans (Int.fmod_lt_of_pos _ (by omega)) (by omega))
end

section
-- part Loop
/-- what a for over a list that stays as it is asks for: an invariant J I i s (I the iterator, i the turns done); no turn raises or leaves -/
def LoopOn (prog : Program) (w : World) (A : Around) (env : Env) (target : PySem.Expr) (body : List Stmt) (Q : Flow → Shared → Prop) (x : Value) (s₁ : Shared) : Prop :=
  ∃ (l : Addr) (vs : List Value) (J : Addr → Nat → Shared → Prop), x = .ref l ∧ s₁.heap.IsList l vs.toArray ∧
    (∀ h' I, s₁.heap.get? I = none → I = s₁.heap.objs.size → (∀ b x, s₁.heap.get? b = some x → h'.get? b = some x) → J I 0 { s₁ with heap := h' }) ∧
    (∀ I i s, J I i s → s.heap.IsList l vs.toArray) ∧
    (∀ I i s h', J I i s → (∀ b x, b ≠ I → s.heap.get? b = some x → h'.get? b = some x) → J I i { s with heap := h' }) ∧
    (∀ I i s v (Q' : Unit → Shared → Prop), vs[i]? = some v → s.heap.IsListIter I l (i + 1) → Q' () s → wpAny (model prog w) A (letOwnedTupleGo target (.ref I) v) Q' (fun _ _ => False) s) ∧
    (∀ I i s v, vs[i]? = some v → J I i s → s.heap.IsListIter I l (i + 1) → wpAny (model prog w) A (assign target env v) (fun _ s₂ => wpAny (model prog w) A (execs body env)
      (fun f s₃ => f = .next ∧ J I (i + 1) s₃ ∧ s₃.heap.IsListIter I l (i + 1)) (fun _ _ => False) s₂) (fun _ _ => False) s) ∧
    (∀ I s, J I vs.length s → Q .next s)
theorem loop_list {prog : Program} {w : World} {A : Around} {E : Value → Shared → Prop} {s : Shared} {env : Env} {target iter : PySem.Expr} {body : List Stmt} {pos : Pos} {Q : Flow → Shared → Prop}
    (hh : A.handled = none) (hiter : wpAny (model prog w) A (eval iter env) (LoopOn prog w A env target body Q) E s)
    (hs : ∀ x, foldedSetIterable iter env x = pure x := by intro _; rfl) :
    wpAny (model prog w) A (exec (.For target iter body [] pos) env) Q E s := by
  refine wpAny_For (wpAny_mono hiter (fun x s₁ h₁ => ?_) fun _ _ x => x) hs
  obtain ⟨l, vs, J, rfl, hl, h0, hlist, stab, hgo, turn, done⟩ := h₁
  refine wpAny_pyIter_list hl ?_
  refine codeAny_forLoop_any (fun n s' => ∃ i, i ≤ vs.length ∧ n = vs.length - i ∧ J s₁.heap.objs.size i s' ∧ s'.heap.IsListIter s₁.heap.objs.size l i) ?_ vs.length
    ⟨0, Nat.zero_le _, rfl, h0 _ _ (Heap.get?_none_of_le (Nat.le_refl _)) rfl (fun b x e => Heap.get?_push_of_some _ e), ⟨_, Heap.get?_push_size _ rfl, rfl, rfl⟩⟩
  rintro n s' ⟨i, hi, rfl, hJ, hit⟩
  by_cases hlt : i < vs.length
  · refine wpAny_pyNext_list_item hit (hlist _ _ _ hJ) (x := vs[i]) (by simp [hlt]) fun h' hit' hsb => ?_
    have hJ' := stab _ _ _ h' hJ (fun b x hb e => (hsb.2 b hb).trans e)
    dsimp only
    refine wpAny_mono (E := fun _ _ => False) (hgo _ i _ _ _ (List.getElem?_eq_getElem hlt) hit' ?_) (fun _ _ x => x) (fun _ _ x => x.elim)
    refine wpAny_mono (turn _ i _ _ (List.getElem?_eq_getElem hlt) hJ' hit') (fun _ s₂ h₂ => wpAny_mono h₂ (fun f s₃ h₃ => ?_) fun _ _ x => x.elim) (fun _ _ x => x.elim)
    obtain ⟨rfl, hJ₃, hit₃⟩ := h₃
    exact ⟨vs.length - (i + 1), by omega, i + 1, by omega, rfl, hJ₃, hit₃⟩
  · have e : i = vs.length := by omega
    subst e
    refine wpAny_pyNext_list_end hh hit (hlist _ _ _ hJ) (by simp) fun h' hx => ?_
    dsimp only
    refine wpAny_execs_nil ?_
    exact done _ _ (stab _ _ _ h' hJ (fun b x hb e => hx b x hb e))
end

section
-- part RowsL
abbrev Row := Str × Int × Int
abbrev tup3 (n : Str) (t : Tok) (lo : Int) (t1 : Tok) (hi : Int) (t2 : Tok) : Obj := { cls := .type "tuple", data := .seq [.str n t, .int lo t1, .int hi t2].toArray }
def RowIn (rs : List (Addr × Obj)) (v : Value) (r : Row) : Prop := ∃ a t t1 t2, v = .ref a ∧ (a, tup3 r.1 t r.2.1 t1 r.2.2 t2) ∈ rs
inductive RowsAre (rs : List (Addr × Obj)) : List Value → List Row → Prop
  | nil : RowsAre rs [] []
  | cons {v r vs rows} : RowIn rs v r → RowsAre rs vs rows → RowsAre rs (v :: vs) (r :: rows)
theorem RowsAre.mono {rs rs' : List (Addr × Obj)} (h : ∀ p ∈ rs, p ∈ rs') : ∀ {vs : List Value} {rows : List Row}, RowsAre rs vs rows → RowsAre rs' vs rows
  | _, _, .nil => .nil
  | _, _, .cons ⟨a, t, t1, t2, e, m⟩ R => .cons ⟨a, t, t1, t2, e, h _ m⟩ (R.mono h)
theorem RowsAre.app {rs : List (Addr × Obj)} : ∀ {vs us : List Value} {rows rows' : List Row}, RowsAre rs vs rows → RowsAre rs us rows' → RowsAre rs (vs ++ us) (rows ++ rows')
  | _, _, _, _, .nil, h => h
  | _, _, _, _, .cons a b, h => .cons a (b.app h)
theorem RowsAre.len {rs : List (Addr × Obj)} : ∀ {vs : List Value} {rows : List Row}, RowsAre rs vs rows → vs.length = rows.length
  | _, _, .nil => rfl
  | _, _, .cons _ b => by rw [List.length_cons, List.length_cons, b.len]
theorem Fr.congr {g h : Heap} {L : Addr} {m m' : Str → Option Value} (F : Fr g L h m) (e : ∀ y, m y = m' y) : Fr g L h m' := (funext e : m = m') ▸ F

abbrev rowScope : Scope := { kind := .function, names := [("found", .local), ("name", .local)], isGenerator := false, isCoroutine := false }
abbrev rowEnv (L' : Addr) : Env := envOf "_law_rows" rowScope L' 102 (.ref 101)
abbrev rowF (nv : Option Value) (fd : Addr) : Str → Option Value := fun y => if y = "name" then nv else if y = "found" then some (.ref fd) else none
theorem News.sub {g h : Heap} {L : Addr} {news news' : List (Addr × Obj)} (N : News g L h news) (hs : ∀ p ∈ news', p ∈ news) : News g L h news' := fun p hp => N p (hs p hp)
theorem strs_at {vs : List Value} {names : List Str} (h : StrsAre vs names) : ∀ {i : Nat} {v : Value}, vs[i]? = some v → ∃ n t, v = .str n t ∧ names[i]? = some n ∧ names.take (i + 1) = names.take i ++ [n] := by
  induction h with
  | nil => intro i v e; cases e
  | cons y t _ ih =>
    intro i v e
    cases i with
    | zero => cases e; exact ⟨_, _, rfl, rfl, rfl⟩
    | succ i =>
      obtain ⟨n, t', rfl, e1, e2⟩ := ih (i := i) (v := v) (by simpa using e)
      exact ⟨n, t', rfl, by simpa using e1, by rw [List.take_succ_cons, e2, List.take_succ_cons, List.cons_append]⟩
theorem strs_len {vs : List Value} {names : List Str} (h : StrsAre vs names) : vs.length = names.length := by
  induction h with
  | nil => rfl
  | cons _ _ _ ih => rw [List.length_cons, List.length_cons, ih]

theorem rows_on {prog : Program} {w : World} {A : Around} {env : Env} {s : Shared} {base : Heap} {L' fd l : Addr} {ep : Nat} {nv : Option Value} {vs lv : List Value} {rs : List (Addr × Obj)} {names : List Str} {rows0 : List Row} {lo hi : Int} {p1 : Pos} {body : List Stmt} {Q : Flow → Shared → Prop}
    (F : Fr base L' s.heap (rowF nv fd)) (N : News base L' s.heap ((l, listOf lv.toArray 0) :: (fd, listOf vs.toArray ep) :: rs)) (hrs : ∀ p ∈ rs, p.1 ≠ fd)
    (hS : StrsAre lv names) (hR : RowsAre rs vs rows0) (hlen : vs.length + names.length ≤ 100)
    (hturn : ∀ (s : Shared) nv vs ep rs I it n t (Q : Flow → Shared → Prop), Fr base L' s.heap (rowF nv fd) → News base L' s.heap ((I, it) :: (l, listOf lv.toArray 0) :: (fd, listOf vs.toArray ep) :: rs) → I ≠ fd → (∀ p ∈ rs, p.1 ≠ fd) → vs.length ≤ 100 →
      (∀ h' tk a t1 t2, Fr base L' h' (rowF (some (.str n t)) fd) → News base L' h' ((a, tup3 n t lo t1 hi t2) :: (I, it) :: (l, listOf lv.toArray 0) :: (fd, listOf (vs ++ [Value.ref a]).toArray (ep + 1)) :: rs) → a ≠ fd → a ≠ I → Q .next { s with heap := h', toks := tk }) →
      wpAny (model prog w) A (assign (.Name "name" p1) env (.str n t)) (fun _ s₂ => wpAny (model prog w) A (execs body env) Q (fun _ _ => False) s₂) (fun _ _ => False) s)
    (hdone : ∀ h' tk nv' vs' rs' ep', Fr base L' h' (rowF nv' fd) → News base L' h' ((fd, listOf vs'.toArray ep') :: rs') → (∀ p ∈ rs', p.1 ≠ fd) → RowsAre rs' vs' (rows0 ++ names.map fun n => (n, lo, hi)) → Q .next { s with heap := h', toks := tk }) :
    LoopOn prog w A env (.Name "name" p1) body Q (.ref l) s := by
  refine ⟨l, lv, fun I i s' => ∃ nv vs' ep' rs', Fr base L' s'.heap (rowF nv fd) ∧ News base L' s'.heap ((l, listOf lv.toArray 0) :: (fd, listOf vs'.toArray ep') :: rs') ∧ (∀ p ∈ rs', p.1 ≠ fd) ∧
    RowsAre rs' vs' (rows0 ++ (names.take i).map fun n => (n, lo, hi)) ∧ (∀ p ∈ ((l, listOf lv.toArray 0) :: (fd, listOf vs'.toArray ep') :: rs'), p.1 ≠ I) ∧ L' ≠ I ∧ base.get? I = none ∧ s' = { s with heap := s'.heap, toks := s'.toks }, rfl,
    ⟨_, (N _ (.head _)).1, rfl, _, rfl⟩, ?_, ?_, ?_, ?_, ?_, ?_⟩
  · intro h' I hI0 hI k
    refine ⟨nv, vs, ep, rs, F.after k, fun p hp => ⟨k _ _ (N p hp).1, (N p hp).2⟩, hrs, by simpa using hR, fun p hp e => ?_, fun e => ?_, ?_, rfl⟩
    · have := (N p hp).1
      rw [e, hI0] at this; cases this
    · obtain ⟨⟨oL, _, _, hL, _⟩, _, _⟩ := F
      rw [e, hI0] at hL; cases hL
    · cases q : base.get? I with
      | none => rfl
      | some x => have := F.keep _ _ q; rw [hI0] at this; cases this
  · rintro I i s' ⟨nv, vs', ep', rs', F', N', _⟩
    exact ⟨_, (N' _ (.head _)).1, rfl, _, rfl⟩
  · rintro I i s' h' ⟨nv, vs', ep', rs', F', N', r1, r2, r3, r4, r5, r6⟩ k
    refine ⟨nv, vs', ep', rs', ⟨F'.ns.at' (fun o e => k _ _ r4 e), fun b x e => k _ _ (fun q => by rw [q, r5] at e; cases e) (F'.keep b x e), F'.above⟩, fun p hp => ⟨k _ _ (r3 p hp) (N' p hp).1, (N' p hp).2⟩, r1, r2, r3, r4, r5, ?_⟩
    rw [r6]
  · intro I i s' v Q' _ _ hq
    exact wpAny_pure hq
  · rintro I i s' v hv ⟨nv, vs', ep', rs', F', N', r1, r2, r3, r4, r5, r6⟩ ⟨it, hit, hic, hid⟩
    obtain ⟨n, t, rfl, e1, e2⟩ := strs_at hS hv
    have hl' : vs'.length ≤ 100 := by
      rw [r2.len, List.length_append, List.length_map, List.length_take, ← hR.len]
      omega
    refine hturn s' nv vs' ep' rs' I it n t _ F' ?_ (fun e => r3 _ (.tail _ (.head _)) e.symm) r1 hl' ?_
    · intro p hp
      rcases List.mem_cons.mp hp with rfl | hp
      · exact ⟨hit, Ne.symm r4, r5⟩
      · exact N' p hp
    · intro h' tk a t1 t2 F2 N2 a1 a2
      refine ⟨rfl, ⟨some (.str n t), vs' ++ [.ref a], ep' + 1, (a, tup3 n t lo t1 hi t2) :: rs', F2, News.sub N2 ?_, ?_, ?_, ?_, r4, r5, ?_⟩, it, (N2 _ (.tail _ (.head _))).1, hic, hid⟩
      · intro p hp
        simp only [List.mem_cons] at hp
        rcases hp with rfl | rfl | rfl | hp
        · exact .tail _ (.tail _ (.head _))
        · exact .tail _ (.tail _ (.tail _ (.head _)))
        · exact .head _
        · exact .tail _ (.tail _ (.tail _ (.tail _ hp)))
      · intro p hp
        rcases List.mem_cons.mp hp with rfl | hp
        · exact a1
        · exact r1 p hp
      · rw [e2, List.map_append, ← List.append_assoc]
        exact (r2.mono fun p hp => .tail _ hp).app (.cons ⟨a, t, t1, t2, rfl, .head _⟩ .nil)
      · intro p hp
        simp only [List.mem_cons] at hp
        rcases hp with rfl | rfl | rfl | hp
        · exact r3 (l, _) (.head _)
        · exact r3 (fd, listOf vs'.toArray ep') (.tail _ (.head _))
        · exact a2
        · exact r3 p (.tail _ (.tail _ hp))
      · rw [r6]
  · rintro I s' ⟨nv, vs', ep', rs', F', N', r1, r2, r3, r4, r5, r6⟩
    rw [strs_len hS, List.take_length] at r2
    have := hdone s'.heap s'.toks nv vs' rs' ep' F' (News.sub N' fun p hp => .tail _ hp) r1 r2
    rw [r6]; exact this
end

section
-- part Rows
def Stuck (P : Prop) : Prop := P
theorem Stuck.mk {P : Prop} (h : Stuck P) : P := h

def allRows : List Row := ([("last", 0, 0), ("position", 0, 0), ("true", 0, 0), ("false", 0, 0), ("translate", 3, 3), ("substring", 2, 3)] : List Row) ++
  List.map (fun n : Str => ((n, 1, 1) : Row)) ["count", "id", "sum", "lang", "boolean", "not", "floor", "ceiling", "round"] ++
  List.map (fun n : Str => ((n, 0, 1) : Row)) ["local-name", "namespace-uri", "name", "string", "number", "string-length", "normalize-space"] ++
  List.map (fun n : Str => ((n, 2, 2) : Row)) ["starts-with", "contains", "substring-before", "substring-after"] ++ ([("concat", 2, 1000)] : List Row)
local macro_rules | `(tactic| walk_at "exec For Name List cons nil") => `(tactic| (k_here; refine Stuck.mk ?_))
theorem rows_ends {w : World} {A : Around} {E : Value → Shared → Prop} {s : Shared} {mean : ExcName → Option Value} {mg mb : Str → Option Value} {h₀ : Heap} {Q : Value → Shared → Prop}
    (X : (hd.heap_39 w.params).In h₀) (T : Top hd.view_39 (looseW hd.view_39 []) mean mg mb h₀) (hk : ∀ b x, h₀.get? b = some x → s.heap.get? b = some x)
    (hroom : A.depth + 9 < recursionLimit) (hA : A.handled = none)
    (h : ∀ h' tk a vs rs, (∀ b x, s.heap.get? b = some x → h'.get? b = some x) → s.heap.get? a = none → h'.get? a = some (listOf vs.toArray 0) → (∀ p ∈ rs, h'.get? p.1 = some p.2 ∧ s.heap.get? p.1 = none ∧ p.1 ≠ a) → RowsAre rs vs allRows → Q (.ref a) { s with heap := h', toks := tk }) :
    wpAny (model PySem.Challenge.rw_xm0650_01.row.prog w) A (call (.ref 102) []) Q E s := by
  obtain ⟨hd0, dp, fr, gd, un⟩ := A
  obtain rfl : hd0 = none := hA
  revert X; k_fill; intro X
  refine' enter0 X T hk ?ho ?hcd (by dsimp only at hroom ⊢; omega) ?hb ?hl ?_ ?hco ?hgen ?hkd ?hcell
  case ho => k_is
  case hcd => k_is
  case hb => exact BindsTo.of_eq rfl
  case hl => exact locs rfl
  case hco => exact rfl
  case hgen => exact rfl
  case hkd => exact rfl
  case hcell => decide
  intro L' h₁ F N X' T'
  (try dsimp only)
  (try k_fold)
  clear X T hk
  k_steps
  unfold Stuck
  refine loop_list rfl ?_
  k_steps
  rename Fr s.heap L' _ _ => F
  rename News s.heap L' _ _ => N
  have F9 := Fr.congr F (m' := rowF none _) (fun y => by
    by_cases h2 : y = "found"
    · subst h2; rfl
    · simp only [if_neg h2]
      show none = _
      simp [rowF, h2])
  refine rows_on (rows0 := [("last", 0, 0), ("position", 0, 0), ("true", 0, 0), ("false", 0, 0), ("translate", 3, 3), ("substring", 2, 3)]) (lo := 1) (hi := 1) F9 N (by k_all) (by repeat' constructor) (.cons ⟨_, _, _, _, rfl, by k_mem⟩ (.cons ⟨_, _, _, _, rfl, by k_mem⟩ (.cons ⟨_, _, _, _, rfl, by k_mem⟩ (.cons ⟨_, _, _, _, rfl, by k_mem⟩ (.cons ⟨_, _, _, _, rfl, by k_mem⟩ (.cons ⟨_, _, _, _, rfl, by k_mem⟩ .nil)))))) (by simp) ?_ ?_
  · clear F N F9
    intro s2 nv vs ep rs I it n t Q2 F N h1 hrs hl hQ
    k_steps
    rename Fr s.heap L' _ _ => F
    rename News s.heap L' _ _ => N
    refine append_K F N (Upd.tail (by k_ne) (Upd.tail (by k_ne) (Upd.tail (by k_ne) (Upd.head hrs)))) ?_ (by rw [sizeLine_eq, List.size_toArray]; omega)
    clear F N
    intro h3 F N
    rw [List.push_toArray] at N
    k_steps
    exact hQ _ _ _ _ _ (Fr.congr F fun y => by by_cases q : y = "name" <;> simp [rowF, q]) N (by k_ne) (by k_ne)
  clear F N F9
  intro h2 tk2 nv2 vs2 rs2 ep2 F N hrs hR
  k_steps
  unfold Stuck
  refine loop_list rfl ?_
  k_steps
  rename Fr s.heap L' _ _ => F
  rename News s.heap L' _ _ => N
  have hl2 := hR.len
  simp only [List.length_append, List.length_map, List.length_cons, List.length_nil] at hl2
  refine rows_on (lo := 0) (hi := 1) F N hrs (by repeat' constructor) hR (by simp; omega) ?_ ?_
  · clear F N hrs hR
    intro s2 nv vs ep rs I it n t Q2 F N h1 hrs hl hQ
    k_steps
    rename Fr s.heap L' _ _ => F
    rename News s.heap L' _ _ => N
    refine append_K F N (Upd.tail (by k_ne) (Upd.tail (by k_ne) (Upd.tail (by k_ne) (Upd.head hrs)))) ?_ (by rw [sizeLine_eq, List.size_toArray]; omega)
    clear F N
    intro h3 F N
    rw [List.push_toArray] at N
    k_steps
    exact hQ _ _ _ _ _ (Fr.congr F fun y => by by_cases q : y = "name" <;> simp [rowF, q]) N (by k_ne) (by k_ne)
  clear F N hrs hR
  intro h3 tk3 nv3 vs3 rs3 ep3 F N hrs hR
  k_steps
  unfold Stuck
  refine loop_list rfl ?_
  k_steps
  rename Fr s.heap L' _ _ => F
  rename News s.heap L' _ _ => N
  have hl3 := hR.len
  simp only [List.length_append, List.length_map, List.length_cons, List.length_nil] at hl3
  refine rows_on (lo := 2) (hi := 2) F N hrs (by repeat' constructor) hR (by simp; omega) ?_ ?_
  · clear F N hrs hR
    intro s2 nv vs ep rs I it n t Q2 F N h1 hrs hl hQ
    k_steps
    rename Fr s.heap L' _ _ => F
    rename News s.heap L' _ _ => N
    refine append_K F N (Upd.tail (by k_ne) (Upd.tail (by k_ne) (Upd.tail (by k_ne) (Upd.head hrs)))) ?_ (by rw [sizeLine_eq, List.size_toArray]; omega)
    clear F N
    intro h3 F N
    rw [List.push_toArray] at N
    k_steps
    exact hQ _ _ _ _ _ (Fr.congr F fun y => by by_cases q : y = "name" <;> simp [rowF, q]) N (by k_ne) (by k_ne)
  clear F N hrs hR
  intro h4 tk4 nv4 vs4 rs4 ep4 F N hrs hR
  k_steps
  have hl4 := hR.len
  simp only [List.length_append, List.length_map, List.length_cons, List.length_nil] at hl4
  rename Fr s.heap L' _ _ => F
  rename News s.heap L' _ _ => N
  refine add_lists F N (vs := vs4) (ws := [.ref _]) ⟨_, (N _ (.tail _ (.tail _ (.head _)))).1, rfl, _, rfl⟩ ⟨_, (N _ (.head _)).1, rfl, _, rfl⟩ ?_ (by rw [sizeLine_eq]; simp; omega)
  intro h5 F5 N5
  refine h h5 _ _ _ _ F5.keep (N5 _ (.head _)).2.2 (N5 _ (.head _)).1 (fun p hp => ⟨(N5 p (.tail _ hp)).1, (N5 p (.tail _ hp)).2.2, Nat.ne_of_lt (Heap.lt_size (N p hp).1)⟩) ?_
  exact (hR.mono fun p hp => .tail _ (.tail _ (.tail _ hp))).app (.cons (r := ("concat", 2, 1000)) ⟨_, _, _, _, rfl, .tail _ (.head _)⟩ .nil)
end

section
-- part LawL
abbrev lawF (nm lo hi : Option Value) (rl sc : Addr) : Str → Option Value := fun y => if y = "most" then hi else if y = "least" then lo else if y = "name" then nm else if y = "rows" then some (.ref rl) else if y = "script" then some (.ref sc) else none

theorem rows_at {rs : List (Addr × Obj)} : ∀ {vs : List Value} {rows : List Row}, RowsAre rs vs rows → ∀ {i : Nat} {v : Value}, vs[i]? = some v → ∃ r, r ∈ rows ∧ RowIn rs v r
  | _, _, .nil, i, v, e => by cases e
  | _, _, .cons a b, 0, v, e => by cases e; exact ⟨_, .head _, a⟩
  | _, _, .cons a b, i + 1, v, e => by
    obtain ⟨r, h1, h2⟩ := rows_at b (i := i) (v := v) (by simpa using e)
    exact ⟨r, .tail _ h1, h2⟩
theorem iter_off {base h : Heap} {L I : Addr} {m : Str → Option Value} {news : List (Addr × Obj)} (F : Fr base L h m) (N : News base L h news) (hI : h.get? I = none) : (∀ p ∈ news, p.1 ≠ I) ∧ L ≠ I ∧ base.get? I = none := by
  refine ⟨fun p hp e => ?_, fun e => ?_, ?_⟩
  · have := (N p hp).1
    rw [e, hI] at this; cases this
  · obtain ⟨⟨oL, _, _, hL, _⟩, _, _⟩ := F
    rw [e, hI] at hL; cases hL
  · cases q : base.get? I with
    | none => rfl
    | some x => have := F.keep _ _ q; rw [hI] at this; cases this
theorem iter_keep {base h h' : Heap} {L I : Addr} {m : Str → Option Value} {news : List (Addr × Obj)} (F : Fr base L h m) (N : News base L h news) (r3 : ∀ p ∈ news, p.1 ≠ I) (r4 : L ≠ I) (r5 : base.get? I = none)
    (k : ∀ b x, b ≠ I → h.get? b = some x → h'.get? b = some x) : Fr base L h' m ∧ News base L h' news :=
  ⟨⟨F.ns.at' (fun o e => k _ _ r4 e), fun b x e => k _ _ (fun q => by rw [q, r5] at e; cases e) (F.keep b x e), F.above⟩, fun p hp => ⟨k _ _ (r3 p hp) (N p hp).1, (N p hp).2⟩⟩
def RowOk (r : Row) : Prop := coreB r.1 = true ∧ bnd r.1 = r.2 ∧ 0 ≤ r.2.1 ∧ r.2.1 ≤ r.2.2 ∧ r.2.2 ≤ 1000 ∧ 1 ≤ r.1.length ∧ r.1.length ≤ 20

theorem News.after {g h h' : Heap} {L : Addr} {news : List (Addr × Obj)} (N : News g L h news) (k : ∀ b o, h.get? b = some o → h'.get? b = some o) : News g L h' news := fun p hp => ⟨k _ _ (N p hp).1, (N p hp).2⟩
theorem rows_ok : ∀ r ∈ allRows, RowOk r := by
  have h : ∀ r ∈ allRows, (coreB r.1 = true ∧ bnd r.1 = r.2 ∧ 0 ≤ r.2.1 ∧ r.2.1 ≤ r.2.2 ∧ r.2.2 ≤ 1000 ∧ 1 ≤ r.1.length ∧ r.1.length ≤ 20) := by decide +kernel
  exact h

theorem law_on1 {prog : Program} {w : World} {A : Around} {env : Env} {s : Shared} {base : Heap} {L rl sc : Addr} {vr : List Value} {rs : List (Addr × Obj)} {rows : List Row} {elts : List PySem.Expr} {x1 : Nat} {p1 : Pos} {body : List Stmt} {Q : Flow → Shared → Prop} {nm lo hi : Option Value}
    (F : Fr base L s.heap (lawF nm lo hi rl sc)) (N : News base L s.heap ((rl, listOf vr.toArray 0) :: rs)) (hR : RowsAre rs vr rows) (hok : ∀ r ∈ rows, RowOk r)
    (hturn : ∀ (s : Shared) nm lo' hi' I it a n t lo t1 hi t2 (Q : Flow → Shared → Prop), Fr base L s.heap (lawF nm lo' hi' rl sc) → News base L s.heap ((a, tup3 n t lo t1 hi t2) :: (I, it) :: (rl, listOf vr.toArray 0) :: rs) → RowOk (n, lo, hi) →
      (∀ h' tk nm lo' hi', Fr base L h' (lawF nm lo' hi' rl sc) → News base L h' ((a, tup3 n t lo t1 hi t2) :: (I, it) :: (rl, listOf vr.toArray 0) :: rs) → Q .next { s with heap := h', toks := tk }) →
      wpAny (model prog w) A (assign (.Tuple elts x1 p1) env (.ref a)) (fun _ s₂ => wpAny (model prog w) A (execs body env) Q (fun _ _ => False) s₂) (fun _ _ => False) s)
    (hdone : ∀ h' tk nm lo hi, Fr base L h' (lawF nm lo hi rl sc) → News base L h' ((rl, listOf vr.toArray 0) :: rs) → Q .next { s with heap := h', toks := tk }) :
    LoopOn prog w A env (.Tuple elts x1 p1) body Q (.ref rl) s := by
  refine ⟨rl, vr, fun I i s' => ∃ nm lo hi, Fr base L s'.heap (lawF nm lo hi rl sc) ∧ News base L s'.heap ((rl, listOf vr.toArray 0) :: rs) ∧
    (∀ p ∈ ((rl, listOf vr.toArray 0) :: rs), p.1 ≠ I) ∧ L ≠ I ∧ base.get? I = none ∧ s' = { s with heap := s'.heap, toks := s'.toks }, rfl,
    ⟨_, (N _ (.head _)).1, rfl, _, rfl⟩, ?_, ?_, ?_, ?_, ?_, ?_⟩
  · intro h' I hI0 hI k
    obtain ⟨r3, r4, r5⟩ := iter_off F N hI0
    exact ⟨nm, lo, hi, F.after k, fun p hp => ⟨k _ _ (N p hp).1, (N p hp).2⟩, r3, r4, r5, rfl⟩
  · rintro I i s' ⟨nm, lo, hi, F', N', _⟩
    exact ⟨_, (N' _ (.head _)).1, rfl, _, rfl⟩
  · rintro I i s' h' ⟨nm, lo, hi, F', N', r3, r4, r5, r6⟩ k
    obtain ⟨F2, N2⟩ := iter_keep F' N' r3 r4 r5 k
    refine ⟨nm, lo, hi, F2, N2, r3, r4, r5, ?_⟩
    rw [r6]
  · intro I i s' v Q' hv hit hq
    obtain ⟨_, _, a, t, t1, t2, rfl, _⟩ := rows_at hR hv
    exact wpAny_letOwnedTupleGo_listiter hit hq
  · rintro I i s' v hv ⟨nm, lo, hi, F', N', r3, r4, r5, r6⟩ ⟨it, hit, hic, hid⟩
    obtain ⟨⟨n, b1, b2⟩, hr, a, t, t1, t2, rfl, hm⟩ := rows_at hR hv
    refine hturn s' nm lo hi I it a n t b1 t1 b2 t2 _ F' ?_ (hok _ hr) ?_
    · intro p hp
      rcases List.mem_cons.mp hp with rfl | hp
      · exact N' _ (.tail _ hm)
      · rcases List.mem_cons.mp hp with rfl | hp
        · exact ⟨hit, Ne.symm r4, r5⟩
        · exact N' p hp
    · intro h' tk nm2 lo2 hi2 F2 N2
      refine ⟨rfl, ⟨nm2, lo2, hi2, F2, News.sub N2 fun p hp => .tail _ (.tail _ hp), r3, r4, r5, ?_⟩, it, (N2 _ (.tail _ (.head _))).1, hic, hid⟩
      rw [r6]
  · rintro I s' ⟨nm, lo, hi, F', N', r3, r4, r5, r6⟩
    have := hdone s'.heap s'.toks nm lo hi F' N'
    rw [r6]; exact this
end

section
-- part Pair
theorem add_new {g h h' : Heap} {L a : Addr} {o : Obj} {m : Str → Option Value} {news : List (Addr × Obj)} (F : Fr g L h m) (N : News g L h' news) (h0 : h.get? a = none) (h1 : h'.get? a = some o) : News g L h' ((a, o) :: news) := fun p hp => by
  rcases List.mem_cons.mp hp with rfl | hp
  · refine ⟨h1, fun e => ?_, ?_⟩
    · obtain ⟨⟨oL, _, _, hL, _⟩, _, _⟩ := F
      dsimp only at e
      rw [← e, h0] at hL; cases hL
    · cases q : g.get? a with
      | none => rfl
      | some x => have := F.keep _ _ q; rw [h0] at this; cases this
  · exact N p hp
theorem law_congr (A B C nm lo hi : Option Value) (rl sc : Addr) (y : Str) : (if y = "most" then A else if y = "least" then B else if y = "name" then C else lawF nm lo hi rl sc y) = lawF C B A rl sc y := by
  by_cases q1 : y = "most"
  · simp only [lawF, if_pos q1]
  · by_cases q2 : y = "least"
    · simp only [lawF, if_neg q1, if_pos q2]
    · by_cases q3 : y = "name"
      · simp only [lawF, if_neg q1, if_neg q2, if_pos q3]
      · simp only [lawF, if_neg q1, if_neg q2, if_neg q3]
theorem let_step {w : World} {E : Value → Shared → Prop} {s : Shared} {mean : ExcName → Option Value} {mg mb : Str → Option Value} {g : Heap} {L f : Addr} {m : Str → Option Value} {news : List (Addr × Obj)} {ename : Str} {nms : List (Str × NameKind)} {mr : List (Str × Const)} {cd : Value} {Q : Value → Shared → Prop}
    {z : Str} {tz tk : Tok} {k b1 b2 : Int} (r : Bool)
    (X : (hd.heap_39 w.params).In g) (T : Top hd.view_39 (looseW hd.view_39 []) mean mg mb g) (F : Fr g L s.heap m) (N : News g L s.heap news)
    (hb : bnd z = (b1, b2)) (hk0 : 0 ≤ k) (hk1 : k ≤ 1001) (hz : z.length ≤ 100) (hr : decide (b1 ≤ k ∧ k ≤ b2) = r)
    (h : ∀ h' tk, Fr g L h' m → News g L h' news → Q (.bool r) { s with heap := h', toks := tk }) :
    wpAny (model PySem.Challenge.rw_xm0650_01.row.prog w) (callerA.deeper (envOf ename { kind := .function, names := nms, isGenerator := false, isCoroutine := false, more := mr } L f cd)) (call (.ref 109) [.str z tz, .int k tk]) Q E s := by
  obtain ⟨oL, es, ep, hL, hLd, _⟩ := F.ns
  have g0 : g.get? L = none := by
    cases q : g.get? L with
    | none => rfl
    | some x => exact absurd (Heap.lt_size q) (Nat.not_lt.mpr F.above)
  refine let_ends (outer := [envOf ename { kind := .function, names := nms, isGenerator := false, isCoroutine := false, more := mr } L f cd]) (b₀ := g) X T F.keep ?_ (by k_room) rfl rfl ⟨(by intro q; cases q), ⟨L, oL, rfl, g0, hL, fun ws q => by rw [hLd] at q; cases q⟩, trivial⟩ hk0 hk1 hz ?_
  · intro b hb'
    obtain rfl : b = L := List.mem_singleton.mp hb'
    exact g0
  · intro h' tk' kp up
    have kp' : ∀ b x, b ≠ L → s.heap.get? b = some x → h'.get? b = some x := fun b x hb e => kp b x (fun hm => hb (List.mem_singleton.mp hm)) e
    rw [show decide ((bnd z).1 ≤ k ∧ k ≤ (bnd z).2) = r from by rw [hb]; exact hr]
    exact h h' tk' ⟨up.ns F.ns, fun b x e => kp' b x (fun q => by rw [q, g0] at e; cases e) (F.keep b x e), F.above⟩ (fun p hp => ⟨kp' _ _ (N p hp).2.1 (N p hp).1, (N p hp).2⟩)
end

section
-- part Names
def NameOf (h : Heap) (v y : Value) : Prop := ∃ a n t lo t1 hi t2, v = .ref a ∧ h.get? a = some (tup3 n t lo t1 hi t2) ∧ y = .str n t
theorem strs_of {h : Heap} {rs : List (Addr × Obj)} (hrs : ∀ p ∈ rs, h.get? p.1 = some p.2) : ∀ {vs : List Value} {rows : List Row} {ys : List Value}, RowsAre rs vs rows → Paired (NameOf h) vs ys → StrsAre ys (rows.map (·.1))
  | _, _, _, .nil, .nil => .nil
  | _, _, _, .cons ⟨a, t, t1, t2, e, m⟩ R, .cons ⟨a', n, t', lo, t1', hi, t2', e', m', ey⟩ P => by
    subst e ey
    have ea : a = a' := by injection e'
    subst ea
    have q := hrs _ m
    dsimp only at q
    rw [m'] at q
    have z := congrArg Obj.data (Option.some.inj q)
    simp only [tup3, Data.seq.injEq] at z
    have z2 := congrArg Array.toList z.1
    simp only [List.cons.injEq, Value.str.injEq] at z2
    rw [List.map_cons, ← z2.1.1]
    exact .cons _ _ (strs_of hrs R P)

theorem comp_names {prog : Program} {w : World} {A : Around} {E : Value → Shared → Prop} {s : Shared} {env : Env} {rl : Addr} {vr : List Value} {rs : List (Addr × Obj)} {rows : List Row} {iter : PySem.Expr} {p1 p2 p3 px pos : Pos} {Q : Value → Shared → Prop}
    (hh : A.handled = none) (hl : s.heap.get? rl = some (listOf vr.toArray 0)) (hlen : vr.length ≤ 1000) (hrs : ∀ p ∈ rs, s.heap.get? p.1 = some p.2) (hR : RowsAre rs vr rows)
    (hiter : ∀ Q' : Value → Shared → Prop, Q' (.ref rl) s → wpAny (model prog w) A (eval iter env) Q' E s) {kk : Nat}
    (h : ∀ D h' tk (ys : List Value) nD, s.heap.get? D = none → h'.get? D = some (listOf ys.toArray nD) → StrsAre ys (rows.map (·.1)) → (∀ b o, s.heap.get? b = some o → h'.get? b = some o) → Q (.ref D) { s with heap := h', toks := tk })
    (hs : ∀ x, foldedSetIterable iter env x = pure x := by intro _; rfl) :
    wpAny (model prog w) A (eval (.ListComp (.Subscript (.Name "row" p1) (.Constant (.int 0) kk p2) p3) [⟨.Name "row" px, iter, [], 0⟩] { kind := .function, names := [(".0", .local), ("row", .local)], isGenerator := false, isCoroutine := false } pos) env) Q E s := by
  have hlt : rl < s.heap.objs.size := Heap.lt_size hl
  have old : ∀ (h' : Heap), (∀ b o', b ∉ [s.heap.objs.size] → (s.heap.push { cls := .type "list_iterator", data := .fields #[.ref rl, .int 0 0] }).get? b = some o' → h'.get? b = some o') → ∀ b o', s.heap.get? b = some o' → h'.get? b = some o' :=
    fun h' hk b o' e => hk b o' (fun hb => absurd (Heap.lt_size e) ((List.mem_singleton.mp hb) ▸ Nat.lt_irrefl _)) (Heap.get?_push_of_some _ e)
  refine ListComp_rowsP (by decide) (by decide) rfl (by decide) (by decide) (hiter _ (wpAny_pyIter_list ⟨_, hl, rfl, _, rfl⟩ ?_)) hs
  refine ⟨fun _ => true, NameOf s.heap, s.heap.objs.size, [s.heap.objs.size, rl], [s.heap.objs.size], vr.toArray.size, _, _, rfl, Walks.list hh _ rl (Nat.ne_of_lt hlt) vr.toArray, by rw [sizeLine_eq, List.size_toArray]; omega,
    ⟨⟨_, Heap.get?_push_size _ rfl, rfl, rfl⟩, ⟨_, Heap.get?_push_of_some _ hl, rfl, _, rfl⟩⟩, ?_, ⟨?_, ?_⟩, ?_⟩
  · intro b hb
    show b < (s.heap.push _).objs.size
    rw [Heap.size_push]
    rcases List.mem_cons.mp hb with rfl | hb
    · exact Nat.lt_succ_self _
    · rw [List.mem_singleton.mp hb]; exact Nat.lt_succ_of_lt hlt
  · intro C i v s₂ m₂ E' _ _ _ _ _
    exact wpAny_pure ⟨rfl, s₂.heap, s₂.toks, rfl, fun _ _ e => e⟩
  · intro C i v s₂ m₂ E' hP _ hn hm hk _
    have hi : vr[i]? = some v := by simpa using hP
    obtain ⟨⟨n, lo, hi'⟩, _, a, t, t1, t2, rfl, hmem⟩ := rows_at hR hi
    have ha := hrs _ hmem
    refine Subscript_ (wpAny_Name (wpAny_loadName_local rfl (by rfl) hn hm ?_))
    refine wpAny_Constant_int ?_
    have ha2 := old _ hk _ _ ha
    exact item_tupleT (l := [.str n t, .int lo t1, .int hi' t2]) (j := 0) (x := .str n t) ⟨_, ha2, rfl, _, rfl⟩ (by decide) (by decide) (show seqIndex? 0 3 = some 0 from by decide) rfl ⟨⟨a, n, t, lo, t1, hi', t2, rfl, ha, rfl⟩, _, _, rfl, fun _ _ e => e⟩ (by with_unfolding_all rfl)
  · intro D h' tk ys vs' hnew hlD hplD hl9 hP hF hk
    have e' : vs' = vr := by simpa using walked_is hl9 hP
    subst e'
    rw [List.filter_eq_self.mpr (fun _ _ => rfl)] at hF
    obtain ⟨nD, hD⟩ := hplD
    refine h D h' tk ys.toList nD ?_ (by rw [Array.toArray_toList]; exact hD) (strs_of hrs hR hF) (old h' hk)
    cases e : s.heap.get? D with
    | none => rfl
    | some o' => rw [Heap.get?_push_of_some _ e] at hnew; cases hnew
end

section
-- part LoopR
/-- what a for over range(b) asks for: an invariant J I i s (I the iterator, i the turns done); no turn raises or leaves -/
def RangeOn (prog : Program) (w : World) (A : Around) (env : Env) (x : Str) (px : Pos) (body : List Stmt) (Q : Flow → Shared → Prop) (xv : Value) (s₁ : Shared) : Prop :=
  ∃ (r : Addr) (b : Nat) (t u v : Tok) (J : Addr → Nat → Shared → Prop), xv = .ref r ∧ IsRange s₁.heap r 0 b 1 t u v ∧ Builtin.Range.small 0 b 1 = true ∧ Builtin.Range.rangeSize 0 b 1 = b ∧
    (∀ h' I, s₁.heap.get? I = none → (∀ b x, s₁.heap.get? b = some x → h'.get? b = some x) → J I 0 { s₁ with heap := h' }) ∧
    (∀ I i s h' tk, J I i s → (∀ b x, b ≠ I → s.heap.get? b = some x → h'.get? b = some x) → J I i { s with heap := h', toks := tk }) ∧
    (∀ I (i : Nat) s tt, i < b → J I i s → IsRangeIter s.heap I ((i + 1 : Nat) : Int) ((b : Int) - ((i + 1 : Nat) : Int)) 1 → wpAny (model prog w) A (assign (.Name x px) env (.int i tt)) (fun _ s₂ => wpAny (model prog w) A (execs body env)
      (fun f s₃ => f = .next ∧ J I (i + 1) s₃ ∧ IsRangeIter s₃.heap I ((i + 1 : Nat) : Int) ((b : Int) - ((i + 1 : Nat) : Int)) 1) (fun _ _ => False) s₂) (fun _ _ => False) s) ∧
    (∀ I s, J I b s → Q .next s)
theorem loop_range {prog : Program} {w : World} {A : Around} {E : Value → Shared → Prop} {s : Shared} {env : Env} {x : Str} {px : Pos} {iter : PySem.Expr} {body : List Stmt} {pos : Pos} {Q : Flow → Shared → Prop}
    (hh : A.handled = none) (hiter : wpAny (model prog w) A (eval iter env) (RangeOn prog w A env x px body Q) E s)
    (hs : ∀ x, foldedSetIterable iter env x = pure x := by intro _; rfl) :
    wpAny (model prog w) A (exec (.For (.Name x px) iter body [] pos) env) Q E s := by
  refine wpAny_For (wpAny_mono hiter (fun xv s₁ h₁ => ?_) fun _ _ x => x) hs
  obtain ⟨r, b, t, u, v, J, rfl, hr, hsm, hsz, h0, stab, turn, done⟩ := h₁
  refine wpAny_pyIter_range hr hsm ?_
  refine codeAny_forLoop_any (fun n s' => ∃ i : Nat, i ≤ b ∧ n = b - i ∧ J s₁.heap.objs.size i s' ∧ IsRangeIter s'.heap s₁.heap.objs.size (i : Int) ((b : Int) - (i : Int)) 1) ?_ b
    ⟨0, Nat.zero_le _, rfl, h0 _ _ (Heap.get?_none_of_le (Nat.le_refl _)) (fun b x e => Heap.get?_push_of_some _ e), by rw [hsz]; simpa using Heap.get?_push_size _ rfl⟩
  rintro n s' ⟨i, hi, rfl, hJ, hit⟩
  by_cases hlt : i < b
  · refine wpAny_pyNext_range_item hit (by omega) fun h' hit' hsb => ?_
    have hJ' := stab _ _ _ h' (s'.toks + 1) hJ (fun b x hb e => (hsb.2 b hb).trans e)
    have hit2 : IsRangeIter h' s₁.heap.objs.size ((i + 1 : Nat) : Int) ((b : Int) - ((i + 1 : Nat) : Int)) 1 := by
      rw [show ((i + 1 : Nat) : Int) = (i : Int) + 1 from by omega, show (b : Int) - ((i : Int) + 1) = (b : Int) - (i : Int) - 1 from by omega]
      exact hit'
    dsimp only
    refine wpAny_pure ?_
    refine wpAny_mono (turn _ i _ _ hlt hJ' hit2) (fun _ s₂ h₂ => wpAny_mono h₂ (fun f s₃ h₃ => ?_) fun _ _ x => x.elim) (fun _ _ x => x.elim)
    obtain ⟨rfl, hJ₃, hit₃⟩ := h₃
    exact ⟨b - (i + 1), by omega, i + 1, by omega, rfl, hJ₃, hit₃⟩
  · have e : i = b := by omega
    subst e
    refine wpAny_pyNext_range_end hh hit (by omega) fun h' hx => ?_
    dsimp only
    refine wpAny_execs_nil ?_
    exact done _ _ (stab _ _ _ h' s'.toks hJ (fun b x hb e => hx b x hb e))
end

section
-- part Turns
abbrev lawG (tu nm : Option Value) (src D : Addr) (m0 : Str → Option Value) : Str → Option Value := fun y => if y = "turn" then tu else if y = "name" then nm else if y = "source" then some (.ref src) else if y = "names" then some (.ref D) else m0 y
theorem lawG_congr (C : Option Value) (tu nm : Option Value) (src D : Addr) (m0 : Str → Option Value) (y : Str) : (if y = "name" then C else lawG tu nm src D m0 y) = lawG tu C src D m0 y := by
  by_cases q1 : y = "turn"
  · subst q1; rfl
  · by_cases q2 : y = "name"
    · simp only [lawG, if_neg q1, if_pos q2]
    · simp only [lawG, if_neg q1, if_neg q2]
theorem lawG_congr2 (B C : Option Value) (tu nm : Option Value) (src D : Addr) (m0 : Str → Option Value) (y : Str) : (if y = "name" then C else if y = "turn" then B else lawG tu nm src D m0 y) = lawG B C src D m0 y := by
  by_cases q1 : y = "turn"
  · subst q1; rfl
  · by_cases q2 : y = "name"
    · simp only [lawG, if_neg q1, if_pos q2]
    · simp only [lawG, if_neg q1, if_neg q2]
theorem lawG_start (nm lo hi : Option Value) (rl sc src D : Addr) (y : Str) : (if y = "source" then some (Value.ref src) else if y = "names" then some (Value.ref D) else lawF nm lo hi rl sc y) = lawG none nm src D (lawF nm lo hi rl sc) y := by
  by_cases q1 : y = "turn"
  · subst q1; rfl
  · by_cases q2 : y = "name"
    · subst q2; rfl
    · simp only [lawG, if_neg q1, if_neg q2]
theorem strs_mem {vs : List Value} {names : List Str} (h : StrsAre vs names) : ∀ v ∈ vs, ∃ n t, v = .str n t ∧ n ∈ names := by
  induction h with
  | nil => intro v hv; cases hv
  | cons y t _ ih =>
    intro v hv
    rcases List.mem_cons.mp hv with rfl | hv
    · exact ⟨_, _, rfl, .head _⟩
    · obtain ⟨n, t', e, m⟩ := ih v hv
      exact ⟨n, t', e, .tail _ m⟩
abbrev allNames : List Str := allRows.map (·.1)

theorem names_ok : ∀ n ∈ allNames, 1 ≤ n.length ∧ n.length ≤ 20 := by
  have h : ∀ n ∈ allNames, 1 ≤ n.length ∧ n.length ≤ 20 := by decide +kernel
  exact h

theorem turns_on {prog : Program} {w : World} {A : Around} {env : Env} {s : Shared} {base : Heap} {L D src r : Addr} {oD : Obj} {t u v : Tok} {x y : Int} {tx ty : Tok} {nm : Option Value} {m0 : Str → Option Value} {px : Pos} {body : List Stmt} {Q : Flow → Shared → Prop}
    (F : Fr base L s.heap (lawG none nm src D m0)) (N : News base L s.heap [(D, oD), (src, listOf [Value.int x tx, .int y ty].toArray 0)]) (hx : 0 ≤ x) (hy : 0 ≤ y) (hy2 : y < 2147483648)
    (hr : IsRange s.heap r 0 6 1 t u v)
    (hturn : ∀ (s : Shared) tu nm x tx y ty I it (i : Nat) tt (Q : Flow → Shared → Prop), Fr base L s.heap (lawG tu nm src D m0) → News base L s.heap [(I, it), (D, oD), (src, listOf [Value.int x tx, .int y ty].toArray 0)] → I ≠ src → 0 ≤ x → 0 ≤ y → y < 2147483648 →
      (∀ h' tk tu nm x tx y ty, Fr base L h' (lawG tu nm src D m0) → News base L h' [(I, it), (D, oD), (src, listOf [Value.int x tx, .int y ty].toArray 0)] → 0 ≤ x → 0 ≤ y → y < 2147483648 → Q .next { s with heap := h', toks := tk }) →
      wpAny (model prog w) A (assign (.Name "turn" px) env (.int i tt)) (fun _ s₂ => wpAny (model prog w) A (execs body env) Q (fun _ _ => False) s₂) (fun _ _ => False) s)
    (hdone : ∀ h' tk tu nm x tx y ty, Fr base L h' (lawG tu nm src D m0) → News base L h' [(D, oD), (src, listOf [Value.int x tx, .int y ty].toArray 0)] → Q .next { s with heap := h', toks := tk }) :
    RangeOn prog w A env "turn" px body Q (.ref r) s := by
  refine ⟨r, 6, t, u, v, fun I i s' => ∃ tu nm x tx y ty, Fr base L s'.heap (lawG tu nm src D m0) ∧ News base L s'.heap [(D, oD), (src, listOf [Value.int x tx, .int y ty].toArray 0)] ∧ 0 ≤ x ∧ 0 ≤ y ∧ y < 2147483648 ∧
    D ≠ I ∧ src ≠ I ∧ L ≠ I ∧ base.get? I = none ∧ s' = { s with heap := s'.heap, toks := s'.toks }, rfl, hr, by decide +kernel, by decide +kernel, ?_, ?_, ?_, ?_⟩
  · intro h' I hI0 k
    obtain ⟨r3, r4, r5⟩ := iter_off F N hI0
    exact ⟨none, nm, x, tx, y, ty, F.after k, News.after N k, hx, hy, hy2, r3 (D, oD) (.head _), r3 (src, _) (.tail _ (.head _)), r4, r5, rfl⟩
  · rintro I i s' h' tk ⟨tu, nm, x, tx, y, ty, F', N', a1, a2, a3, r1, r2, r4, r5, r6⟩ k
    have r3 : ∀ p ∈ [(D, oD), (src, listOf [Value.int x tx, .int y ty].toArray 0)], p.1 ≠ I := fun p hp => by
      rcases List.mem_cons.mp hp with rfl | hp
      · exact r1
      · obtain rfl := List.mem_singleton.mp hp
        exact r2
    obtain ⟨F2, N2⟩ := iter_keep F' N' r3 r4 r5 k
    refine ⟨tu, nm, x, tx, y, ty, F2, N2, a1, a2, a3, r1, r2, r4, r5, ?_⟩
    rw [r6]
  · rintro I i s' tt hi ⟨tu, nm, x, tx, y, ty, F', N', a1, a2, a3, r1, r2, r4, r5, r6⟩ hit
    refine hturn s' tu nm x tx y ty I { cls := .type "range_iterator", dict := none, data := .fields #[rawInt ((i + 1 : Nat) : Int), rawInt (((6 : Nat) : Int) - ((i + 1 : Nat) : Int)), rawInt 1], slots := #[] } i tt _ F' (fun p hp => ?_) (Ne.symm r2) a1 a2 a3 ?_
    · rcases List.mem_cons.mp hp with rfl | hp
      · exact ⟨hit, Ne.symm r4, r5⟩
      · exact N' p hp
    · intro h' tk tu nm x tx y ty F2 N2 b1 b2 b3
      refine ⟨rfl, ⟨tu, nm, x, tx, y, ty, F2, News.sub N2 fun p hp => .tail _ hp, b1, b2, b3, r1, r2, r4, r5, ?_⟩, (N2 _ (.head _)).1⟩
      rw [r6]
  · rintro I s' ⟨tu, nm, x, tx, y, ty, F', N', a1, a2, a3, r1, r2, r4, r5, r6⟩
    have := hdone s'.heap s'.toks tu nm x tx y ty F' N'
    rw [r6]; exact this
end

section
-- part Plain
theorem cnt (z : Str) : ∀ ys : List Str, PySem.Spec.countIn (.str z) (ys.map PyData.str) = ((ys.count z : Nat) : Int)
  | [] => rfl
  | y :: r => by
    rw [List.map_cons, PySem.Spec.countIn, cnt z r, List.count_cons]
    by_cases h : y = z
    · subst h; simp [PySem.Spec.same]; omega
    · simp [PySem.Spec.same, h]
theorem each_one : ∀ n ∈ allNames, allNames.count n = 1 := by decide +kernel
theorem each_core : ∀ n ∈ allNames, coreB n = true := by decide +kernel
theorem each_in : ∀ n ∈ sSETS ++ (sTRUTHS ++ (sNUMBERS ++ sTEXTS)), n ∈ allNames := by decide +kernel
theorem core_mem {z : Str} (h : coreB z = true) : z ∈ allNames := by
  refine each_in z ?_
  have h2 : (sSETS ++ (sTRUTHS ++ (sNUMBERS ++ sTEXTS))).any (· == z) = true := by
    rw [List.any_append, List.any_append, List.any_append]
    exact h
  obtain ⟨y, hy, e⟩ := List.any_eq_true.mp h2
  rw [← beq_iff_eq.mp e]
  exact hy
/-- is_core tells just the names that the law's table holds once -/
theorem plain_law (z : Str) : coreB z = (PySem.Spec.countIn (.str z) (allNames.map PyData.str) == 1) := by
  rw [cnt]
  by_cases h : z ∈ allNames
  · rw [each_one z h, each_core z h]; rfl
  · rw [List.count_eq_zero_of_not_mem h]
    cases q : coreB z with
    | false => rfl
    | true => exact absurd (core_mem q) h
theorem plain_ne (z : Str) : (coreB z != (PySem.Spec.countIn (.str z) ((allRows.map (·.1)).map PyData.str) == 1)) = false := by
  rw [← plain_law z]
  simp
end

section
-- part Law
local macro_rules | `(tactic| walk_at "call ref") => `(tactic| (k_here; refine Stuck.mk ?_))
local macro_rules | `(tactic| walk_at "exec For Name Call cons nil") => `(tactic| (k_here; refine Stuck.mk ?_))
local macro_rules | `(tactic| walk_at "exec For") => `(tactic| (k_here; refine Stuck.mk ?_))
local macro_rules | `(tactic| walk_at "eval ListComp") => `(tactic| (k_here; refine Stuck.mk ?_))
theorem law_ends {w : World} {E : Value → Shared → Prop} {s : Shared} {mean : ExcName → Option Value} {mg mb : Str → Option Value} {Q : Value → Shared → Prop}
    {sc : Addr} {vs : List Value} {ns : List Int}
    (X : (hd.heap_39 w.params).In s.heap) (T : Top hd.view_39 (looseW hd.view_39 []) mean mg mb s.heap) (hL : s.heap.IsList sc vs.toArray) (hI : IntsAre vs ns)
    (h : ∀ h' tk, (∀ b x, s.heap.get? b = some x → h'.get? b = some x) → Q (.bool true) { s with heap := h', toks := tk }) :
    wpAny (model PySem.Challenge.rw_xm0650_01.row.prog w) callerA (call (.ref 121) [.ref sc]) Q E s := by
  revert X; k_fill; intro X
  refine' enter0 X T (fun _ _ e => e) ?ho ?hcd (by decide) ?hb ?hl ?_ ?hco ?hgen ?hkd ?hcell
  case ho => k_is
  case hcd => k_is
  case hb => exact BindsTo.of_eq rfl
  case hl => exact locs rfl
  case hco => exact rfl
  case hgen => exact rfl
  case hkd => exact rfl
  case hcell => decide
  intro L h₁ F N X' T'
  (try dsimp only)
  (try k_fold)
  clear X T
  k_steps
  unfold Stuck
  refine rows_ends X' T' F.keep (by k_room) rfl ?_
  intro h2 tk2 rl vr rs kp hrl0 hrl hrs hR
  have F2 := F.after kp
  have N2 : News s.heap L h2 ((rl, listOf vr.toArray 0) :: rs) := by
    intro p hp
    have hL0 : ∃ o, h₁.get? L = some o := by obtain ⟨⟨oL, _, _, hL, _⟩, _, _⟩ := F; exact ⟨oL, hL⟩
    obtain ⟨oL, hL0⟩ := hL0
    rcases List.mem_cons.mp hp with rfl | hp
    · refine ⟨hrl, fun e => ?_, ?_⟩
      · dsimp only at e; rw [e] at hrl0; rw [hrl0] at hL0; cases hL0
      · cases q : s.heap.get? rl with
        | none => rfl
        | some x => have := F.keep _ _ q; rw [hrl0] at this; cases this
    · obtain ⟨q1, q2, q3⟩ := hrs p hp
      refine ⟨q1, fun e => ?_, ?_⟩
      · rw [e] at q2; rw [q2] at hL0; cases hL0
      · cases q : s.heap.get? p.1 with
        | none => rfl
        | some x => have := F.keep _ _ q; rw [q2] at this; cases this
  have hrs2 : ∀ p ∈ rs, p.1 ≠ rl := fun p hp => (hrs p hp).2.2
  clear F N kp hrl0 hrl hrs
  k_steps
  unfold Stuck
  refine loop_list rfl ?_
  k_steps
  rename Fr s.heap L _ _ => F
  rename News s.heap L _ _ => N
  have F9 := Fr.congr F (m' := lawF none none none rl sc) (fun y => by
    by_cases h2 : y = "rows"
    · subst h2; rfl
    · simp only [if_neg h2]
      by_cases h3 : y = "script"
      · subst h3; rfl
      · show List.lookup y [("script", Value.ref sc)] = _
        rw [List.lookup_cons, show (y == ("script" : Str)) = false from beq_false_of_ne h3]
        simp [lawF, h2, h3])
  refine law_on1 F9 N hR rows_ok ?_ ?_
  · clear F N F9 hR hrs2
    intro s2 nm lo hi I it a n t b1 t1 b2 t2 Q2 F N hok hQ
    k_steps
    unfold Stuck
    rename Fr s.heap L _ _ => F
    rename News s.heap L _ _ => N
    refine core_ends X' T' F.keep (by k_room) ?_
    intro h3 tk3 kp
    have F3 := F.after kp
    have N3 := News.after N kp
    clear F N kp
    rw [show coreB n = true from hok.1]
    k_steps
    unfold Stuck
    refine bounds_ends X' T' F3.keep (by k_room) rfl ?_
    intro h4 tk4 a4 t4 t4' kp ha40 ha4
    have F4 := F3.after kp
    rw [show bnd n = (b1, b2) from hok.2.1] at ha4
    have N4 := add_new F3 (News.after N3 kp) ha40 ha4
    clear F3 N3
    k_steps
    rename Fr s.heap L _ _ => F
    rename News s.heap L _ _ => N
    obtain ⟨_, hbn, o1, o2, o3, _, o5⟩ := hok
    dsimp only at hbn o1 o2 o3 o5
    unfold Stuck
    refine let_step true X' T' F N hbn o1 (by omega) (by omega) (decide_eq_true ⟨by omega, by omega⟩) ?_
    clear F N
    intro h5 tk5 F N
    k_steps
    unfold Stuck
    rename Fr s.heap L _ _ => F
    rename News s.heap L _ _ => N
    refine let_step true X' T' F N hbn (by omega) (by omega) (by omega) (decide_eq_true ⟨by omega, by omega⟩) ?_
    clear F N
    intro h6 tk6 F N
    k_steps
    unfold Stuck
    rename Fr s.heap L _ _ => F
    rename News s.heap L _ _ => N
    refine let_step false X' T' F N hbn (by omega) (by omega) (by omega) (decide_eq_false (by omega)) ?_
    clear F N
    intro h7 tk7 F N
    k_steps
    · unfold Stuck
      rename Fr s.heap L _ _ => F
      rename News s.heap L _ _ => N
      refine let_step false X' T' F N hbn (by omega) (by omega) (by omega) (decide_eq_false (by omega)) ?_
      clear F N
      intro h8 tk8 F N
      k_steps
      exact hQ _ _ _ _ _ (Fr.congr F (law_congr _ _ _ _ _ _ _ _)) (News.sub N fun p hp => .tail _ (.tail _ hp))
    · exact hQ _ _ _ _ _ (Fr.congr F (law_congr _ _ _ _ _ _ _ _)) (News.sub N fun p hp => .tail _ (.tail _ hp))
  clear F N F9
  intro h9 tk9 nm9 lo9 hi9 F N
  k_steps
  unfold Stuck
  obtain ⟨os9, ho9, hc9, nn9, hd9⟩ := hL
  refine pool_ends X' T' F.keep (by k_room) rfl (by exact Nat.le_of_ble_eq_true rfl) ⟨os9, F.keep _ _ ho9, hc9, nn9, hd9⟩ hI ?_
  intro h10 tk10 src x tx y ty kp hs0 hs1 hx hy hy2
  have F10 := F.after kp
  have N10 := add_new F (News.after N kp) hs0 hs1
  have hsrl : src ≠ rl := fun e => by
    have := (N _ (.head _)).1
    dsimp only at this
    rw [← e, hs0] at this; cases this
  clear F N
  k_steps
  unfold Stuck
  have hrl := hR.len
  refine comp_names (rs := rs) rfl (N10.get (.tail _ (.head _))) (by rw [hrl]; decide) (fun p hp => (N10 p (.tail _ (.tail _ hp))).1) hR (fun Q' hq => ?_) ?_
  · k_steps
    exact hq
  intro D h11 tk11 ys nD hD0 hD1 hS kp11
  have F11 := F10.after kp11
  have N11 := add_new F10 (News.after N10 kp11) hD0 hD1
  have hDs : D ≠ src := fun e => by
    have := (N10 _ (.head _)).1
    dsimp only at this
    rw [← e, hD0] at this; cases this
  clear F10 N10
  k_steps
  unfold Stuck
  refine loop_range rfl ?_
  k_steps
  rename Fr s.heap L _ _ => F
  rename News s.heap L _ _ => N
  have hlen : ys.length = 27 := by rw [strs_len hS, List.length_map]; decide
  refine turns_on (Fr.congr F (lawG_start _ _ _ _ _ _ _)) (News.sub N (news' := [(D, listOf ys.toArray nD), (src, listOf [Value.int x tx, .int y ty].toArray 0)]) (fun p hp => by
    rcases List.mem_cons.mp hp with rfl | hp
    · exact .tail _ (.head _)
    · obtain rfl := List.mem_singleton.mp hp
      exact .tail _ (.tail _ (.head _)))) hx hy hy2 (by assumption) ?_ ?_
  · clear F N
    intro s2 tu nm x tx y ty I it i tt Q2 F N hIs hx hy hy2 hQ
    k_steps
    unfold Stuck
    rename Fr s.heap L _ _ => F
    rename News s.heap L _ _ => N
    refine bent_ends (n := 0) (vs := ys) X' T' F.keep (N.get (.tail _ (.tail _ (.head _)))) (N.fresh (.tail _ (.tail _ (.head _)))) (by k_room) rfl ⟨_, N.get (.tail _ (.head _)), rfl, _, rfl⟩ hDs (by omega) (by omega) (fun v hv => ?_) hx hy hy2 ?_
    · obtain ⟨z, t, e, m⟩ := strs_mem hS v hv
      exact ⟨z, t, e, names_ok z m⟩
    intro h12 tk12 z t x2 tx2 y2 ty2 S c1 c2 c3 c4
    have F12 := S.frN F N (.tail _ (.tail _ (.head _)))
    have N12 := S.news N (Upd.tail hIs (Upd.tail hDs (Upd.head (fun _ q => nomatch q))))
    clear F N S
    k_steps
    unfold Stuck
    rename Fr s.heap L _ _ => F
    rename News s.heap L _ _ => N
    refine core_ends X' T' F.keep (by k_room) ?_
    intro h13 tk13 kp
    have F13 := F.after kp
    have N13 := News.after N kp
    clear F N kp
    k_steps
    · have hb : (coreB z != (PySem.Spec.countIn (.str z) ((allRows.map (·.1)).map PyData.str) == 1)) = true := by assumption
      rw [plain_ne] at hb
      cases hb
    · exact hQ _ _ _ _ _ _ _ _ (Fr.congr F13 (lawG_congr2 _ _ _ _ _ _ _)) N13 c1 c3 c4
  clear F N
  intro h14 tk14 tu nm x9 tx9 y9 ty9 F N
  k_steps
  rename Fr s.heap L _ _ => F
  rename News s.heap L _ _ => N
  refine len_list (l := D) (items := ys.toArray) ⟨_, N.get (.head _), rfl, _, rfl⟩ (by simp only [List.size_toArray]; omega) ?_
  simp only [List.size_toArray, hlen]
  k_steps
  exact h _ _ F.keep
end

end Mine
open PySem.W.X in
theorem PySem.Challenge.cw_xm0650_01_holds : PySem.Challenge.rw_xm0650_01.Holds := by
  refine Mine.hd ?_
  k_fill
  intro w s₀ s₁ mg mb G Y fa o pm cd doc dV kV ho hd hcd hD hmg hg args vals as hpre hlay hrd hwl hlo
  have KX := kIn_of Y
  refine Ground.open G ?_
  intro T B D TE TW
  wrow_args hpre hlay hrd hwl hlo
  x_fa T KX hmg
  rename s₁.heap.IsList _ _ => hL
  rename IntsAre _ _ => hI
  refine Mine.law_ends KX T hL hI ?_
  intro h' tk keep
  exact ⟨.inl ⟨_, .bool true, [], rfl, fun _ => rfl, ReadsW.bool true, by wrow_post, fun _ => ⟨List.nodup_nil, fun _ hm => (nomatch hm)⟩⟩, .of_keep keep, rfl, .of_eq hg⟩
