import PyProof.Rows.All
import Wide.All
import OpenK.AllK
import Wide.FinOn
import PySem.Challenge.RW_pf0193_01
open PySem PySem.W PyProof.Rows
set_option Elab.async false
set_option maxRecDepth 100000
set_option maxHeartbeats 0
namespace Mine
noncomputable def vw : Program := view PySem.Challenge.pw_pf0193_01 [48]
noncomputable def lo : List Str := [Str.ofString "link_of", Str.ofString "MillError", Str.ofString "NumberFault", Str.ofString "SheetFault", Str.ofString "LimitFault", Str.ofString "ZERO", Str.ofString "DIGITS", Str.ofString "MOST_EXPONENT", Str.ofString "common_divisor", Str.ofString "fraction", Str.ofString "times", Str.ofString "divided", Str.ofString "NumberText", Str.ofString "whole_of", Str.ofString "read_exponent", Str.ofString "read_decimal", Str.ofString "write_decimal", Str.ofString "Element", Str.ofString "HUNDRED", Str.ofString "unit_of", Str.ofString "length", Str.ofString "MOST_DEEP", Str.ofString "MOST_MADE", Str.ofString "OWN_WORDS", Str.ofString "element_of", Str.ofString "Uses", Str.ofString "group_words", Str.ofString "place_told", Str.ofString "framed", Str.ofString "_law_pool", Str.ofString "_law_take", Str.ofString "_law_one", Str.ofString "_law_use", Str.ofString "_law_row", Str.ofString "_law_element", Str.ofString "_law_told", Str.ofString "_law_framed", Str.ofString "_law_put", Str.ofString "_law_group", Str.ofString "_law_right", Str.ofString "_law_chain"]
noncomputable def xt (s : Shared) : Bool := xlAt vw [] s && recOk (RowW.records PySem.Challenge.rw_pf0193_01.row.toRowW) s
noncomputable def op (w : World) (os : OsState) : Option Shared := topFrom treeTable PySem.Challenge.pw_pf0193_01 w 5640 ⟨boot_heap w.params, Array.mk [], boot_drawn, boot_toks, os⟩
theorem behind {A : Type} {o : Option Shared} {H : Heap} {G : Array GenState} {D : Drawn} {T : Nat} (h : o.map (fun s => (s.heap, s.gens, s.drawn, s.toks)) = some (H, G, D, T)) {t : Shared → Option Shared} {F : Shared → A} {r : A}
    (k : ∀ os, (t ⟨H, G, D, T, os⟩).map F = some r) : (o.bind t).map F = some r := by
  cases o with
  | none => cases h
  | some s => obtain ⟨h1, h2, h3, h4, os⟩ := s; cases h; exact k os
theorem bo : ∀ w : World, (fencedOpening treeTable PySem.Challenge.pw_pf0193_01 w 5640).map (fun s => (s.heap, s.gens, s.drawn, s.toks)) = some (boot_heap w.params, Array.mk [], boot_drawn, boot_toks) :=
  boot_open rfl rfl fun _ => rfl
theorem left_of {α : Type} {Yf : Shared → α} {Ya : World → α} (k : ∀ (w : World) (os : OsState), (op w os).map (fun s => (openSeen vw lo (importedModules PySem.Challenge.pw_pf0193_01.main.body) xt true s, Yf s)) = some (openGood vw lo, Ya w)) :
    LeftO PySem.Challenge.pw_pf0193_01 vw lo xt Yf Ya 5640 := fun w => behind (bo w) fun os => k w os
theorem ws : OpenLaw.wellSaid PySem.Challenge.rw_pf0193_01 = true := by rw [PySem.W.Fast.te9446332074065402090]; kernel_rfl
end Mine
local macro_rules | `(tactic| k_head) => `(tactic| x_head)
local macro_rules | `(tactic| o_law) => `(tactic| refine holds_law Mine.ws fun said => ?_)
local macro_rules | `(tactic| o_head $H:term) => `(tactic| (
  refine holds_open (q := Mine.vw) (loose := Mine.lo) (Xt := Mine.xt) (XP := XL Mine.vw []) (Yf := Hook.obs $H) (Ya := Hook.val $H) (YP := Hook.says $H) (N := 5640) (Mine.left_of ?hl) (Hook.of $H) (Hook.keeps $H) (fun s e => xl_of s (Bool.and_eq_true_iff.mp e).1) XL.keeps (by rfl) (by rfl) (by rfl) (fun s e => recFacts_of (Bool.and_eq_true_iff.mp e).2) (by rfl) (by assumption) (by decide +kernel) ⟨rfl, rfl, rfl, rfl, rfl, by decide +kernel⟩ ?hw ?hc
  case hl =>
    unfold Mine.op topFrom
    rw [PySem.W.Fast.te4187177175401517315, PySem.W.Fast.te14082659384304107361, PySem.W.Fast.te14364793385576792824, PySem.W.Fast.te5923862056798008813, PySem.W.Fast.te8920871248978507458]
    intro w os
    kernel_rfl
  (rotate_left; try skip)))
open_top hd for PySem.Challenge.rw_pf0193_01
set_option maxHeartbeats 6000000
set_option linter.all false
set_option compiler.extract_closed false
namespace Mine
theorem kw_s0 : True := by
  (k_with "s0" => first | ((fail_if_success (fail_if_success k_unfold)); (with_reducible refine (?_ : wpAny _ _ _ _ _ _)); goal_lacks PySem.Shared.gens) | (k_unfold; (try dsimp only)) | (k_end; wrow_close) | fail)
  (k_with "sa" => first | k_extra "s0" | ((first | (with_reducible refine (?_ : wpAny _ _ (exec _ _) _ _ _)) | (with_reducible refine (?_ : wpAny _ _ (eval (Expr.Call _ _ _ _) _) _ _ _)) | (with_reducible refine (?_ : wpAny _ _ (eval (Expr.Compare _ _ _ _) _) _ _ _)) | (with_reducible refine (?_ : wpAny _ _ (eval (Expr.BinOp _ _ _ _) _) _ _ _))); (fail_if_success (fail_if_success k_fold)); (refine fold1 ?_); intro qk) | fail)
  (k_with "sb" => first | (k_extra "s0") | fail)
  (k_with "sz" => first | walk1 | (dsimp only; walk1) | (leave1; try dsimp only) | fail "no step" | fail)
  (w_top off)
  trivial
section
-- part lem
noncomputable abbrev prg : Program := PySem.Challenge.rw_pf0193_01.row.toRowW.prog
noncomputable abbrev lse : List Str := looseW vw lo

noncomputable abbrev S (x : String) : Str := Str.ofString x
noncomputable abbrev Led := List (Addr × Obj)
noncomputable abbrev Ws := List (Str × Str)
inductive T where
  | mk (name : Str) (ws : Ws) (kids : List T) (text : Str)
noncomputable def T.name : T → Str | .mk n _ _ _ => n
noncomputable def T.ws : T → Ws | .mk _ w _ _ => w
noncomputable def T.kids : T → List T | .mk _ _ k _ => k
noncomputable def T.text : T → Str | .mk _ _ _ x => x

noncomputable def wsGet (ws : Ws) (k : Str) : Option Str := (ws.find? fun p => p.1 = k).map (·.2)
noncomputable def wsPut (ws : Ws) (k v : Str) : Ws := if ws.any (fun p => p.1 = k) then ws.map (fun p => if p.1 = k then (p.1, v) else p) else ws ++ [(k, v)]

noncomputable def WsAre : List (Str × Value) → Ws → Prop
  | [], [] => True
  | a :: r, b :: q => (a.1 = b.1 ∧ ∃ t, a.2 = Value.str b.2 t) ∧ WsAre r q
  | _, _ => False
theorem WsAre.some : ∀ {kvs : List (Str × Value)} {ws : Ws} {k y : Str}, WsAre kvs ws → wsGet ws k = some y → ∃ t, valueAt kvs k = some (Value.str y t)
  | [], [], _, _, _, h => by cases h
  | [], _ :: _, _, _, h, _ => h.elim
  | _ :: _, [], _, _, h, _ => h.elim
  | a :: r, b :: q, k, y, ⟨⟨e, t, ev⟩, hr⟩, h => by
    unfold wsGet at h
    unfold valueAt
    rw [List.find?_cons] at h ⊢
    rw [e]
    by_cases hb : b.1 = k
    · simp only [hb, decide_true, Option.map_some, Option.some.injEq] at h ⊢
      exact ⟨t, by rw [ev, h]⟩
    · simp only [hb, decide_false] at h ⊢
      exact WsAre.some hr h
theorem WsAre.none : ∀ {kvs : List (Str × Value)} {ws : Ws} {k : Str}, WsAre kvs ws → wsGet ws k = none → valueAt kvs k = none
  | [], [], _, _, _ => rfl
  | [], _ :: _, _, h, _ => h.elim
  | _ :: _, [], _, h, _ => h.elim
  | a :: r, b :: q, k, ⟨⟨e, t, ev⟩, hr⟩, h => by
    unfold wsGet at h
    unfold valueAt
    rw [List.find?_cons] at h ⊢
    rw [e]
    by_cases hb : b.1 = k
    · simp only [hb, decide_true, Option.map_some] at h; cases h
    · simp only [hb, decide_false] at h ⊢
      exact WsAre.none hr h

inductive DictIn (w : World) (D : Led) (d : Addr) (ws : Ws) : Prop
  | mk (o : Obj) (kvs : List (Str × Value)) (m : (d, o) ∈ D) (hd : o.IsDictOf (strKind prg w) kvs) (hw : WsAre kvs ws) (lo : (d == sysModules) = false)
theorem DictIn.mono {w : World} {D D' : Led} {d : Addr} {ws : Ws} (x : DictIn w D d ws) (h : ∀ p ∈ D, p ∈ D') : DictIn w D' d ws :=
  let ⟨o, kvs, m, a, b, c⟩ := x; ⟨o, kvs, h _ m, a, b, c⟩
inductive ElemB (w : World) (D : Led) (v : Value) (name : Str) (ws : Ws) (text : Str) (P : List Value → Prop) : Prop
  | mk (x dx d l : Addr) (n k : Nat) (vs : Array Value) (h1 h2 h3 h4 : Int) (t1 t2 t3 t4 tn tt : Tok) (e : v = Value.ref x) (a1 : (x, instObj 203 dx) ∈ D)
      (a2 : (dx, dictOf [⟨h1, .str (Str.ofString "name") t1, .str name tn⟩, ⟨h2, .str (Str.ofString "attributes") t2, .ref d⟩, ⟨h3, .str (Str.ofString "children") t3, .ref l⟩, ⟨h4, .str (Str.ofString "text") t4, .str text tt⟩] n) ∈ D)
      (a3 : DictIn w D d ws) (a4 : (l, listOf vs k) ∈ D) (a5 : P vs.toList)
inductive TreeB (w : World) (D : Led) (v : Value) (name : Str) (ws : Ws) (text : Str) (P : List Value → Prop) : Prop
  | mk (x d l : Addr) (k : Nat) (vs : Array Value) (tn tt : Tok) (e : v = Value.ref x) (a1 : (x, ({ cls := .type "tuple", data := .seq #[.str name tn, .ref d, .ref l, .str text tt] } : Obj)) ∈ D)
      (a3 : DictIn w D d ws) (a4 : (l, listOf vs k) ∈ D) (a5 : P vs.toList)
mutual
noncomputable def ElemIn (w : World) (D : Led) : Value → T → Prop
  | v, .mk name ws kids text => ElemB w D v name ws text fun vs => ElemsIn w D vs kids
noncomputable def ElemsIn (w : World) (D : Led) : List Value → List T → Prop
  | [], [] => True
  | v :: vs, t :: ts => ElemIn w D v t ∧ ElemsIn w D vs ts
  | _, _ => False
end
mutual
noncomputable def TreeIn (w : World) (D : Led) : Value → T → Prop
  | v, .mk name ws kids text => TreeB w D v name ws text fun vs => TreesIn w D vs kids
noncomputable def TreesIn (w : World) (D : Led) : List Value → List T → Prop
  | [], [] => True
  | v :: vs, t :: ts => TreeIn w D v t ∧ TreesIn w D vs ts
  | _, _ => False
end
mutual
theorem ElemIn.mono {w : World} {D D' : Led} (h : ∀ p ∈ D, p ∈ D') : ∀ {t : T} {v : Value}, ElemIn w D v t → ElemIn w D' v t
  | .mk _ _ _ _, _, x => by
    unfold ElemIn at x ⊢
    (with_reducible refine (?_ : (let lG : Prop := _; lG))); intro lG; obtain ⟨x, dx, d, l, n, k, vs, h1, h2, h3, h4, t1, t2, t3, t4, tn, tt, e, a1, a2, a3, a4, a5⟩ := x; k_unfold; clear lG
    exact ⟨x, dx, d, l, n, k, vs, h1, h2, h3, h4, t1, t2, t3, t4, tn, tt, e, h _ a1, h _ a2, a3.mono h, h _ a4, ElemsIn.mono h a5⟩
theorem ElemsIn.mono {w : World} {D D' : Led} (h : ∀ p ∈ D, p ∈ D') : ∀ {ts : List T} {vs : List Value}, ElemsIn w D vs ts → ElemsIn w D' vs ts
  | [], [], _ => by unfold ElemsIn; trivial
  | [], _ :: _, x => by unfold ElemsIn at x; exact x.elim
  | _ :: _, [], x => by unfold ElemsIn at x; exact x.elim
  | _ :: _, _ :: _, x => by
    unfold ElemsIn at x ⊢
    exact ⟨ElemIn.mono h x.1, ElemsIn.mono h x.2⟩
end
mutual
theorem TreeIn.mono {w : World} {D D' : Led} (h : ∀ p ∈ D, p ∈ D') : ∀ {t : T} {v : Value}, TreeIn w D v t → TreeIn w D' v t
  | .mk _ _ _ _, _, x => by
    unfold TreeIn at x ⊢
    (with_reducible refine (?_ : (let lG : Prop := _; lG))); intro lG; obtain ⟨x, d, l, k, vs, tn, tt, e, a1, a3, a4, a5⟩ := x; k_unfold; clear lG
    exact ⟨x, d, l, k, vs, tn, tt, e, h _ a1, a3.mono h, h _ a4, TreesIn.mono h a5⟩
theorem TreesIn.mono {w : World} {D D' : Led} (h : ∀ p ∈ D, p ∈ D') : ∀ {ts : List T} {vs : List Value}, TreesIn w D vs ts → TreesIn w D' vs ts
  | [], [], _ => by unfold TreesIn; trivial
  | [], _ :: _, x => by unfold TreesIn at x; exact x.elim
  | _ :: _, [], x => by unfold TreesIn at x; exact x.elim
  | _ :: _, _ :: _, x => by
    unfold TreesIn at x ⊢
    exact ⟨TreeIn.mono h x.1, TreesIn.mono h x.2⟩
end

noncomputable def Hold (p : Prop) : Prop := p
theorem Hold.intro {p : Prop} (h : Hold p) : p := h
inductive Cut (x : Addr × Obj) : Led → Led → Prop
  | here {r} : Cut x (x :: r) r
  | there {p r r'} : Cut x r r' → Cut x (p :: r) (p :: r')
theorem Cut.sub {x : Addr × Obj} : ∀ {l l' : Led}, Cut x l l' → x ∈ l ∧ ∀ p ∈ l', p ∈ l
  | _, _, .here => ⟨.head _, fun _ h => .tail _ h⟩
  | _, _, .there c => ⟨.tail _ c.sub.1, fun p h => by
      rcases List.mem_cons.mp h with rfl | h
      · exact .head _
      · exact .tail _ (c.sub.2 p h)⟩
theorem Cut.app {x : Addr × Obj} {r r' : Led} (c : Cut x r r') : ∀ {a : Led}, Cut x (a ++ r) (a ++ r')
  | [] => c
  | _ :: _ => .there (Cut.app c)
theorem subL_of {l all : Led} (h : ∀ p ∈ l, p ∈ all) : SubL l all := by
  induction l with
  | nil => trivial
  | cons p r ih => exact ⟨h p (.head _), ih fun q hq => h q (.tail _ hq)⟩
theorem offW1_of {p : Addr × Obj} {its : Led} (h : ∀ q ∈ its, p.1 ≠ q.1) : OffW1 p its := by
  induction its with
  | nil => trivial
  | cons a r ih => exact ⟨.inl (h a (.head _)), ih fun q hq => h q (.tail _ hq)⟩
theorem offW_of {its l : Led} (h : ∀ p ∈ l, ∀ q ∈ its, p.1 ≠ q.1) : OffW its l := by
  induction l with
  | nil => trivial
  | cons a r ih => exact ⟨offW1_of (h a (.head _)), ih fun q hq => h q (.tail _ hq)⟩
theorem unrEnd1 {h₀ : Heap} {L I : Addr} {o : Obj} {rest : (Str → Option Value) → Led → Prop} {s₁ : Shared} {h' : Heap} {tk : Nat} {m' : Str → Option Value} {all news' : Led}
    (F : Fr h₀ L h' m') (N : News h₀ L h' all) (C : Cut (I, o) all news') (off : ∀ p ∈ news', p.1 ≠ I) (r : rest m' news') : UnrEndW h₀ L s₁ [(I, o)] rest { s₁ with heap := h', toks := tk } :=
  UnrEndW.intro F N news' ⟨C.sub.1, trivial⟩ (subL_of C.sub.2) (offW_of fun p hp q hq => by rw [List.mem_singleton.mp hq]; exact off p hp) r
theorem ltAll {d : Addr} {l : Led} (h : AllLt d l) : ∀ p ∈ l, p.1 < d := by
  induction l with
  | nil => intro p hp; cases hp
  | cons a r ih =>
    intro p hp
    unfold AllLt at h
    rcases List.mem_cons.mp hp with e | hp
    · rw [e]; exact h.1
    · exact ih h.2 p hp

-- dicts with texts as keys, by their pairs
section
variable {prog : Program} {w : World} {A : Around} {E : Value → Shared → Prop} {s : Shared} {h₀ : Heap} {L d : Addr} {m : Str → Option Value} {news : Led} {o : Obj} {kvs : List (Str × Value)} {k x z : Str} {tk t : Tok} {v : Value} {value slice : Expr}
theorem d_in {Q : Value → Shared → Prop} (N : News h₀ L s.heap news) (hp : (d, o) ∈ news) (hd : o.IsDictOf (strKind prog w) kvs) (lo : (d == sysModules) = false) (x : Option Value) (hl : valueAt kvs k = x) (h : Q (.bool x.isSome) { s with toks := s.toks + 1 }) :
    wpAny (model prog w) A (compareOp .In (.str k tk) (.ref d)) Q E s := kda_in (knd := strKind prog w) N hp hd lo (strKind_is _ _ _ _) x.isSome (by rw [hl]) h
theorem d_notin {Q : Value → Shared → Prop} (N : News h₀ L s.heap news) (hp : (d, o) ∈ news) (hd : o.IsDictOf (strKind prog w) kvs) (lo : (d == sysModules) = false) (x : Option Value) (hl : valueAt kvs k = x) (h : Q (.bool (!x.isSome)) { s with toks := s.toks + 1 }) :
    wpAny (model prog w) A (compareOp .NotIn (.str k tk) (.ref d)) Q E s := kdg_notin (knd := strKind prog w) N hp hd lo (strKind_is _ _ _ _) x.isSome (by rw [hl]) h
-- slices of a text whose slice is known
theorem sl_ns {j : Int} {uj : Tok} {Q : Value → Shared → Prop} (hF : Fr h₀ L s.heap m) (hN : News h₀ L s.heap news) (he : Txt.slice x none (some j) = z) (hsz : x.length ≤ sizeLine)
    (h : ∀ h' t' k, Fr h₀ L h' m → News h₀ L h' news → Q (.str z t') { s with heap := h', toks := k })
    (hs : subscripted slice false (.str x t) (.ref s.heap.objs.size) = operate [.ref s.heap.objs.size, .str x t] (getItem (.str x t) (.ref s.heap.objs.size)) := by with_unfolding_all rfl)
    (ht : ∀ r, letTemporaryGo value (.str x t) r = pure () := by intro _; with_unfolding_all rfl) :
    wpAny (model prog w) A (subscriptTail value slice (.str x t) (.ref s.heap.objs.size)) Q E { s with heap := s.heap.push { cls := .type "slice", data := .fields #[.none, .int j uj, .none] } } :=
  slice_strN_ns hF hN (fun h' t' k a b => he ▸ h h' t' k a b) hs ht hsz
theorem sl_sn {i : Int} {ui : Tok} {Q : Value → Shared → Prop} (hF : Fr h₀ L s.heap m) (hN : News h₀ L s.heap news) (he : Txt.slice x (some i) none = z) (hsz : x.length ≤ sizeLine)
    (h : ∀ h' t' k, Fr h₀ L h' m → News h₀ L h' news → Q (.str z t') { s with heap := h', toks := k })
    (hs : subscripted slice false (.str x t) (.ref s.heap.objs.size) = operate [.ref s.heap.objs.size, .str x t] (getItem (.str x t) (.ref s.heap.objs.size)) := by with_unfolding_all rfl)
    (ht : ∀ r, letTemporaryGo value (.str x t) r = pure () := by intro _; with_unfolding_all rfl) :
    wpAny (model prog w) A (subscriptTail value slice (.str x t) (.ref s.heap.objs.size)) Q E { s with heap := s.heap.push { cls := .type "slice", data := .fields #[.int i ui, .none, .none] } } :=
  slice_strN_sn hF hN (fun h' t' k a b => he ▸ h h' t' k a b) hs ht hsz
end
theorem lt0 {d : Addr} {all : Led} {G : Prop} (l : ∀ p ∈ (all : Led), @LT.lt Nat _ p.1 d) (k : AllLt d all → G) : G := k (allLt_of fun p hp => l p hp)
theorem lt1 {d a1 : Addr} {o1 : Obj} {all : Led} {G : Prop} (l : ∀ p ∈ ((a1, o1) :: all : Led), @LT.lt Nat _ p.1 d) (k : @LT.lt Nat _ a1 d → AllLt d all → G) : G := k (l _ (.head _)) (allLt_of fun p hp => l p (.tail _ hp))
theorem lt2 {d a1 a2 : Addr} {o1 o2 : Obj} {all : Led} {G : Prop} (l : ∀ p ∈ ((a1, o1) :: (a2, o2) :: all : Led), @LT.lt Nat _ p.1 d) (k : @LT.lt Nat _ a1 d → @LT.lt Nat _ a2 d → AllLt d all → G) : G := k (l _ (.head _)) (l _ (.tail _ (.head _))) (allLt_of fun p hp => l p (.tail _ (.tail _ hp)))
theorem lt3 {d a1 a2 a3 : Addr} {o1 o2 o3 : Obj} {all : Led} {G : Prop} (l : ∀ p ∈ ((a1, o1) :: (a2, o2) :: (a3, o3) :: all : Led), @LT.lt Nat _ p.1 d) (k : @LT.lt Nat _ a1 d → @LT.lt Nat _ a2 d → @LT.lt Nat _ a3 d → AllLt d all → G) : G := k (l _ (.head _)) (l _ (.tail _ (.head _))) (l _ (.tail _ (.tail _ (.head _)))) (allLt_of fun p hp => l p (.tail _ (.tail _ (.tail _ hp))))
theorem lt4 {d a1 a2 a3 a4 : Addr} {o1 o2 o3 o4 : Obj} {all : Led} {G : Prop} (l : ∀ p ∈ ((a1, o1) :: (a2, o2) :: (a3, o3) :: (a4, o4) :: all : Led), @LT.lt Nat _ p.1 d) (k : @LT.lt Nat _ a1 d → @LT.lt Nat _ a2 d → @LT.lt Nat _ a3 d → @LT.lt Nat _ a4 d → AllLt d all → G) : G := k (l _ (.head _)) (l _ (.tail _ (.head _))) (l _ (.tail _ (.tail _ (.head _)))) (l _ (.tail _ (.tail _ (.tail _ (.head _))))) (allLt_of fun p hp => l p (.tail _ (.tail _ (.tail _ (.tail _ hp)))))
theorem lt5 {d a1 a2 a3 a4 a5 : Addr} {o1 o2 o3 o4 o5 : Obj} {all : Led} {G : Prop} (l : ∀ p ∈ ((a1, o1) :: (a2, o2) :: (a3, o3) :: (a4, o4) :: (a5, o5) :: all : Led), @LT.lt Nat _ p.1 d) (k : @LT.lt Nat _ a1 d → @LT.lt Nat _ a2 d → @LT.lt Nat _ a3 d → @LT.lt Nat _ a4 d → @LT.lt Nat _ a5 d → AllLt d all → G) : G := k (l _ (.head _)) (l _ (.tail _ (.head _))) (l _ (.tail _ (.tail _ (.head _)))) (l _ (.tail _ (.tail _ (.tail _ (.head _))))) (l _ (.tail _ (.tail _ (.tail _ (.tail _ (.head _)))))) (allLt_of fun p hp => l p (.tail _ (.tail _ (.tail _ (.tail _ (.tail _ hp))))))
theorem lt6 {d a1 a2 a3 a4 a5 a6 : Addr} {o1 o2 o3 o4 o5 o6 : Obj} {all : Led} {G : Prop} (l : ∀ p ∈ ((a1, o1) :: (a2, o2) :: (a3, o3) :: (a4, o4) :: (a5, o5) :: (a6, o6) :: all : Led), @LT.lt Nat _ p.1 d) (k : @LT.lt Nat _ a1 d → @LT.lt Nat _ a2 d → @LT.lt Nat _ a3 d → @LT.lt Nat _ a4 d → @LT.lt Nat _ a5 d → @LT.lt Nat _ a6 d → AllLt d all → G) : G := k (l _ (.head _)) (l _ (.tail _ (.head _))) (l _ (.tail _ (.tail _ (.head _)))) (l _ (.tail _ (.tail _ (.tail _ (.head _))))) (l _ (.tail _ (.tail _ (.tail _ (.tail _ (.head _)))))) (l _ (.tail _ (.tail _ (.tail _ (.tail _ (.tail _ (.head _))))))) (allLt_of fun p hp => l p (.tail _ (.tail _ (.tail _ (.tail _ (.tail _ (.tail _ hp)))))))
theorem lt7 {d a1 a2 a3 a4 a5 a6 a7 : Addr} {o1 o2 o3 o4 o5 o6 o7 : Obj} {all : Led} {G : Prop} (l : ∀ p ∈ ((a1, o1) :: (a2, o2) :: (a3, o3) :: (a4, o4) :: (a5, o5) :: (a6, o6) :: (a7, o7) :: all : Led), @LT.lt Nat _ p.1 d) (k : @LT.lt Nat _ a1 d → @LT.lt Nat _ a2 d → @LT.lt Nat _ a3 d → @LT.lt Nat _ a4 d → @LT.lt Nat _ a5 d → @LT.lt Nat _ a6 d → @LT.lt Nat _ a7 d → AllLt d all → G) : G := k (l _ (.head _)) (l _ (.tail _ (.head _))) (l _ (.tail _ (.tail _ (.head _)))) (l _ (.tail _ (.tail _ (.tail _ (.head _))))) (l _ (.tail _ (.tail _ (.tail _ (.tail _ (.head _)))))) (l _ (.tail _ (.tail _ (.tail _ (.tail _ (.tail _ (.head _))))))) (l _ (.tail _ (.tail _ (.tail _ (.tail _ (.tail _ (.tail _ (.head _)))))))) (allLt_of fun p hp => l p (.tail _ (.tail _ (.tail _ (.tail _ (.tail _ (.tail _ (.tail _ hp))))))))
theorem lt8 {d a1 a2 a3 a4 a5 a6 a7 a8 : Addr} {o1 o2 o3 o4 o5 o6 o7 o8 : Obj} {all : Led} {G : Prop} (l : ∀ p ∈ ((a1, o1) :: (a2, o2) :: (a3, o3) :: (a4, o4) :: (a5, o5) :: (a6, o6) :: (a7, o7) :: (a8, o8) :: all : Led), @LT.lt Nat _ p.1 d) (k : @LT.lt Nat _ a1 d → @LT.lt Nat _ a2 d → @LT.lt Nat _ a3 d → @LT.lt Nat _ a4 d → @LT.lt Nat _ a5 d → @LT.lt Nat _ a6 d → @LT.lt Nat _ a7 d → @LT.lt Nat _ a8 d → AllLt d all → G) : G := k (l _ (.head _)) (l _ (.tail _ (.head _))) (l _ (.tail _ (.tail _ (.head _)))) (l _ (.tail _ (.tail _ (.tail _ (.head _))))) (l _ (.tail _ (.tail _ (.tail _ (.tail _ (.head _)))))) (l _ (.tail _ (.tail _ (.tail _ (.tail _ (.tail _ (.head _))))))) (l _ (.tail _ (.tail _ (.tail _ (.tail _ (.tail _ (.tail _ (.head _)))))))) (l _ (.tail _ (.tail _ (.tail _ (.tail _ (.tail _ (.tail _ (.tail _ (.head _))))))))) (allLt_of fun p hp => l p (.tail _ (.tail _ (.tail _ (.tail _ (.tail _ (.tail _ (.tail _ (.tail _ hp)))))))))
theorem lt9 {d a1 a2 a3 a4 a5 a6 a7 a8 a9 : Addr} {o1 o2 o3 o4 o5 o6 o7 o8 o9 : Obj} {all : Led} {G : Prop} (l : ∀ p ∈ ((a1, o1) :: (a2, o2) :: (a3, o3) :: (a4, o4) :: (a5, o5) :: (a6, o6) :: (a7, o7) :: (a8, o8) :: (a9, o9) :: all : Led), @LT.lt Nat _ p.1 d) (k : @LT.lt Nat _ a1 d → @LT.lt Nat _ a2 d → @LT.lt Nat _ a3 d → @LT.lt Nat _ a4 d → @LT.lt Nat _ a5 d → @LT.lt Nat _ a6 d → @LT.lt Nat _ a7 d → @LT.lt Nat _ a8 d → @LT.lt Nat _ a9 d → AllLt d all → G) : G := k (l _ (.head _)) (l _ (.tail _ (.head _))) (l _ (.tail _ (.tail _ (.head _)))) (l _ (.tail _ (.tail _ (.tail _ (.head _))))) (l _ (.tail _ (.tail _ (.tail _ (.tail _ (.head _)))))) (l _ (.tail _ (.tail _ (.tail _ (.tail _ (.tail _ (.head _))))))) (l _ (.tail _ (.tail _ (.tail _ (.tail _ (.tail _ (.tail _ (.head _)))))))) (l _ (.tail _ (.tail _ (.tail _ (.tail _ (.tail _ (.tail _ (.tail _ (.head _))))))))) (l _ (.tail _ (.tail _ (.tail _ (.tail _ (.tail _ (.tail _ (.tail _ (.tail _ (.head _)))))))))) (allLt_of fun p hp => l p (.tail _ (.tail _ (.tail _ (.tail _ (.tail _ (.tail _ (.tail _ (.tail _ (.tail _ hp))))))))))
theorem lt10 {d a1 a2 a3 a4 a5 a6 a7 a8 a9 a10 : Addr} {o1 o2 o3 o4 o5 o6 o7 o8 o9 o10 : Obj} {all : Led} {G : Prop} (l : ∀ p ∈ ((a1, o1) :: (a2, o2) :: (a3, o3) :: (a4, o4) :: (a5, o5) :: (a6, o6) :: (a7, o7) :: (a8, o8) :: (a9, o9) :: (a10, o10) :: all : Led), @LT.lt Nat _ p.1 d) (k : @LT.lt Nat _ a1 d → @LT.lt Nat _ a2 d → @LT.lt Nat _ a3 d → @LT.lt Nat _ a4 d → @LT.lt Nat _ a5 d → @LT.lt Nat _ a6 d → @LT.lt Nat _ a7 d → @LT.lt Nat _ a8 d → @LT.lt Nat _ a9 d → @LT.lt Nat _ a10 d → AllLt d all → G) : G := k (l _ (.head _)) (l _ (.tail _ (.head _))) (l _ (.tail _ (.tail _ (.head _)))) (l _ (.tail _ (.tail _ (.tail _ (.head _))))) (l _ (.tail _ (.tail _ (.tail _ (.tail _ (.head _)))))) (l _ (.tail _ (.tail _ (.tail _ (.tail _ (.tail _ (.head _))))))) (l _ (.tail _ (.tail _ (.tail _ (.tail _ (.tail _ (.tail _ (.head _)))))))) (l _ (.tail _ (.tail _ (.tail _ (.tail _ (.tail _ (.tail _ (.tail _ (.head _))))))))) (l _ (.tail _ (.tail _ (.tail _ (.tail _ (.tail _ (.tail _ (.tail _ (.tail _ (.head _)))))))))) (l _ (.tail _ (.tail _ (.tail _ (.tail _ (.tail _ (.tail _ (.tail _ (.tail _ (.tail _ (.head _))))))))))) (allLt_of fun p hp => l p (.tail _ (.tail _ (.tail _ (.tail _ (.tail _ (.tail _ (.tail _ (.tail _ (.tail _ (.tail _ hp)))))))))))
theorem lt11 {d a1 a2 a3 a4 a5 a6 a7 a8 a9 a10 a11 : Addr} {o1 o2 o3 o4 o5 o6 o7 o8 o9 o10 o11 : Obj} {all : Led} {G : Prop} (l : ∀ p ∈ ((a1, o1) :: (a2, o2) :: (a3, o3) :: (a4, o4) :: (a5, o5) :: (a6, o6) :: (a7, o7) :: (a8, o8) :: (a9, o9) :: (a10, o10) :: (a11, o11) :: all : Led), @LT.lt Nat _ p.1 d) (k : @LT.lt Nat _ a1 d → @LT.lt Nat _ a2 d → @LT.lt Nat _ a3 d → @LT.lt Nat _ a4 d → @LT.lt Nat _ a5 d → @LT.lt Nat _ a6 d → @LT.lt Nat _ a7 d → @LT.lt Nat _ a8 d → @LT.lt Nat _ a9 d → @LT.lt Nat _ a10 d → @LT.lt Nat _ a11 d → AllLt d all → G) : G := k (l _ (.head _)) (l _ (.tail _ (.head _))) (l _ (.tail _ (.tail _ (.head _)))) (l _ (.tail _ (.tail _ (.tail _ (.head _))))) (l _ (.tail _ (.tail _ (.tail _ (.tail _ (.head _)))))) (l _ (.tail _ (.tail _ (.tail _ (.tail _ (.tail _ (.head _))))))) (l _ (.tail _ (.tail _ (.tail _ (.tail _ (.tail _ (.tail _ (.head _)))))))) (l _ (.tail _ (.tail _ (.tail _ (.tail _ (.tail _ (.tail _ (.tail _ (.head _))))))))) (l _ (.tail _ (.tail _ (.tail _ (.tail _ (.tail _ (.tail _ (.tail _ (.tail _ (.head _)))))))))) (l _ (.tail _ (.tail _ (.tail _ (.tail _ (.tail _ (.tail _ (.tail _ (.tail _ (.tail _ (.head _))))))))))) (l _ (.tail _ (.tail _ (.tail _ (.tail _ (.tail _ (.tail _ (.tail _ (.tail _ (.tail _ (.tail _ (.head _)))))))))))) (allLt_of fun p hp => l p (.tail _ (.tail _ (.tail _ (.tail _ (.tail _ (.tail _ (.tail _ (.tail _ (.tail _ (.tail _ (.tail _ hp))))))))))))
theorem lt12 {d a1 a2 a3 a4 a5 a6 a7 a8 a9 a10 a11 a12 : Addr} {o1 o2 o3 o4 o5 o6 o7 o8 o9 o10 o11 o12 : Obj} {all : Led} {G : Prop} (l : ∀ p ∈ ((a1, o1) :: (a2, o2) :: (a3, o3) :: (a4, o4) :: (a5, o5) :: (a6, o6) :: (a7, o7) :: (a8, o8) :: (a9, o9) :: (a10, o10) :: (a11, o11) :: (a12, o12) :: all : Led), @LT.lt Nat _ p.1 d) (k : @LT.lt Nat _ a1 d → @LT.lt Nat _ a2 d → @LT.lt Nat _ a3 d → @LT.lt Nat _ a4 d → @LT.lt Nat _ a5 d → @LT.lt Nat _ a6 d → @LT.lt Nat _ a7 d → @LT.lt Nat _ a8 d → @LT.lt Nat _ a9 d → @LT.lt Nat _ a10 d → @LT.lt Nat _ a11 d → @LT.lt Nat _ a12 d → AllLt d all → G) : G := k (l _ (.head _)) (l _ (.tail _ (.head _))) (l _ (.tail _ (.tail _ (.head _)))) (l _ (.tail _ (.tail _ (.tail _ (.head _))))) (l _ (.tail _ (.tail _ (.tail _ (.tail _ (.head _)))))) (l _ (.tail _ (.tail _ (.tail _ (.tail _ (.tail _ (.head _))))))) (l _ (.tail _ (.tail _ (.tail _ (.tail _ (.tail _ (.tail _ (.head _)))))))) (l _ (.tail _ (.tail _ (.tail _ (.tail _ (.tail _ (.tail _ (.tail _ (.head _))))))))) (l _ (.tail _ (.tail _ (.tail _ (.tail _ (.tail _ (.tail _ (.tail _ (.tail _ (.head _)))))))))) (l _ (.tail _ (.tail _ (.tail _ (.tail _ (.tail _ (.tail _ (.tail _ (.tail _ (.tail _ (.head _))))))))))) (l _ (.tail _ (.tail _ (.tail _ (.tail _ (.tail _ (.tail _ (.tail _ (.tail _ (.tail _ (.tail _ (.head _)))))))))))) (l _ (.tail _ (.tail _ (.tail _ (.tail _ (.tail _ (.tail _ (.tail _ (.tail _ (.tail _ (.tail _ (.tail _ (.head _))))))))))))) (allLt_of fun p hp => l p (.tail _ (.tail _ (.tail _ (.tail _ (.tail _ (.tail _ (.tail _ (.tail _ (.tail _ (.tail _ (.tail _ (.tail _ hp)))))))))))))
theorem exC1 {α1 : Type} {p : α1 → Prop} {G : Prop} (h : ∃ x1, p x1) (k : ∀ x1, p x1 → G) : G := by obtain ⟨x1, h⟩ := h; exact k _ h
theorem exC2 {α1 α2 : Type} {p : α1 → α2 → Prop} {G : Prop} (h : ∃ x1 x2, p x1 x2) (k : ∀ x1 x2, p x1 x2 → G) : G := by obtain ⟨x1, x2, h⟩ := h; exact k _ _ h
theorem exC3 {α1 α2 α3 : Type} {p : α1 → α2 → α3 → Prop} {G : Prop} (h : ∃ x1 x2 x3, p x1 x2 x3) (k : ∀ x1 x2 x3, p x1 x2 x3 → G) : G := by obtain ⟨x1, x2, x3, h⟩ := h; exact k _ _ _ h
theorem exC4 {α1 α2 α3 α4 : Type} {p : α1 → α2 → α3 → α4 → Prop} {G : Prop} (h : ∃ x1 x2 x3 x4, p x1 x2 x3 x4) (k : ∀ x1 x2 x3 x4, p x1 x2 x3 x4 → G) : G := by obtain ⟨x1, x2, x3, x4, h⟩ := h; exact k _ _ _ _ h
theorem exC5 {α1 α2 α3 α4 α5 : Type} {p : α1 → α2 → α3 → α4 → α5 → Prop} {G : Prop} (h : ∃ x1 x2 x3 x4 x5, p x1 x2 x3 x4 x5) (k : ∀ x1 x2 x3 x4 x5, p x1 x2 x3 x4 x5 → G) : G := by obtain ⟨x1, x2, x3, x4, x5, h⟩ := h; exact k _ _ _ _ _ h
theorem exC6 {α1 α2 α3 α4 α5 α6 : Type} {p : α1 → α2 → α3 → α4 → α5 → α6 → Prop} {G : Prop} (h : ∃ x1 x2 x3 x4 x5 x6, p x1 x2 x3 x4 x5 x6) (k : ∀ x1 x2 x3 x4 x5 x6, p x1 x2 x3 x4 x5 x6 → G) : G := by obtain ⟨x1, x2, x3, x4, x5, x6, h⟩ := h; exact k _ _ _ _ _ _ h
theorem exC7 {α1 α2 α3 α4 α5 α6 α7 : Type} {p : α1 → α2 → α3 → α4 → α5 → α6 → α7 → Prop} {G : Prop} (h : ∃ x1 x2 x3 x4 x5 x6 x7, p x1 x2 x3 x4 x5 x6 x7) (k : ∀ x1 x2 x3 x4 x5 x6 x7, p x1 x2 x3 x4 x5 x6 x7 → G) : G := by obtain ⟨x1, x2, x3, x4, x5, x6, x7, h⟩ := h; exact k _ _ _ _ _ _ _ h
theorem exC8 {α1 α2 α3 α4 α5 α6 α7 α8 : Type} {p : α1 → α2 → α3 → α4 → α5 → α6 → α7 → α8 → Prop} {G : Prop} (h : ∃ x1 x2 x3 x4 x5 x6 x7 x8, p x1 x2 x3 x4 x5 x6 x7 x8) (k : ∀ x1 x2 x3 x4 x5 x6 x7 x8, p x1 x2 x3 x4 x5 x6 x7 x8 → G) : G := by obtain ⟨x1, x2, x3, x4, x5, x6, x7, x8, h⟩ := h; exact k _ _ _ _ _ _ _ _ h
theorem exC9 {α1 α2 α3 α4 α5 α6 α7 α8 α9 : Type} {p : α1 → α2 → α3 → α4 → α5 → α6 → α7 → α8 → α9 → Prop} {G : Prop} (h : ∃ x1 x2 x3 x4 x5 x6 x7 x8 x9, p x1 x2 x3 x4 x5 x6 x7 x8 x9) (k : ∀ x1 x2 x3 x4 x5 x6 x7 x8 x9, p x1 x2 x3 x4 x5 x6 x7 x8 x9 → G) : G := by obtain ⟨x1, x2, x3, x4, x5, x6, x7, x8, x9, h⟩ := h; exact k _ _ _ _ _ _ _ _ _ h
theorem exC10 {α1 α2 α3 α4 α5 α6 α7 α8 α9 α10 : Type} {p : α1 → α2 → α3 → α4 → α5 → α6 → α7 → α8 → α9 → α10 → Prop} {G : Prop} (h : ∃ x1 x2 x3 x4 x5 x6 x7 x8 x9 x10, p x1 x2 x3 x4 x5 x6 x7 x8 x9 x10) (k : ∀ x1 x2 x3 x4 x5 x6 x7 x8 x9 x10, p x1 x2 x3 x4 x5 x6 x7 x8 x9 x10 → G) : G := by obtain ⟨x1, x2, x3, x4, x5, x6, x7, x8, x9, x10, h⟩ := h; exact k _ _ _ _ _ _ _ _ _ _ h
theorem exC11 {α1 α2 α3 α4 α5 α6 α7 α8 α9 α10 α11 : Type} {p : α1 → α2 → α3 → α4 → α5 → α6 → α7 → α8 → α9 → α10 → α11 → Prop} {G : Prop} (h : ∃ x1 x2 x3 x4 x5 x6 x7 x8 x9 x10 x11, p x1 x2 x3 x4 x5 x6 x7 x8 x9 x10 x11) (k : ∀ x1 x2 x3 x4 x5 x6 x7 x8 x9 x10 x11, p x1 x2 x3 x4 x5 x6 x7 x8 x9 x10 x11 → G) : G := by obtain ⟨x1, x2, x3, x4, x5, x6, x7, x8, x9, x10, x11, h⟩ := h; exact k _ _ _ _ _ _ _ _ _ _ _ h
theorem exC12 {α1 α2 α3 α4 α5 α6 α7 α8 α9 α10 α11 α12 : Type} {p : α1 → α2 → α3 → α4 → α5 → α6 → α7 → α8 → α9 → α10 → α11 → α12 → Prop} {G : Prop} (h : ∃ x1 x2 x3 x4 x5 x6 x7 x8 x9 x10 x11 x12, p x1 x2 x3 x4 x5 x6 x7 x8 x9 x10 x11 x12) (k : ∀ x1 x2 x3 x4 x5 x6 x7 x8 x9 x10 x11 x12, p x1 x2 x3 x4 x5 x6 x7 x8 x9 x10 x11 x12 → G) : G := by obtain ⟨x1, x2, x3, x4, x5, x6, x7, x8, x9, x10, x11, x12, h⟩ := h; exact k _ _ _ _ _ _ _ _ _ _ _ _ h
theorem anC2 {A1 A2 G : Prop} (h : A1 ∧ A2) (k : A1 → A2 → G) : G := k h.1 h.2
theorem anC3 {A1 A2 A3 G : Prop} (h : A1 ∧ A2 ∧ A3) (k : A1 → A2 → A3 → G) : G := k h.1 h.2.1 h.2.2
theorem anC4 {A1 A2 A3 A4 G : Prop} (h : A1 ∧ A2 ∧ A3 ∧ A4) (k : A1 → A2 → A3 → A4 → G) : G := k h.1 h.2.1 h.2.2.1 h.2.2.2
theorem anC5 {A1 A2 A3 A4 A5 G : Prop} (h : A1 ∧ A2 ∧ A3 ∧ A4 ∧ A5) (k : A1 → A2 → A3 → A4 → A5 → G) : G := k h.1 h.2.1 h.2.2.1 h.2.2.2.1 h.2.2.2.2
theorem anC6 {A1 A2 A3 A4 A5 A6 G : Prop} (h : A1 ∧ A2 ∧ A3 ∧ A4 ∧ A5 ∧ A6) (k : A1 → A2 → A3 → A4 → A5 → A6 → G) : G := k h.1 h.2.1 h.2.2.1 h.2.2.2.1 h.2.2.2.2.1 h.2.2.2.2.2
theorem anC7 {A1 A2 A3 A4 A5 A6 A7 G : Prop} (h : A1 ∧ A2 ∧ A3 ∧ A4 ∧ A5 ∧ A6 ∧ A7) (k : A1 → A2 → A3 → A4 → A5 → A6 → A7 → G) : G := k h.1 h.2.1 h.2.2.1 h.2.2.2.1 h.2.2.2.2.1 h.2.2.2.2.2.1 h.2.2.2.2.2.2
theorem anC8 {A1 A2 A3 A4 A5 A6 A7 A8 G : Prop} (h : A1 ∧ A2 ∧ A3 ∧ A4 ∧ A5 ∧ A6 ∧ A7 ∧ A8) (k : A1 → A2 → A3 → A4 → A5 → A6 → A7 → A8 → G) : G := k h.1 h.2.1 h.2.2.1 h.2.2.2.1 h.2.2.2.2.1 h.2.2.2.2.2.1 h.2.2.2.2.2.2.1 h.2.2.2.2.2.2.2
theorem anC9 {A1 A2 A3 A4 A5 A6 A7 A8 A9 G : Prop} (h : A1 ∧ A2 ∧ A3 ∧ A4 ∧ A5 ∧ A6 ∧ A7 ∧ A8 ∧ A9) (k : A1 → A2 → A3 → A4 → A5 → A6 → A7 → A8 → A9 → G) : G := k h.1 h.2.1 h.2.2.1 h.2.2.2.1 h.2.2.2.2.1 h.2.2.2.2.2.1 h.2.2.2.2.2.2.1 h.2.2.2.2.2.2.2.1 h.2.2.2.2.2.2.2.2
theorem anC10 {A1 A2 A3 A4 A5 A6 A7 A8 A9 A10 G : Prop} (h : A1 ∧ A2 ∧ A3 ∧ A4 ∧ A5 ∧ A6 ∧ A7 ∧ A8 ∧ A9 ∧ A10) (k : A1 → A2 → A3 → A4 → A5 → A6 → A7 → A8 → A9 → A10 → G) : G := k h.1 h.2.1 h.2.2.1 h.2.2.2.1 h.2.2.2.2.1 h.2.2.2.2.2.1 h.2.2.2.2.2.2.1 h.2.2.2.2.2.2.2.1 h.2.2.2.2.2.2.2.2.1 h.2.2.2.2.2.2.2.2.2
theorem anC11 {A1 A2 A3 A4 A5 A6 A7 A8 A9 A10 A11 G : Prop} (h : A1 ∧ A2 ∧ A3 ∧ A4 ∧ A5 ∧ A6 ∧ A7 ∧ A8 ∧ A9 ∧ A10 ∧ A11) (k : A1 → A2 → A3 → A4 → A5 → A6 → A7 → A8 → A9 → A10 → A11 → G) : G := k h.1 h.2.1 h.2.2.1 h.2.2.2.1 h.2.2.2.2.1 h.2.2.2.2.2.1 h.2.2.2.2.2.2.1 h.2.2.2.2.2.2.2.1 h.2.2.2.2.2.2.2.2.1 h.2.2.2.2.2.2.2.2.2.1 h.2.2.2.2.2.2.2.2.2.2
theorem anC12 {A1 A2 A3 A4 A5 A6 A7 A8 A9 A10 A11 A12 G : Prop} (h : A1 ∧ A2 ∧ A3 ∧ A4 ∧ A5 ∧ A6 ∧ A7 ∧ A8 ∧ A9 ∧ A10 ∧ A11 ∧ A12) (k : A1 → A2 → A3 → A4 → A5 → A6 → A7 → A8 → A9 → A10 → A11 → A12 → G) : G := k h.1 h.2.1 h.2.2.1 h.2.2.2.1 h.2.2.2.2.1 h.2.2.2.2.2.1 h.2.2.2.2.2.2.1 h.2.2.2.2.2.2.2.1 h.2.2.2.2.2.2.2.2.1 h.2.2.2.2.2.2.2.2.2.1 h.2.2.2.2.2.2.2.2.2.2.1 h.2.2.2.2.2.2.2.2.2.2.2
theorem anC13 {A1 A2 A3 A4 A5 A6 A7 A8 A9 A10 A11 A12 A13 G : Prop} (h : A1 ∧ A2 ∧ A3 ∧ A4 ∧ A5 ∧ A6 ∧ A7 ∧ A8 ∧ A9 ∧ A10 ∧ A11 ∧ A12 ∧ A13) (k : A1 → A2 → A3 → A4 → A5 → A6 → A7 → A8 → A9 → A10 → A11 → A12 → A13 → G) : G := k h.1 h.2.1 h.2.2.1 h.2.2.2.1 h.2.2.2.2.1 h.2.2.2.2.2.1 h.2.2.2.2.2.2.1 h.2.2.2.2.2.2.2.1 h.2.2.2.2.2.2.2.2.1 h.2.2.2.2.2.2.2.2.2.1 h.2.2.2.2.2.2.2.2.2.2.1 h.2.2.2.2.2.2.2.2.2.2.2.1 h.2.2.2.2.2.2.2.2.2.2.2.2
theorem anC14 {A1 A2 A3 A4 A5 A6 A7 A8 A9 A10 A11 A12 A13 A14 G : Prop} (h : A1 ∧ A2 ∧ A3 ∧ A4 ∧ A5 ∧ A6 ∧ A7 ∧ A8 ∧ A9 ∧ A10 ∧ A11 ∧ A12 ∧ A13 ∧ A14) (k : A1 → A2 → A3 → A4 → A5 → A6 → A7 → A8 → A9 → A10 → A11 → A12 → A13 → A14 → G) : G := k h.1 h.2.1 h.2.2.1 h.2.2.2.1 h.2.2.2.2.1 h.2.2.2.2.2.1 h.2.2.2.2.2.2.1 h.2.2.2.2.2.2.2.1 h.2.2.2.2.2.2.2.2.1 h.2.2.2.2.2.2.2.2.2.1 h.2.2.2.2.2.2.2.2.2.2.1 h.2.2.2.2.2.2.2.2.2.2.2.1 h.2.2.2.2.2.2.2.2.2.2.2.2.1 h.2.2.2.2.2.2.2.2.2.2.2.2.2
theorem anC15 {A1 A2 A3 A4 A5 A6 A7 A8 A9 A10 A11 A12 A13 A14 A15 G : Prop} (h : A1 ∧ A2 ∧ A3 ∧ A4 ∧ A5 ∧ A6 ∧ A7 ∧ A8 ∧ A9 ∧ A10 ∧ A11 ∧ A12 ∧ A13 ∧ A14 ∧ A15) (k : A1 → A2 → A3 → A4 → A5 → A6 → A7 → A8 → A9 → A10 → A11 → A12 → A13 → A14 → A15 → G) : G := k h.1 h.2.1 h.2.2.1 h.2.2.2.1 h.2.2.2.2.1 h.2.2.2.2.2.1 h.2.2.2.2.2.2.1 h.2.2.2.2.2.2.2.1 h.2.2.2.2.2.2.2.2.1 h.2.2.2.2.2.2.2.2.2.1 h.2.2.2.2.2.2.2.2.2.2.1 h.2.2.2.2.2.2.2.2.2.2.2.1 h.2.2.2.2.2.2.2.2.2.2.2.2.1 h.2.2.2.2.2.2.2.2.2.2.2.2.2.1 h.2.2.2.2.2.2.2.2.2.2.2.2.2.2
theorem anC16 {A1 A2 A3 A4 A5 A6 A7 A8 A9 A10 A11 A12 A13 A14 A15 A16 G : Prop} (h : A1 ∧ A2 ∧ A3 ∧ A4 ∧ A5 ∧ A6 ∧ A7 ∧ A8 ∧ A9 ∧ A10 ∧ A11 ∧ A12 ∧ A13 ∧ A14 ∧ A15 ∧ A16) (k : A1 → A2 → A3 → A4 → A5 → A6 → A7 → A8 → A9 → A10 → A11 → A12 → A13 → A14 → A15 → A16 → G) : G := k h.1 h.2.1 h.2.2.1 h.2.2.2.1 h.2.2.2.2.1 h.2.2.2.2.2.1 h.2.2.2.2.2.2.1 h.2.2.2.2.2.2.2.1 h.2.2.2.2.2.2.2.2.1 h.2.2.2.2.2.2.2.2.2.1 h.2.2.2.2.2.2.2.2.2.2.1 h.2.2.2.2.2.2.2.2.2.2.2.1 h.2.2.2.2.2.2.2.2.2.2.2.2.1 h.2.2.2.2.2.2.2.2.2.2.2.2.2.1 h.2.2.2.2.2.2.2.2.2.2.2.2.2.2.1 h.2.2.2.2.2.2.2.2.2.2.2.2.2.2.2
theorem exI2 {α1 α2 : Type} {p : α1 → α2 → Prop} (x1 : α1) (x2 : α2) (h : p x1 x2) : ∃ x1 x2, p x1 x2 := ⟨x1, x2, h⟩
theorem exI3 {α1 α2 α3 : Type} {p : α1 → α2 → α3 → Prop} (x1 : α1) (x2 : α2) (x3 : α3) (h : p x1 x2 x3) : ∃ x1 x2 x3, p x1 x2 x3 := ⟨x1, x2, x3, h⟩
theorem exI4 {α1 α2 α3 α4 : Type} {p : α1 → α2 → α3 → α4 → Prop} (x1 : α1) (x2 : α2) (x3 : α3) (x4 : α4) (h : p x1 x2 x3 x4) : ∃ x1 x2 x3 x4, p x1 x2 x3 x4 := ⟨x1, x2, x3, x4, h⟩
theorem exI5 {α1 α2 α3 α4 α5 : Type} {p : α1 → α2 → α3 → α4 → α5 → Prop} (x1 : α1) (x2 : α2) (x3 : α3) (x4 : α4) (x5 : α5) (h : p x1 x2 x3 x4 x5) : ∃ x1 x2 x3 x4 x5, p x1 x2 x3 x4 x5 := ⟨x1, x2, x3, x4, x5, h⟩
theorem exI6 {α1 α2 α3 α4 α5 α6 : Type} {p : α1 → α2 → α3 → α4 → α5 → α6 → Prop} (x1 : α1) (x2 : α2) (x3 : α3) (x4 : α4) (x5 : α5) (x6 : α6) (h : p x1 x2 x3 x4 x5 x6) : ∃ x1 x2 x3 x4 x5 x6, p x1 x2 x3 x4 x5 x6 := ⟨x1, x2, x3, x4, x5, x6, h⟩
theorem exI7 {α1 α2 α3 α4 α5 α6 α7 : Type} {p : α1 → α2 → α3 → α4 → α5 → α6 → α7 → Prop} (x1 : α1) (x2 : α2) (x3 : α3) (x4 : α4) (x5 : α5) (x6 : α6) (x7 : α7) (h : p x1 x2 x3 x4 x5 x6 x7) : ∃ x1 x2 x3 x4 x5 x6 x7, p x1 x2 x3 x4 x5 x6 x7 := ⟨x1, x2, x3, x4, x5, x6, x7, h⟩
theorem exI8 {α1 α2 α3 α4 α5 α6 α7 α8 : Type} {p : α1 → α2 → α3 → α4 → α5 → α6 → α7 → α8 → Prop} (x1 : α1) (x2 : α2) (x3 : α3) (x4 : α4) (x5 : α5) (x6 : α6) (x7 : α7) (x8 : α8) (h : p x1 x2 x3 x4 x5 x6 x7 x8) : ∃ x1 x2 x3 x4 x5 x6 x7 x8, p x1 x2 x3 x4 x5 x6 x7 x8 := ⟨x1, x2, x3, x4, x5, x6, x7, x8, h⟩
theorem exI9 {α1 α2 α3 α4 α5 α6 α7 α8 α9 : Type} {p : α1 → α2 → α3 → α4 → α5 → α6 → α7 → α8 → α9 → Prop} (x1 : α1) (x2 : α2) (x3 : α3) (x4 : α4) (x5 : α5) (x6 : α6) (x7 : α7) (x8 : α8) (x9 : α9) (h : p x1 x2 x3 x4 x5 x6 x7 x8 x9) : ∃ x1 x2 x3 x4 x5 x6 x7 x8 x9, p x1 x2 x3 x4 x5 x6 x7 x8 x9 := ⟨x1, x2, x3, x4, x5, x6, x7, x8, x9, h⟩
theorem exI10 {α1 α2 α3 α4 α5 α6 α7 α8 α9 α10 : Type} {p : α1 → α2 → α3 → α4 → α5 → α6 → α7 → α8 → α9 → α10 → Prop} (x1 : α1) (x2 : α2) (x3 : α3) (x4 : α4) (x5 : α5) (x6 : α6) (x7 : α7) (x8 : α8) (x9 : α9) (x10 : α10) (h : p x1 x2 x3 x4 x5 x6 x7 x8 x9 x10) : ∃ x1 x2 x3 x4 x5 x6 x7 x8 x9 x10, p x1 x2 x3 x4 x5 x6 x7 x8 x9 x10 := ⟨x1, x2, x3, x4, x5, x6, x7, x8, x9, x10, h⟩
theorem exI11 {α1 α2 α3 α4 α5 α6 α7 α8 α9 α10 α11 : Type} {p : α1 → α2 → α3 → α4 → α5 → α6 → α7 → α8 → α9 → α10 → α11 → Prop} (x1 : α1) (x2 : α2) (x3 : α3) (x4 : α4) (x5 : α5) (x6 : α6) (x7 : α7) (x8 : α8) (x9 : α9) (x10 : α10) (x11 : α11) (h : p x1 x2 x3 x4 x5 x6 x7 x8 x9 x10 x11) : ∃ x1 x2 x3 x4 x5 x6 x7 x8 x9 x10 x11, p x1 x2 x3 x4 x5 x6 x7 x8 x9 x10 x11 := ⟨x1, x2, x3, x4, x5, x6, x7, x8, x9, x10, x11, h⟩
theorem exI12 {α1 α2 α3 α4 α5 α6 α7 α8 α9 α10 α11 α12 : Type} {p : α1 → α2 → α3 → α4 → α5 → α6 → α7 → α8 → α9 → α10 → α11 → α12 → Prop} (x1 : α1) (x2 : α2) (x3 : α3) (x4 : α4) (x5 : α5) (x6 : α6) (x7 : α7) (x8 : α8) (x9 : α9) (x10 : α10) (x11 : α11) (x12 : α12) (h : p x1 x2 x3 x4 x5 x6 x7 x8 x9 x10 x11 x12) : ∃ x1 x2 x3 x4 x5 x6 x7 x8 x9 x10 x11 x12, p x1 x2 x3 x4 x5 x6 x7 x8 x9 x10 x11 x12 := ⟨x1, x2, x3, x4, x5, x6, x7, x8, x9, x10, x11, x12, h⟩
theorem small_all {P : Int → Prop} {N : Nat} (d : ∀ k, k < N → P (k : Nat)) {g : Int} (h0 : 0 ≤ g) (h1 : g < (N : Nat)) : P g := by
  obtain ⟨k, rfl⟩ := Int.eq_ofNat_of_zero_le h0
  exact d k (Int.ofNat_lt.mp h1)
theorem ltm_gt {d a : Addr} {o : Obj} {D : Led} (h : AllLt d D) (m : (a, o) ∈ D) : @Ne Nat d a := Nat.ne_of_gt (ltAll h _ m)
theorem ltm_lt {d a : Addr} {o : Obj} {D : Led} (h : AllLt d D) (m : (a, o) ∈ D) : @Ne Nat a d := Nat.ne_of_lt (ltAll h _ m)
theorem lt5_all {P : Nat → Prop} (h0 : P 0) (h1 : P 1) (h2 : P 2) (h3 : P 3) (h4 : P 4) : ∀ i, i < 5 → P i := fun i h => by
  match i, h with
  | 0, _ => exact h0
  | 1, _ => exact h1
  | 2, _ => exact h2
  | 3, _ => exact h3
  | 4, _ => exact h4
theorem lt2_all {P : Nat → Prop} (h0 : P 0) (h1 : P 1) : ∀ i, i < 2 → P i := fun i h => by
  match i, h with
  | 0, _ => exact h0
  | 1, _ => exact h1
theorem lt3_all {P : Nat → Prop} (h0 : P 0) (h1 : P 1) (h2 : P 2) : ∀ i, i < 3 → P i := fun i h => by
  match i, h with
  | 0, _ => exact h0
  | 1, _ => exact h1
  | 2, _ => exact h2
theorem sub_step {n i : Nat} (h : i < n) : n - i = n - (i + 1) + 1 := by omega
end

theorem kw_lemw2 : True := by
  (k_with "lem;2" => first | ((first | (with_reducible refine' lt12 kl9 ?_; clear kl9; intro _ _ _ _ _ _ _ _ _ _ _ _ kl9) | (with_reducible refine' lt11 kl9 ?_; clear kl9; intro _ _ _ _ _ _ _ _ _ _ _ kl9) | (with_reducible refine' lt10 kl9 ?_; clear kl9; intro _ _ _ _ _ _ _ _ _ _ kl9) | (with_reducible refine' lt9 kl9 ?_; clear kl9; intro _ _ _ _ _ _ _ _ _ kl9) | (with_reducible refine' lt8 kl9 ?_; clear kl9; intro _ _ _ _ _ _ _ _ kl9) | (with_reducible refine' lt7 kl9 ?_; clear kl9; intro _ _ _ _ _ _ _ kl9) | (with_reducible refine' lt6 kl9 ?_; clear kl9; intro _ _ _ _ _ _ kl9) | (with_reducible refine' lt5 kl9 ?_; clear kl9; intro _ _ _ _ _ kl9) | (with_reducible refine' lt4 kl9 ?_; clear kl9; intro _ _ _ _ kl9) | (with_reducible refine' lt3 kl9 ?_; clear kl9; intro _ _ _ kl9) | (with_reducible refine' lt2 kl9 ?_; clear kl9; intro _ _ kl9) | (with_reducible refine' lt1 kl9 ?_; clear kl9; intro _ kl9) | (with_reducible refine' lt0 kl9 ?_; clear kl9; intro kl9)); (try ((with_reducible refine (?_ : (let lG : Prop := _; lG))); intro lG; (simp only [AllLt, and_true] at kl9); (repeat' (obtain ⟨_, kl9⟩ := kl9)); (try k_unfold)))) | fail)
  (k_with "lem;3" => first | (exact fun p hp => Nat.ne_of_lt (ltAll (by assumption) p hp)) | fail)
  trivial
local macro_rules | `(tactic| k_mem) => `(tactic| assumption)
local macro_rules | `(tactic| k_all) => `(tactic| assumption)
local macro_rules | `(tactic| k_lt $h:ident) => `(tactic| (revert $h:ident; intro $(Lean.mkIdent `kl9):ident; k_extra "lem;2"; (try (revert $(Lean.mkIdent `kl9):ident; intro $h:ident))))
local macro_rules | `(tactic| k_all) => `(tactic| k_extra "lem;3")
theorem kw_lem_1 : True := by
  (k_with "lem:1" => first | (k_here; (with_reducible refine (?_ : wpAny _ _ (pyIter (Value.ref _)) (fun it s₂ => TurnsAt _ _ _ _ _ _ _ _ _ it s₂) _ _)); (rename Fr _ _ _ _ => lF'); (rename News _ _ _ _ => lN'); (with_unfolding_all refine' iter_tupTurns (by rfl) lF' lN' ?km_lem1 ?k1_lem1 ?k2_lem1 ?_; (case km_lem1 => k_mem); (case k1_lem1 => exact rfl); (case k2_lem1 => exact rfl); k_whole); clear lF' lN'; intro i' l1; (try k_lt l1); (try dsimp only [List.map])) | fail)
  (k_with "lem:2" => first | (refine' unrEnd1 ?kF_lem2 ?kN_lem2 ?kC_lem2 ?kO_lem2 ?_; (case kF_lem2 => k_asm); (case kN_lem2 => k_asm); (case kC_lem2 => (repeat' (first | exact Cut.here | refine' Cut.there ?_))); (case kO_lem2 => k_all); k_whole) | fail)
  (k_with "lem:3" => first | (k_here; (with_reducible refine (?_ : wpAny _ _ (getMethod (Value.ref _) (Str.ofString "get") _) _ _ _)); k_dflt (refine' kdg_method (knd := PySem.strKind _ _) ?k1_lem3 ?k2_lem3 ?k3_lem3 ?_; (case k1_lem3 => k_asm); (case k2_lem3 => k_mem); (case k3_lem3 => k_asm))) | fail)
  (k_with "lem:4" => first | (k_here; k_dflt (first | (refine' kdg_get1 (knd := PySem.strKind _ _) ?k1_lem4 ?k2_lem4 ?k3_lem4 ?k4_lem4 (strKind_is _ _ _ _) _ ?k5_lem4 ?_; (case k1_lem4 => k_asm); (case k2_lem4 => k_mem); (case k3_lem4 => k_asm); (case k4_lem4 => k_asm); (case k5_lem4 => k_asm)) | (refine' kdg_get2 (knd := PySem.strKind _ _) ?k1_lem4 ?k2_lem4 ?k3_lem4 ?k4_lem4 (strKind_is _ _ _ _) _ ?k5_lem4 ?_; (case k1_lem4 => k_asm); (case k2_lem4 => k_mem); (case k3_lem4 => k_asm); (case k4_lem4 => k_asm); (case k5_lem4 => k_asm))); (try dsimp only [Option.getD])) | fail)
  (k_with "lem:6" => first | (k_here; k_dflt (refine' d_notin ?k1_lem6 ?k2_lem6 ?k3_lem6 ?k4_lem6 _ ?k5_lem6 ?_; (case k1_lem6 => k_asm); (case k2_lem6 => k_mem); (case k3_lem6 => k_asm); (case k4_lem6 => k_asm); (case k5_lem6 => k_asm)); (try dsimp only [Option.isSome, Bool.not_true, Bool.not_false])) | fail)
  (k_with "lem:7" => first | (k_here; (with_reducible refine (?_ : wpAny _ _ (subscriptTail _ _ (Value.ref _) (Value.str _ _)) _ _ _)); k_dflt (refine' kda_item (knd := PySem.strKind _ _) ?k1_lem7 ?k2_lem7 ?k3_lem7 (strKind_is _ _ _ _) ?k5_lem7 ?_; (case k1_lem7 => k_asm); (case k2_lem7 => k_mem); (case k3_lem7 => k_asm); (case k5_lem7 => k_asm))) | fail)
  (k_with "lem:8" => first | (k_here; (with_reducible refine (?_ : wpAny _ _ (subscriptTail _ (Expr.Slice none (some _) none _) _ _) _ _ _)); (refine' sl_ns (s := ⟨_, _, _, _, _⟩) ?k1_lem8 ?k2_lem8 ?k3_lem8 ?k4_lem8 ?_; (case k1_lem8 => k_asm); (case k2_lem8 => k_asm); (case k3_lem8 => assumption); (case k4_lem8 => assumption)); intro h' t' tk' F' N'; (try k_sweep)) | fail)
  (k_with "lem:9" => first | (k_here; (with_reducible refine (?_ : wpAny _ _ (subscriptTail _ (Expr.Slice (some _) none none _) _ _) _ _ _)); (refine' sl_sn (s := ⟨_, _, _, _, _⟩) ?k1_lem9 ?k2_lem9 ?k3_lem9 ?k4_lem9 ?_; (case k1_lem9 => k_asm); (case k2_lem9 => k_asm); (case k3_lem9 => assumption); (case k4_lem9 => assumption)); intro h' t' tk' F' N'; (try k_sweep)) | fail)
  (w_top off)
  trivial
section
-- part call
structure Call (w : World) (k : Nat) (f : Addr) (args : List Value) (D₀ : Led) (post : Value → Led → Prop) : Prop where
  run : ∀ {dp un : Nat} {gd : Option (List Code)} {cn : Str} {cs : Scope} {a : Addr} {ccd : Value} {cl : List (Str × Addr)} {outer : List Env} {A₀ : Around} {base h₀ : Heap} {L : Addr} {m : Str → Option Value} {sh : Heap} {sg : Array GenState} {sd : Drawn} {st : Nat} {so : OsState} {mean : ExcName → Option Value} {mg mb : Str → Option Value} {Q E : Value → Shared → Prop},
    Below A₀ base outer h₀ → Fr h₀ L sh m → (hd.heap_1 w.params).In h₀ → News h₀ L sh D₀ → Top vw lse mean mg mb h₀ → cs.kind = .function → dp + k < 690 → un + 30 * k < 9000 →
    (∀ v h' tk' D', Fr h₀ L h' m → News h₀ L h' D' → post v D' → Q v ⟨h', sg, sd, tk', so⟩) →
    wpAny (model PySem.Challenge.rw_pf0193_01.row.toRowW.prog w) (ktrTop dp un gd cn cs L a ccd cl outer) (call (.ref f) args) Q E ⟨sh, sg, sd, st, so⟩
theorem Call.use {w : World} {k : Nat} {f : Addr} {args : List Value} {D₀ all : Led} {post : Value → Led → Prop} (C : Call w k f args D₀ post)
    {dp un : Nat} {gd : Option (List Code)} {cn : Str} {cs : Scope} {a : Addr} {ccd : Value} {cl : List (Str × Addr)} {outer : List Env} {A₀ : Around} {base h₀ : Heap} {L : Addr} {m : Str → Option Value} {sh : Heap} {sg : Array GenState} {sd : Drawn} {st : Nat} {so : OsState} {mean : ExcName → Option Value} {mg mb : Str → Option Value} {Q E : Value → Shared → Prop}
    (B : Below A₀ base outer h₀) (F : Fr h₀ L sh m) (X : (hd.heap_1 w.params).In h₀) (N : News h₀ L sh all) (T : Top vw lse mean mg mb h₀) (hk : cs.kind = .function) (hd : dp + k < 690) (hu : un + 30 * k < 9000)
    (sub : ∀ p ∈ D₀, p ∈ all)
    (ret : ∀ v h' tk' D', Fr h₀ L h' m → News h₀ L h' D' → post v D' → Q v ⟨h', sg, sd, tk', so⟩) :
    wpAny (model PySem.Challenge.rw_pf0193_01.row.toRowW.prog w) (ktrTop dp un gd cn cs L a ccd cl outer) (call (.ref f) args) Q E ⟨sh, sg, sd, st, so⟩ :=
  C.run B F X (fun p hp => N p (sub p hp)) T hk hd hu ret
noncomputable def Fresh (all tl : Led) : Prop := ∀ p ∈ tl, ∀ q ∈ all, @Ne Nat q.1 p.1
theorem fresh_nil {all : Led} : Fresh all [] := fun p hp => nomatch hp
theorem fresh_cons {all tl : Led} {p : Addr × Obj} (h : AllLt p.1 all) (r : Fresh all tl) : Fresh all (p :: tl) := fun q hq => by
  rcases List.mem_cons.mp hq with rfl | hq
  · exact fun q hq => Nat.ne_of_lt (ltAll h q hq)
  · exact r q hq
theorem fresh_cons' {all tl : Led} {p : Addr × Obj} (h : ∀ q ∈ all, @Ne Nat q.1 p.1) (r : Fresh all tl) : Fresh all (p :: tl) := fun q hq => by
  rcases List.mem_cons.mp hq with rfl | hq
  · exact h
  · exact r q hq
theorem fresh_app {all a b : Led} (h : Fresh all a) (r : Fresh all b) : Fresh all (a ++ b) := fun q hq => (List.mem_append.mp hq).elim (h q) (r q)
theorem Fresh.sub {all all' tl : Led} (h : Fresh all tl) (k : ∀ p ∈ all', p ∈ all) : Fresh all' tl := fun p hp q hq => h p hp q (k q hq)
theorem allLt_up {a b : Nat} {D : Led} (h : AllLt a D) (l : a < b) : AllLt b D := allLt_of fun p hp => Nat.lt_trans (ltAll h p hp) l
theorem allLt_app {a : Nat} {D E : Led} : AllLt a (D ++ E) ↔ AllLt a D ∧ AllLt a E := by
  induction D with
  | nil => exact ⟨fun h => ⟨trivial, h⟩, fun h => h.2⟩
  | cons p r ih => exact ⟨fun h => ⟨⟨h.1, (ih.mp h.2).1⟩, (ih.mp h.2).2⟩, fun h => ⟨h.1.1, ih.mpr ⟨h.1.2, h.2⟩⟩⟩
theorem UpdF.app {d : Addr} {o : Obj} {r : Led} {g : Obj → Led} (u : UpdF d o r g) : ∀ {a : Led}, (∀ p ∈ a, p.1 ≠ d) → UpdF d o (a ++ r) (fun o' => a ++ g o')
  | [], _ => u
  | p :: a, h => .tail (h p (.head _)) (UpdF.app u fun q hq => h q (.tail _ hq))
theorem Upd.app {d : Addr} {o o' : Obj} {r r' : Led} (u : Upd d o o' r r') : ∀ {a : Led}, (∀ p ∈ a, p.1 ≠ d) → Upd d o o' (a ++ r) (a ++ r')
  | [], _ => u
  | p :: a, h => .tail (h p (.head _)) (Upd.app u fun q hq => h q (.tail _ hq))
theorem fresh_ne {all tl : Led} {d : Addr} {o : Obj} (f : Fresh all tl) (m : (d, o) ∈ all) : ∀ p ∈ tl, p.1 ≠ d := fun p hp => Ne.symm (f p hp _ m)
theorem sub_app {a b : Led} : ∀ p ∈ b, p ∈ a ++ b := fun _ h => List.mem_append_right _ h
theorem sub_cons {x : Addr × Obj} {b : Led} : ∀ p ∈ b, p ∈ x :: b := fun _ h => .tail _ h
noncomputable def Off (a : Addr) (D : Led) : Prop := ∀ p ∈ D, @Ne Nat p.1 a
theorem Cut.all {x : Addr × Obj} : ∀ {l l' : Led}, Cut x l l' → ∀ p ∈ x :: l', p ∈ l := fun c p hp => by
  rcases List.mem_cons.mp hp with rfl | hp
  · exact c.sub.1
  · exact c.sub.2 p hp
theorem news_cut {h₀ h : Heap} {L : Addr} {x : Addr × Obj} {l l' : Led} (c : Cut x l l') (N : News h₀ L h l) : News h₀ L h (x :: l') := fun p hp => N p (c.all p hp)
theorem rl_is : recursionLimit = 1000 := rfl
theorem room0 {d k n m : Nat} (h : d + k < n) (f : Nat.ble n m = true) : d < m := Nat.lt_of_lt_of_le (Nat.lt_of_le_of_lt (Nat.le_add_right _ _) h) (Nat.le_of_ble_eq_true f)
theorem room1 {d a k n m : Nat} (h : d + k < n) (e : Nat.ble a k = true) (f : Nat.ble n m = true) : d + a < m := Nat.lt_of_lt_of_le (Nat.lt_of_le_of_lt (Nat.add_le_add_left (Nat.le_of_ble_eq_true e) _) h) (Nat.le_of_ble_eq_true f)
theorem room2 {d a b k n m : Nat} (h : d + k < n) (e : Nat.ble (a + b) k = true) (f : Nat.ble n m = true) : d + a + b < m := Nat.add_assoc d a b ▸ room1 h e f
theorem room3 {d a b c k n m : Nat} (h : d + k < n) (e : Nat.ble (a + (b + c)) k = true) (f : Nat.ble n m = true) : d + a + b + c < m := by rw [Nat.add_assoc d a b, Nat.add_assoc d (a + b) c, Nat.add_assoc a b c]; exact room1 h e f
theorem room6 {d x k n m a j : Nat} (h : d + (x + k) < n) (e : Nat.ble (a + j) k = true) (f : Nat.ble n m = true) : d + a + (x + j) < m := by
  rw [Nat.add_assoc d a, Nat.add_left_comm a x j]
  exact Nat.lt_of_lt_of_le (Nat.lt_of_le_of_lt (Nat.add_le_add_left (Nat.add_le_add_left (Nat.le_of_ble_eq_true e) x) d) h) (Nat.le_of_ble_eq_true f)
theorem room6s {d y k n m a j : Nat} (h : d + (6 * (y + 1) + k) < n) (e : Nat.ble (a + j) (6 + k) = true) (f : Nat.ble n m = true) : d + a + (6 * y + j) < m :=
  room6 (x := 6 * y) (k := 6 + k) (Nat.add_assoc (6 * y) 6 k ▸ h) e f
theorem units6 {d x k n m a j : Nat} (h : d + 30 * (x + k) < n) (e : Nat.ble (a + 30 * j) (30 * k) = true) (f : Nat.ble n m = true) : d + a + 30 * (x + j) < m := by
  rw [Nat.mul_add] at h ⊢
  exact room6 h e f
theorem units6s {d y k n m a j : Nat} (h : d + 30 * (6 * (y + 1) + k) < n) (e : Nat.ble (a + 30 * j) (30 * (6 + k)) = true) (f : Nat.ble n m = true) : d + a + 30 * (6 * y + j) < m :=
  units6 (x := 6 * y) (k := 6 + k) (Nat.add_assoc (6 * y) 6 k ▸ h) e f
structure CallX (w : World) (k : Nat) (f : Addr) (args : List Value) (D₀ Dk : Led) (post : Value → Led → Prop) (bad : Addr → Prop) : Prop where
  run : ∀ {dp un : Nat} {gd : Option (List Code)} {cn : Str} {cs : Scope} {a : Addr} {ccd : Value} {cl : List (Str × Addr)} {outer : List Env} {A₀ : Around} {base h₀ : Heap} {L : Addr} {m : Str → Option Value} {sh : Heap} {sg : Array GenState} {sd : Drawn} {st : Nat} {so : OsState} {mean : ExcName → Option Value} {mg mb : Str → Option Value} {Q E : Value → Shared → Prop},
    Below A₀ base outer h₀ → Fr h₀ L sh m → (hd.heap_1 w.params).In h₀ → News h₀ L sh D₀ → Top vw lse mean mg mb h₀ → cs.kind = .function → dp + k < 690 → un + 30 * k < 9000 →
    (∀ v h' tk' D', Fr h₀ L h' m → News h₀ L h' D' → post v D' → Q v ⟨h', sg, sd, tk', so⟩) →
    (∀ ea C t vs h' tk' G, Fr h₀ L G m → G.UpToSlots h' → RaisedS base G (envX cn cs L a ccd cl :: outer) ea (.ref C) t vs Dk h' → bad C → E (.ref ea) ⟨h', sg, sd, tk', so⟩) →
    wpAny (model PySem.Challenge.rw_pf0193_01.row.toRowW.prog w) (ktrTop dp un gd cn cs L a ccd cl outer) (call (.ref f) args) Q E ⟨sh, sg, sd, st, so⟩
theorem CallX.use {w : World} {k : Nat} {f : Addr} {args : List Value} {D₀ Dk all : Led} {post : Value → Led → Prop} {bad : Addr → Prop} (C : CallX w k f args D₀ Dk post bad)
    {dp un : Nat} {gd : Option (List Code)} {cn : Str} {cs : Scope} {a : Addr} {ccd : Value} {cl : List (Str × Addr)} {outer : List Env} {A₀ : Around} {base h₀ : Heap} {L : Addr} {m : Str → Option Value} {sh : Heap} {sg : Array GenState} {sd : Drawn} {st : Nat} {so : OsState} {mean : ExcName → Option Value} {mg mb : Str → Option Value} {Q E : Value → Shared → Prop}
    (B : Below A₀ base outer h₀) (F : Fr h₀ L sh m) (X : (hd.heap_1 w.params).In h₀) (N : News h₀ L sh all) (T : Top vw lse mean mg mb h₀) (hk : cs.kind = .function) (hd : dp + k < 690) (hu : un + 30 * k < 9000)
    (sub : ∀ p ∈ D₀, p ∈ all)
    (ret : ∀ v h' tk' D', Fr h₀ L h' m → News h₀ L h' D' → post v D' → Q v ⟨h', sg, sd, tk', so⟩)
    (exc : ∀ ea C t vs h' tk' G, Fr h₀ L G m → G.UpToSlots h' → RaisedS base G (envX cn cs L a ccd cl :: outer) ea (.ref C) t vs Dk h' → bad C → E (.ref ea) ⟨h', sg, sd, tk', so⟩) :
    wpAny (model PySem.Challenge.rw_pf0193_01.row.toRowW.prog w) (ktrTop dp un gd cn cs L a ccd cl outer) (call (.ref f) args) Q E ⟨sh, sg, sd, st, so⟩ :=
  C.run B F X (fun p hp => N p (sub p hp)) T hk hd hu ret exc
theorem raisedS_sub {base G : Heap} {l : List Env} {e t : Addr} {cls : Value} {vs : List Value} {D D' : Led} {h : Heap} (R : RaisedS base G l e cls t vs D' h) (k : ∀ p ∈ D, p ∈ D') : RaisedS base G l e cls t vs D h := by
  obtain ⟨⟨B, hB, hBG, hl, hfl, hnew⟩, htup⟩ := R
  exact ⟨⟨B, hB, hBG, fun q hq => hl q (k q hq), hfl, hnew⟩, htup⟩
theorem Call.post {w : World} {k : Nat} {f : Addr} {args : List Value} {D₀ : Led} {P P' : Value → Led → Prop} (C : Call w k f args D₀ P) (h : ∀ v D', P v D' → P' v D') : Call w k f args D₀ P' :=
  ⟨fun B F X N T hk hd hu ret => C.run B F X N T hk hd hu fun v h' tk' D' F' N' p => ret v h' tk' D' F' N' (h _ _ p)⟩
theorem fold_tup {es : List Expr} {k : Nat} {pos : Pos} {env : Env} {x : Value} : foldedSetIterable (Expr.Tuple es k pos) env x = pure x := rfl
noncomputable def Fx (w : World) (h₀ : Heap) (L : Addr) (env : Env) : Prop := ∃ (cn : Str) (cs : Scope) (a : Addr) (ccd : Value) (cl : List (Str × Addr)) (mean : ExcName → Option Value) (mg mb : Str → Option Value),
  env = envX cn cs L a ccd cl ∧ cs.kind = .function ∧ (hd.heap_1 w.params).In h₀ ∧ Top vw lse mean mg mb h₀
theorem Fx.mk {w : World} {h₀ : Heap} {L a : Addr} {cn : Str} {cs : Scope} {ccd : Value} {cl : List (Str × Addr)} {mean : ExcName → Option Value} {mg mb : Str → Option Value} (X : (hd.heap_1 w.params).In h₀) (T : Top vw lse mean mg mb h₀) (hk : cs.kind = .function) : Fx w h₀ L (envX cn cs L a ccd cl) :=
  ⟨cn, cs, a, ccd, cl, mean, mg, mb, rfl, hk, X, T⟩
theorem enter_def {w : World} {A A₀ : Around} {sh : Heap} {sg : Array GenState} {sd : Drawn} {st : Nat} {so : OsState} {h₀ base : Heap} {L : Addr} {m mg mb : Str → Option Value} {news : Led} {mean : ExcName → Option Value}
    {env : Env} {outer : List Env} {R : Result → Shared → Prop} {name qual : Str} {params : Arguments} {body : List Stmt} {scope : Scope} {dV kV doc pm cdv ct oc : Value} {an od : Option Addr} {osl : Array (Option Value)} {f : Addr} {args : Args} {binds : List (Str × Value)}
    (B : Below A₀ base outer h₀) (F : Fr h₀ L sh m) (X₀ : (hd.heap_1 w.params).In h₀) (N : News h₀ L sh news) (T : Top vw lse mean mg mb h₀) (hA : A.frames = some (env :: outer)) (hf : env.frame = some L) (hke : env.scope.kind = .function)
    (ho : (hd.heap_1 w.params).lookup f = some ⟨oc, od, .func (fnOf name qual params body scope dV kV doc pm an cdv ct), osl⟩) (hcd : codeIn (hd.heap_1 w.params) cdv qual = true) (hroom : A.depth < recursionLimit)
    (hbind : BindsTo ⟨sh, sg, sd, st, so⟩ (fnOf name qual params body scope dV kV doc pm an cdv ct) args binds) (hloc : (binds.all fun x => decide (scope.names.lookup x.1 = some .local)) = true)
    (h : ∀ g L' h₁ tk, Fr h₀ L g m → (let m' : Str → Option Value := fun y => binds.reverse.lookup y; Fr g L' h₁ m' → News g L' h₁ news → Below A base (env :: outer) g → (hd.heap_1 w.params).In g → Top vw lse mean mg mb g → Fx w g L' (envOf qual scope L' f cdv) →
      (let A' : Around := A.deeper (envOf qual scope L' f cdv); wpAny (model PySem.Challenge.rw_pf0193_01.row.toRowW.prog w) A' (execs body (envOf qual scope L' f cdv))
        (fun fl s' => LeaveK h₀ L m g R (match fl with | .ret v => v | _ => .none) s')
        (fun e s' => wpAny (model PySem.Challenge.rw_pf0193_01.row.toRowW.prog w) A' (leaving (envOf qual scope L' f cdv) e) (fun _ s'' => R (.error e) s'') (fun e' s'' => R (.error e') s'') s')
        ⟨h₁, sg, sd, tk, so⟩)))
    (hco : scope.isCoroutine = false) (hgen : scope.isGenerator = false) (hk : scope.kind = .function)
    (hcell : ∀ x ∈ scope.names, x.2 ≠ .cell) : codeAny (model PySem.Challenge.rw_pf0193_01.row.toRowW.prog w) A (.call (.ref f) args) R ⟨sh, sg, sd, st, so⟩ :=
  code_def B F X₀ N T hA hf hke ho hcd hroom hbind (locs hloc) (fun g L' h₁ F1 F2 N' B' X' T' => h g L' h₁ _ F1 F2 N' B' X' T' (Fx.mk X' T' hk)) hco hgen hk hcell
section
variable {w : World} {A : Around} {E : Value → Shared → Prop} {sh : Heap} {sg : Array GenState} {sd : Drawn} {st : Nat} {so : OsState} {h₀ : Heap} {L a : Addr} {m : Str → Option Value} {cn : Str} {cs : Scope} {ccd : Value} {cl : List (Str × Addr)} {news : Led}
theorem sub_tup {x : Str} {px p1 p2 : Pos} {kd : Nat} {t : Addr} {l : List Value} {n : Nat} {k : Int} {j : Nat} {v : Value} {Q : Value → Shared → Prop} (F : Fr h₀ L sh m) (N : News h₀ L sh news) (hx : m x = some (.ref t))
    (ht : (t, ({ cls := .type "tuple", data := .seq l.toArray n } : Obj)) ∈ news) (hk : cs.kind = .function) (hl : Env.kindOf (envX cn cs L a ccd cl) x = some .local) (hdb : (x == S "__debug__") = false)
    (hi : (decide (-2 ^ 63 ≤ k) && decide (k < 2 ^ 63)) = true) (hj : seqIndex? k l.length = some j) (hv : l[j]? = some v)
    (h : ∀ tk, Q v ⟨sh, sg, sd, tk, so⟩) :
    wpAny (model PySem.Challenge.rw_pf0193_01.row.toRowW.prog w) A (eval (.Subscript (.Name x px) (.Constant (.int k) kd p1) p2) (envX cn cs L a ccd cl)) Q E ⟨sh, sg, sd, st, so⟩ := by
  have h1 := of_decide_eq_true (Bool.and_eq_true_iff.mp hi).1
  have h2 := of_decide_eq_true (Bool.and_eq_true_iff.mp hi).2
  exact Subscript_ (nameX_L F hx (wpAny_Constant_int (item_tupleT (News.isTup N ht) h1 h2 hj hv (h _))) hk hl hdb)
theorem store_let {x : Str} {v : Value} {Q : Unit → Shared → Prop} (F : Fr h₀ L sh m) (N : News h₀ L sh news) (hk : cs.kind = .function) (hl : Env.kindOf (envX cn cs L a ccd cl) x = some .local)
    (h : ∀ h' tk, (let m' : Str → Option Value := fun y => if y = x then some v else m y; Fr h₀ L h' m' → News h₀ L h' news → Q () ⟨h', sg, sd, tk, so⟩)) :
    wpAny (model PySem.Challenge.rw_pf0193_01.row.toRowW.prog w) A (storeName (envX cn cs L a ccd cl) x v) Q E ⟨sh, sg, sd, st, so⟩ :=
  storeX_L F N (fun h' F' N' => h h' _ F' N') hk hl
end
theorem fold1 {α : Type} {M : Model} {A : Around} {c : Sem α} {Q : α → Shared → Prop} {E : Value → Shared → Prop} {s : Shared} (k : let q : α → Shared → Prop := Q; wpAny M A c q E s) : wpAny M A c Q E s := k
theorem fold2 {α : Type} {M : Model} {A : Around} {c : Sem α} {Q : α → Shared → Prop} {E : Value → Shared → Prop} {s : Shared} (k : let q : α → Shared → Prop := Q; let e : Value → Shared → Prop := E; wpAny M A c q e s) : wpAny M A c Q E s := k
theorem len_app {a b : Str} {n m : Nat} (h : a.length ≤ n) (k : b.length ≤ m) : (a ++ b).length ≤ n + m := by rw [PySem.Str.length_append]; exact Nat.add_le_add h k
theorem len_le {a : Str} {n k : Nat} (h : a.length ≤ n) (b : Nat.ble n k = true) : a.length ≤ k := Nat.le_trans h (Nat.le_of_ble_eq_true b)
structure EV (w : World) (m : Str → Option Value) (env : Env) (news : Led) (e : Expr) (st : Nat) (v : Value) (st' : Nat) : Prop where
  rn : ∀ {A : Around} {E : Value → Shared → Prop} {sh : Heap} {sg : Array GenState} {sd : Drawn} {so : OsState} {h₀ : Heap} {L : Addr} {Q : Value → Shared → Prop}, Fx w h₀ L env → Fr h₀ L sh m → News h₀ L sh news → Q v ⟨sh, sg, sd, st', so⟩ → wpAny (model PySem.Challenge.rw_pf0193_01.row.toRowW.prog w) A (eval e env) Q E ⟨sh, sg, sd, st, so⟩
  star : ∀ (es : List Expr) (env' : Env), starEach (e :: es) env' = (false, eval e env') :: starEach es env'
section
variable {w : World} {m : Str → Option Value} {env : Env} {news : Led}
theorem EV.name {x : Str} {p : Pos} {st : Nat} {v : Value} (hl : env.kindOf x = some .local) (hx : m x = some v) (hdb : (x == S "__debug__") = false) : EV w m env news (.Name x p) st v st :=
  ⟨fun fx F _ h => by obtain ⟨cn, cs, a, ccd, cl, mean, mg, mb, rfl, hk, X, T⟩ := fx; exact nameX_L F hx h hk hl hdb, fun _ _ => rfl⟩
theorem EV.str {s : Str} {k : Nat} {p : Pos} {st : Nat} : EV w m env news (.Constant (.str s) k p) st (.str s st) st.succ := ⟨fun _ _ _ h => PySem.Calls.Constant_str h, fun _ _ => rfl⟩
theorem EV.int {s : Int} {k : Nat} {p : Pos} {st : Nat} : EV w m env news (.Constant (.int s) k p) st (.int s st) st.succ := ⟨fun _ _ _ h => wpAny_Constant_int h, fun _ _ => rfl⟩
theorem EV.glob {x : Str} {p : Pos} {st : Nat} {v : Value} (hl : env.kindOf x = some .globalImplicit) (e : nsIn (hd.heap_1 w.params) mainGlobals x = some (some v)) (hdb : (x == S "__debug__") = false) : EV w m env news (.Name x p) st v st :=
  ⟨fun fx F _ h => by obtain ⟨cn, cs, a, ccd, cl, mean, mg, mb, rfl, hk, X, T⟩ := fx; exact nameX_K F X (topRead_of T) e h hk hl hdb, fun _ _ => rfl⟩
theorem EV.boot {x : Str} {p : Pos} {st : Nat} {v : Value} (hl : env.kindOf x = some .globalImplicit) (e : nsIn (hd.heap_1 w.params) mainGlobals x = some none) (hv : bootBuiltins x = some v) (hn : x ≠ "__name__") (hdb : (x == S "__debug__") = false) : EV w m env news (.Name x p) st v st :=
  ⟨fun fx F _ h => by obtain ⟨cn, cs, a, ccd, cl, mean, mg, mb, rfl, hk, X, T⟩ := fx; exact nameX_B F X (topRead_of T) e hv hn h hk hl hdb, fun _ _ => rfl⟩
theorem EV.cell {x : Str} {p : Pos} {st : Nat} {v : Value} {c : Addr} {o : Obj} (hl : env.kindOf x = some .cell) (hc : env.cells.lookup x = some c) (hm : (c, o) ∈ news) (hd : o.data = .cell (some v)) (hdb : (x == S "__debug__") = false) : EV w m env news (.Name x p) st v st :=
  ⟨fun fx _ N h => by obtain ⟨cn, cs, a, ccd, cl, mean, mg, mb, rfl, hk, X, T⟩ := fx; exact nameX_C N hc hm hd h hk hl hdb, fun _ _ => rfl⟩
theorem EV.tup {x : Str} {px p1 p2 : Pos} {kk : Nat} {t : Addr} {l : List Value} {n : Nat} {k : Int} {j st : Nat} {v : Value} (hl : env.kindOf x = some .local) (hx : m x = some (.ref t)) (ht : (t, ({ cls := .type "tuple", data := .seq l.toArray n } : Obj)) ∈ news)
    (hi : (decide (-2 ^ 63 ≤ k) && decide (k < 2 ^ 63)) = true) (hj : seqIndex? k l.length = some j) (hv : l[j]? = some v) (hdb : (x == S "__debug__") = false) : EV w m env news (.Subscript (.Name x px) (.Constant (.int k) kk p1) p2) st v st.succ :=
  ⟨fun fx F N h => by
    refine exC8 fx ?_; (try clear fx); intro cn cs a ccd cl mean mg mb hR; refine anC4 hR ?_; clear hR; intro hO8 hk X T; subst hO8
    exact Subscript_ (nameX_L F hx (wpAny_Constant_int (item_tupleT (News.isTup N ht) (of_decide_eq_true (Bool.and_eq_true_iff.mp hi).1) (of_decide_eq_true (Bool.and_eq_true_iff.mp hi).2) hj hv h)) hk hl hdb), fun _ _ => rfl⟩
theorem EV.attr {x nm : Str} {px p1 : Pos} {t dx C : Addr} {es : List DictEntry} {n st : Nat} {at' : Option Value} {v : Value} (hl : env.kindOf x = some .local) (hx : m x = some (.ref t)) (m1 : (t, instObj C dx) ∈ news) (m2 : (dx, dictOf es n) ∈ news)
    (hp : plainGet (hd.heap_1 w.params) C nm = true) (hq : hasDictIn (hd.heap_1 w.params) C = true) (hf : findIn (hd.heap_1 w.params) (.ref C) nm = some at') (hn : noGet (hd.heap_1 w.params) at' = true) (hg : getL nm es = some (some v)) (hh : handedIn v = true)
    (hdb : (x == S "__debug__") = false) : EV w m env news (.Attribute (.Name x px) nm p1) st v st.succ :=
  ⟨fun fx F N h => by obtain ⟨cn, cs, a, ccd, cl, mean, mg, mb, rfl, hk, X, T⟩ := fx; exact Attribute_Name_ (nameX_L F hx (get_own F X (InstAt.of_news N m1 m2) hp hq hf hn hg hh h) hk hl hdb), fun _ _ => rfl⟩
structure EVs (w : World) (m : Str → Option Value) (env : Env) (news : Led) (es : List Expr) (st : Nat) (vs : List Value) (st' : Nat) : Prop where
  rn : ∀ {A : Around} {E : Value → Shared → Prop} {sh : Heap} {sg : Array GenState} {sd : Drawn} {so : OsState} {h₀ : Heap} {L : Addr} {pos : Pos} {Q : List Value → Shared → Prop}, Fx w h₀ L env → Fr h₀ L sh m → News h₀ L sh news → Q vs ⟨sh, sg, sd, st', so⟩ → wpAny (model PySem.Challenge.rw_pf0193_01.row.toRowW.prog w) A (spliced (backTo pos (starEach es env))) Q E ⟨sh, sg, sd, st, so⟩
  pl : ∀ (pos : Pos) (env' : Env), (backTo pos (starEach es env')).any (·.1) = false
  star : ∀ (e : Expr) (r : List Expr) (env' : Env), es = e :: r → starEach es env' = (false, eval e env') :: starEach r env'
theorem EVs.nil {st : Nat} : EVs w m env news [] st [] st := ⟨fun _ _ _ h => args_nil h, fun _ _ => rfl, fun _ _ _ h => nomatch h⟩
theorem EVs.cons {e : Expr} {es : List Expr} {st s1 s2 : Nat} {v : Value} {vs : List Value} (h : EV w m env news e st v s1) (r : EVs w m env news es s1 vs s2) : EVs w m env news (e :: es) st (v :: vs) s2 :=
  ⟨fun fx F N k => args_cons (h.rn fx F N (r.rn fx F N k)) (h.star _ _), fun p env' => by rw [h.star]; exact r.pl p env', fun _ _ env' q => by cases q; exact h.star _ env'⟩
end
section
variable {w : World} {A : Around} {E : Value → Shared → Prop} {sh : Heap} {sg : Array GenState} {sd : Drawn} {so : OsState} {h₀ : Heap} {L : Addr} {m : Str → Option Value} {env : Env} {news : Led}
theorem EV.run (fx : Fx w h₀ L env) (F : Fr h₀ L sh m) (N : News h₀ L sh news) {e : Expr} {st st' : Nat} {v : Value} {Q : Value → Shared → Prop} (r : EV w m env news e st v st') (h : Q v ⟨sh, sg, sd, st', so⟩) : wpAny (model PySem.Challenge.rw_pf0193_01.row.toRowW.prog w) A (eval e env) Q E ⟨sh, sg, sd, st, so⟩ := r.rn fx F N h
theorem EVs.run (fx : Fx w h₀ L env) (F : Fr h₀ L sh m) (N : News h₀ L sh news) {es : List Expr} {st st' : Nat} {vs : List Value} {pos : Pos} {Q : List Value → Shared → Prop} (r : EVs w m env news es st vs st') (h : Q vs ⟨sh, sg, sd, st', so⟩) : wpAny (model PySem.Challenge.rw_pf0193_01.row.toRowW.prog w) A (spliced (backTo pos (starEach es env))) Q E ⟨sh, sg, sd, st, so⟩ := r.rn fx F N h
theorem EVs.plain {e : Expr} {es : List Expr} {st st' : Nat} {vs : List Value} (r : EVs w m env news (e :: es) st vs st') (pos : Pos) : (backTo pos (starEach es env)).any (·.1) = false := by
  have h := r.pl pos env
  rw [r.star e es env rfl] at h
  exact h
theorem call_K {f : Str} {fp pos : Pos} {fv : Value} {e : Expr} {es : List Expr} {st st' : Nat} {vs : List Value} {Q : Value → Shared → Prop} (fx : Fx w h₀ L env) (F : Fr h₀ L sh m) (N : News h₀ L sh news) (r : EVs w m env news (e :: es) st vs st')
    (hl : env.kindOf f = some .globalImplicit) (hf : nsIn (hd.heap_1 w.params) mainGlobals f = some (some fv)) (hdb : (f == S "__debug__") = false) (hkp : keepIn (hd.heap_1 w.params) fv = true)
    (h : wpAny (model PySem.Challenge.rw_pf0193_01.row.toRowW.prog w) A (call fv vs) Q E ⟨sh, sg, sd, st', so⟩) : wpAny (model PySem.Challenge.rw_pf0193_01.row.toRowW.prog w) A (eval (.Call (.Name f fp) (e :: es) [] pos) env) Q E ⟨sh, sg, sd, st, so⟩ := by
  refine exC8 (id fx) ?_; intro _ _ _ _ _ _ _ _ hR; refine anC4 hR ?_; clear hR; intro _ _ X _
  exact Call_ ((EV.glob (news := news) hl hf hdb).rn fx F N (callWith_K X hkp (r.rn fx F N ⟨X.keeps F.keep, h⟩) (r.star _ _ _ rfl) (r.plain _)))
theorem call_T {f : Str} {fp pos : Pos} {ty : String} {e : Expr} {es : List Expr} {st st' : Nat} {vs : List Value} {Q : Value → Shared → Prop} (fx : Fx w h₀ L env) (F : Fr h₀ L sh m) (N : News h₀ L sh news) (r : EVs w m env news (e :: es) st vs st')
    (rf : EV w m env news (.Name f fp) st (.type ty) st) (h : wpAny (model PySem.Challenge.rw_pf0193_01.row.toRowW.prog w) A (call (.type ty) vs) Q E ⟨sh, sg, sd, st', so⟩) : wpAny (model PySem.Challenge.rw_pf0193_01.row.toRowW.prog w) A (eval (.Call (.Name f fp) (e :: es) [] pos) env) Q E ⟨sh, sg, sd, st, so⟩ :=
  Call_ (rf.rn fx F N (PySem.Pv.callWith_type1 (r.rn fx F N h) (r.star _ _ _ rfl) (r.plain _)))
theorem call_B {f : Str} {fp pos : Pos} {ty : String} {e : Expr} {es : List Expr} {st st' : Nat} {vs : List Value} {Q : Value → Shared → Prop} (fx : Fx w h₀ L env) (F : Fr h₀ L sh m) (N : News h₀ L sh news) (r : EVs w m env news (e :: es) st vs st')
    (rf : EV w m env news (.Name f fp) st (.builtin ty) st) (h : wpAny (model PySem.Challenge.rw_pf0193_01.row.toRowW.prog w) A (call (.builtin ty) vs) Q E ⟨sh, sg, sd, st', so⟩) : wpAny (model PySem.Challenge.rw_pf0193_01.row.toRowW.prog w) A (eval (.Call (.Name f fp) (e :: es) [] pos) env) Q E ⟨sh, sg, sd, st, so⟩ :=
  Call_ (rf.rn fx F N (callWith_builtin1 (r.rn fx F N h) (r.star _ _ _ rfl) (r.plain _)))
theorem callM {pos : Pos} {id : String} {x : Value} {e : Expr} {es : List Expr} {st st' : Nat} {vs : List Value} {Q : Value → Shared → Prop} (fx : Fx w h₀ L env) (F : Fr h₀ L sh m) (N : News h₀ L sh news)
    (r : EVs w m env news (e :: es) st vs st') (h : wpAny (model PySem.Challenge.rw_pf0193_01.row.toRowW.prog w) A (call (.builtin id) (x :: vs)) Q E ⟨sh, sg, sd, st', so⟩) : wpAny (model PySem.Challenge.rw_pf0193_01.row.toRowW.prog w) A (callWith pos (.builtin id) [x] (backTo pos (starEach (e :: es) env)) []) Q E ⟨sh, sg, sd, st, so⟩ :=
  callWith_method1 (r.rn fx F N h) (r.star _ _ _ rfl) (r.plain _)
theorem callO {pos : Pos} {fv x : Value} {e : Expr} {es : List Expr} {st st' : Nat} {vs : List Value} {Q : Value → Shared → Prop} (fx : Fx w h₀ L env) (F : Fr h₀ L sh m) (N : News h₀ L sh news)
    (r : EVs w m env news (e :: es) st vs st') (hkp : keepIn (hd.heap_1 w.params) fv = true) (h : wpAny (model PySem.Challenge.rw_pf0193_01.row.toRowW.prog w) A (call fv (x :: vs)) Q E ⟨sh, sg, sd, st', so⟩) : wpAny (model PySem.Challenge.rw_pf0193_01.row.toRowW.prog w) A (callWith pos fv [x] (backTo pos (starEach (e :: es) env)) []) Q E ⟨sh, sg, sd, st, so⟩ := by
  refine exC8 (id fx) ?_; intro _ _ _ _ _ _ _ _ hR; refine anC4 hR ?_; clear hR; intro _ _ X _
  exact callWith_K X hkp (r.rn fx F N ⟨X.keeps F.keep, h⟩) (r.star _ _ _ rfl) (r.plain _)
theorem ev_bin {l r : Expr} {op : Operator} {pos : Pos} {st s1 s2 : Nat} {v u : Value} {Q : Value → Shared → Prop} (fx : Fx w h₀ L env) (F : Fr h₀ L sh m) (N : News h₀ L sh news)
    (rl : EV w m env news l st v s1) (rr : EV w m env news r s1 u s2) (h : wpAny (model PySem.Challenge.rw_pf0193_01.row.toRowW.prog w) A (binaryOp op v u) Q E ⟨sh, sg, sd, s2, so⟩) : wpAny (model PySem.Challenge.rw_pf0193_01.row.toRowW.prog w) A (eval (.BinOp l op r pos) env) Q E ⟨sh, sg, sd, st, so⟩ :=
  wpAny_BinOp (rl.rn fx F N (rr.rn fx F N h))
theorem ev_cmpT {l r whole} {op : CmpOp} {pos : Pos} {st s1 s2 : Nat} {v u : Value} {Q : Bool → Shared → Prop} (fx : Fx w h₀ L env) (F : Fr h₀ L sh m) (N : News h₀ L sh news)
    (rl : EV w m env news l st v s1) (rr : EV w m env news r s1 u s2) (hm : behindInMarks op r = false) (h : wpAny (model PySem.Challenge.rw_pf0193_01.row.toRowW.prog w) A (compareOp op v u) (fun c s₃ => wpAny (model PySem.Challenge.rw_pf0193_01.row.toRowW.prog w) A (truthy c) Q E s₃) E ⟨sh, sg, sd, s2, so⟩) : wpAny (model PySem.Challenge.rw_pf0193_01.row.toRowW.prog w) A (isTrue (.Compare l [op] [r] pos) env whole) Q E ⟨sh, sg, sd, st, so⟩ :=
  wpAny_isTrue_Compare1 (rl.rn fx F N (rr.rn fx F N h)) hm
theorem ev_ret {e : Expr} {pos : Pos} {st s1 : Nat} {v : Value} {Q : Flow → Shared → Prop} (fx : Fx w h₀ L env) (F : Fr h₀ L sh m) (N : News h₀ L sh news)
    (rl : EV w m env news e st v s1) (h : Q (.ret v) ⟨sh, sg, sd, s1, so⟩) : wpAny (model PySem.Challenge.rw_pf0193_01.row.toRowW.prog w) A (exec (.Return (some e) pos) env) Q E ⟨sh, sg, sd, st, so⟩ :=
  wpAny_Return_some (rl.rn fx F N h)
theorem store_fx {x : Str} {v : Value} {st : Nat} {Q : Unit → Shared → Prop} (fx : Fx w h₀ L env) (F : Fr h₀ L sh m) (N : News h₀ L sh news) (hl : env.kindOf x = some .local)
    (h : ∀ h' tk, (let m' : Str → Option Value := fun y => if y = x then some v else m y; Fr h₀ L h' m' → News h₀ L h' news → Q () ⟨h', sg, sd, tk, so⟩)) :
    wpAny (model PySem.Challenge.rw_pf0193_01.row.toRowW.prog w) A (storeName env x v) Q E ⟨sh, sg, sd, st, so⟩ := by
  refine exC8 fx ?_; (try clear fx); intro _ _ _ _ _ _ _ _ hR; refine anC4 hR ?_; clear hR; intro hO8 hk _ _; subst hO8
  exact store_let F N hk hl h
theorem ev_asg {x : Str} {px pos : Pos} {e : Expr} {st s1 : Nat} {v : Value} {Q : Flow → Shared → Prop} (fx : Fx w h₀ L env) (F : Fr h₀ L sh m) (N : News h₀ L sh news)
    (rl : EV w m env news e st v s1) (hl : env.kindOf x = some .local) (hs : swapsWith e (some (.Name x px)) pos.line env = pure false)
    (h : ∀ h' tk, (let m' : Str → Option Value := fun y => if y = x then some v else m y; Fr h₀ L h' m' → News h₀ L h' news → Q .next ⟨h', sg, sd, tk, so⟩)) : wpAny (model PySem.Challenge.rw_pf0193_01.row.toRowW.prog w) A (exec (.Assign [.Name x px] e pos) env) Q E ⟨sh, sg, sd, st, so⟩ :=
  wpAny_Assign_Name (rl.rn fx F N (store_fx fx F N hl h)) hs
end
end

theorem reset_spec : True := by
  (w_top off)
  trivial
section
-- part spec
inductive Res where
  | ok (t : T) | limit | sheet
noncomputable def tailS (y : Str) : Str := Txt.slice y (some 1) none
noncomputable def linkName (ws : Ws) : Option Str := (match wsGet ws (S "href") with | some v => some v | none => wsGet ws (S "xlink:href")).map tailS
noncomputable def lookT (ids : List (Str × T)) (nm : Str) : Option T := (ids.find? fun p => p.1 = nm).map (·.2)
noncomputable def getOr (ws : Ws) (k d : Str) : Str := (wsGet ws k).getD d
noncomputable def placeS (ws : Ws) : Str := S "translate(" ++ getOr ws (S "x") (S "0") ++ S " " ++ getOr ws (S "y") (S "0") ++ S ")"
noncomputable def turnS (ws : Ws) : Str := match wsGet ws (S "transform") with | some t => t ++ S " " ++ placeS ws | none => placeS ws
noncomputable def groupWs (ws : Ws) : Ws := (ws.filter fun p => p.1 = S "fill") ++ [(S "transform", turnS ws)]
noncomputable def frW1 (ws : Ws) (t : T) (k : Str) (acc : Ws) : Ws := match wsGet ws k with | some v => wsPut acc k v | none => if t.name = S "symbol" then wsPut acc k (S "100%") else acc
noncomputable def framedT (ws : Ws) (t : T) : T := if t.name = S "symbol" ∨ t.name = S "svg" then .mk (S "svg") (frW1 ws t (S "height") (frW1 ws t (S "width") t.ws)) t.kids t.text else t
noncomputable def kidsF (f : T → Nat → Res × Nat) : List T → Nat → (List T ⊕ Res) × Nat
  | [], made => (.inl [], made)
  | t :: ts, made => match f t made with
    | (.ok t', made') => (match kidsF f ts made' with
      | (.inl r, m) => (.inl (t' :: r), m)
      | (.inr e, m) => (.inr e, m))
    | (e, made') => (.inr e, made')
noncomputable def bad50 (ws : Ws) : Bool := wsGet ws (S "y") == some (S "50%")
noncomputable def putF (ids : List (Str × T)) (most : Nat) : Nat → T → List Str → Nat → Res × Nat
  | 0, _, _, made => (.limit, made)
  | n + 1, t, names, made =>
    if made + 1 > most then (.limit, made + 1)
    else if t.name = S "use" then
      match linkName t.ws with
      | none => (.sheet, made + 1)
      | some nm => match lookT ids nm with
        | none => (.sheet, made + 1)
        | some tgt => if nm ∈ names ∨ 12 ≤ names.length then (.limit, made + 1)
          else match putF ids most n (framedT t.ws tgt) (names ++ [nm]) (made + 1) with
            | (.ok t', made') => if bad50 t.ws then (.sheet, made') else (.ok (.mk (S "g") (groupWs t.ws) [t'] (S "")), made')
            | e => e
    else match kidsF (fun c m => putF ids most n c names m) t.kids (made + 1) with
      | (.inl r, m) => (.ok (.mk t.name t.ws r t.text), m)
      | (.inr e, m) => (e, m)
-- what the turns of a loop over the children have gathered
noncomputable def pre (outs : List T) : (List T ⊕ Res) × Nat → (List T ⊕ Res) × Nat
  | (.inl r, m) => (.inl (outs ++ r), m)
  | (.inr e, m) => (.inr e, m)
theorem pre_step {f : T → Nat → Res × Nat} {t t' : T} {ts outs : List T} {made made' : Nat} (h : f t made = (.ok t', made')) : pre outs (kidsF f (t :: ts) made) = pre (outs ++ [t']) (kidsF f ts made') := by
  show pre outs (match f t made with | (.ok t', made') => _ | (e, made') => _) = _
  rw [h]
  dsimp only
  cases kidsF f ts made' with
  | mk a m => cases a with
    | inl r => simp [pre]
    | inr e => simp [pre]
theorem pre_nil (outs : List T) (f : T → Nat → Res × Nat) (made : Nat) : pre outs (kidsF f [] made) = (.inl outs, made) := by simp [pre, kidsF]
theorem pre_limit {f : T → Nat → Res × Nat} {t : T} {ts outs : List T} {made made' : Nat} (h : f t made = (.limit, made')) : pre outs (kidsF f (t :: ts) made) = (.inr .limit, made') := by
  show pre outs (match f t made with | (.ok t', made') => _ | (e, made') => _) = _
  rw [h]; rfl
theorem pre_sheet {f : T → Nat → Res × Nat} {t : T} {ts outs : List T} {made made' : Nat} (h : f t made = (.sheet, made')) : pre outs (kidsF f (t :: ts) made) = (.inr .sheet, made') := by
  show pre outs (match f t made with | (.ok t', made') => _ | (e, made') => _) = _
  rw [h]; rfl
theorem kidsF_nores {f : T → Nat → Res × Nat} : ∀ {ts : List T} {made m : Nat} {t : T}, kidsF f ts made ≠ (.inr (.ok t), m)
  | [], _, _, _ => by intro h; cases h
  | c :: ts, made, m, t => by
    intro h
    unfold kidsF at h
    cases hc : f c made with
    | mk r m' =>
      rw [hc] at h
      cases r with
      | ok t' =>
        dsimp only at h
        cases hk : kidsF f ts m' with
        | mk a m'' =>
          rw [hk] at h
          cases a with
          | inl r => cases h
          | inr e =>
            dsimp only at h
            cases h
            exact kidsF_nores hk
      | limit => cases h
      | sheet => cases h
-- how far the walk may go
mutual
noncomputable def height : T → Nat
  | .mk _ _ k _ => heights k + 1
noncomputable def heights : List T → Nat
  | [] => 0
  | t :: ts => max (height t) (heights ts)
end
noncomputable def rank (t : T) (names : List Str) : Nat := height t + 2 * (12 - names.length)
theorem height_kid : ∀ {ts : List T} {t : T}, t ∈ ts → height t ≤ heights ts
  | _ :: _, t, h => by
    unfold heights
    rcases List.mem_cons.mp h with rfl | h
    · omega
    · have := height_kid h; omega
end

theorem reset_exc : True := by
  (w_top off)
  trivial
section
-- part exc
section
variable {M : Model} {A : Around} {E : Value → Shared → Prop} {h : Heap} {g : Array GenState} {d : Drawn} {t : Nat} {os : OsState}
variable {nm q : Str} {C N P : Addr} {bs bmB : List Value} {hdct : Bool} {sn : List Str} {sub : List Value} {ab : Bool} {col : Option Bool} {dd : Option Addr} {k0 k1 k2 k3 k5 : Option Value} {B newId initId : String}
theorem hasP {X : String} {b : Bool} (hb : bmB.contains (.type X) = b) : (Value.ref C :: Value.ref P :: bmB).contains (.type X) = b := by
  rw [List.contains_cons, List.contains_cons, hb]; rfl
theorem hcont_of {X : String} (hb : bmB.contains (.type X) = true) : (Value.ref P :: bmB).contains (.type X) = true := by
  rw [List.contains_cons, hb, Bool.or_true]
theorem x_check_new (F : ExcBaseFacts B newId initId bmB) {rest : List Value} {Q : Unit → Shared → Prop} (hC : h.get? C = some (excClassObj nm q C N bs (.ref P :: bmB) hdct sn sub ab col dd k0 k1 k2 k3 k5 newId)) (hq : Q () ⟨h, g, d, t, os⟩) :
    wpAny M A (checkBuiltinCall newId ⟨.ref C :: rest, []⟩) Q E ⟨h, g, d, t, os⟩ :=
  wpAny_check_new_subU (bmB := .ref P :: bmB) F (hcont_of F.hasB) OwnTail.base hC hq
end
section
variable {prog : Program} {w : World} {A : Around} {R : Result → Shared → Prop} {E : Value → Shared → Prop} {h : Heap} {g : Array GenState} {d : Drawn} {t : Nat} {os : OsState}
variable {nm q : Str} {C N P : Addr} {bs bmB : List Value} {hdct : Bool} {sn : List Str} {sub : List Value} {ab : Bool} {col : Option Bool} {dd : Option Addr} {k0 k1 k2 k3 k5 : Option Value} {B newId initId : String}
theorem x_exc_new (F : ExcBaseFacts B newId initId bmB) {rest : List Value} (hC : h.get? C = some (excClassObj nm q C N bs (.ref P :: bmB) hdct sn sub ab col dd k0 k1 k2 k3 k5 newId))
    (hq : R (.ok (.ret (.ref (h.objs.size + 1)))) ⟨(h.push { cls := .type "tuple", data := .seq rest.toArray }).push { cls := .ref C, data := .fields #[.ref h.objs.size, .none, .none, .none, .bool false, .none] }, g, d, t, os⟩) (hrest : rest.length ≤ sizeLine) :
    codeAny (model prog w) A (.builtin newId ⟨.ref C :: rest, []⟩) R ⟨h, g, d, t, os⟩ := by
  have hends := F.ends
  have hcB := hasP (C := C) (P := P) F.hasB
  have hcA := hasP (C := C) (P := P) F.noAttr
  have hcN := hasP (C := C) (P := P) F.noName
  refine codeAny_builtinAt F.entry ?_
  unfold Builtin.«BaseException.__new__»
  refine PySem.wpAt_bind ?_
  show PySem.wpAt _ _ _ (stack >>= _) _ _ _
  refine PySem.wpAt_bind (PySem.wpAt_stack fun p below => PySem.wpAt_of_wpAny ?_)
  wp_walk
  refine PySem.wpAt_of_wpAny ?_
  rw [F.owner]
  repeat (first | with_reducible refine wpAny_madeHere_exc F.canon hC ?_ | with_reducible refine wpAny_loadPart_at hC ?_ | (with_reducible refine wpAny_isSubtype_exc hC ?_; first | rw [hcB] | rw [hcA] | rw [hcN]) | wp_step)
  show R _ _
  rw [Heap.size_push]
  exact hq
theorem x_lookup {M : Model} {name : Str} {v : Value} {mN mP : Str → Option Value} {c0 : Value} {dP : Option Addr} {cd : ClassData} {sl : Array (Option Value)} {Q : Option Value → Shared → Prop} (hC : h.get? C = some (excClassObj nm q C N bs (.ref P :: bmB) hdct sn sub ab col dd k0 k1 k2 k3 k5 newId)) (hn : h.Ns N mN) (hi : mN name = none)
    (hP : h.get? P = some { cls := c0, dict := dP, data := .cls cd, slots := sl }) (hnP : h.Ns cd.ns mP) (hv : mP name = some v) (hq : Q (some v) ⟨h, g, d, t, os⟩) : wpAny M A (typeLookup (.ref C) name) Q E ⟨h, g, d, t, os⟩ := by
  rw [typeLookup_eq]
  refine wpAny_bind (wpAny_mroOf_exc hC ?_)
  rw [lookupAlong_cons]
  refine wpAny_bind (wpAny_classOwn_exc hC hn ?_)
  rw [hi]
  show wpAny _ _ (lookupAlong (.ref P :: bmB) name) _ _ _
  rw [lookupAlong_cons]
  refine wpAny_bind (wpAny_classOwn_cls hP hnP ?_)
  rw [hv]
  exact wpAny_pure hq
theorem x_lookup0 {M : Model} {name : Str} {y : Option Value} {mN mP : Str → Option Value} {c0 : Value} {dP : Option Addr} {cd : ClassData} {sl : Array (Option Value)} {Q : Option Value → Shared → Prop} (hC : h.get? C = some (excClassObj nm q C N bs (.ref P :: bmB) hdct sn sub ab col dd k0 k1 k2 k3 k5 newId)) (hn : h.Ns N mN) (hi : mN name = none)
    (hP : h.get? P = some { cls := c0, dict := dP, data := .cls cd, slots := sl }) (hnP : h.Ns cd.ns mP) (hv : mP name = none) (hr : lookupAlong bmB name = pure y) (hq : Q y ⟨h, g, d, t, os⟩) : wpAny M A (typeLookup (.ref C) name) Q E ⟨h, g, d, t, os⟩ := by
  rw [typeLookup_eq]
  refine wpAny_bind (wpAny_mroOf_exc hC ?_)
  rw [lookupAlong_cons]
  refine wpAny_bind (wpAny_classOwn_exc hC hn ?_)
  rw [hi]
  show wpAny _ _ (lookupAlong (.ref P :: bmB) name) _ _ _
  rw [lookupAlong_cons]
  refine wpAny_bind (wpAny_classOwn_cls hP hnP ?_)
  rw [hv]
  show wpAny _ _ (lookupAlong bmB name) _ _ _
  rw [hr]
  exact wpAny_pure hq
noncomputable abbrev tupO (rest : List Value) : Obj := { cls := .type "tuple", data := .seq rest.toArray }
noncomputable abbrev insO (C a : Addr) : Obj := { cls := .ref C, data := .fields #[.ref a, .none, .none, .none, .bool false, .none] }
noncomputable def hp2 (h : Heap) (C : Addr) (rest : List Value) : Heap := (h.push (tupO rest)).push (insO C h.objs.size)
theorem hp2_old {C : Addr} {rest : List Value} {b : Addr} {o : Obj} (q : h.get? b = some o) : (hp2 h C rest).get? b = some o := Heap.get?_push_of_some _ (Heap.get?_push_of_some _ q)
theorem hp2_ins {C : Addr} {rest : List Value} : (hp2 h C rest).get? (h.objs.size + 1) = some (insO C h.objs.size) := by unfold hp2 insO tupO; heap_get
theorem x_type_call (F : ExcBaseFacts B newId initId bmB) {rest : List Value} {fI : Addr} {oI : Obj} {mN mP : Str → Option Value} {c0 : Value} {dP : Option Addr} {cd : ClassData} {sl : Array (Option Value)} {Q : Fin → Shared → Prop}
    (hC : h.get? C = some (excClassObj nm q C N bs (.ref P :: bmB) hdct sn sub ab col dd k0 k1 k2 k3 k5 newId)) (hn : h.Ns N mN) (hi : mN "__init__" = none)
    (hP : h.get? P = some { cls := c0, dict := dP, data := .cls cd, slots := sl }) (hnP : h.Ns cd.ns mP) (hv : mP "__init__" = some (.ref fI)) (hfI : h.get? fI = some oI) (hfc : oI.cls = .type "function") (hrest : rest.length ≤ sizeLine)
    (hq : wpAny (model prog w) A (call (.ref fI) (.ref (h.objs.size + 1) :: rest)) (fun r s' => r = .none ∧ Q (.done (.ret (.ref (h.objs.size + 1)))) s') E ⟨hp2 h C rest, g, d, t, os⟩) :
    wpAny (model prog w) A (Builtin.«type.__call__» ⟨.ref C :: rest, []⟩) Q E ⟨h, g, d, t, os⟩ := by
  repeat (first | with_reducible refine wpAny_loadPart_at hC ?_ | with_reducible refine wpAny_madeBy_exc hC ?_ | wp_step)
  refine codeAny_call_builtin_code (Code.quiet_builtin _ F.quiet) (x_check_new F hC ?_)
  refine x_exc_new F hC ?_ hrest
  show wpAny _ _ _ _ _ ⟨hp2 h C rest, g, d, t, os⟩
  have hC₁ := hp2_old (C := C) (rest := rest) hC
  have hget : (hp2 h C rest).get? (h.objs.size + 1) = some { cls := .ref C, data := .fields #[.ref h.objs.size, .none, .none, .none, .bool false, .none] } := hp2_ins
  have hcC : (Value.ref C :: .ref P :: bmB).contains (.ref C) = true := by simp
  unfold isInstance
  repeat (first | with_reducible refine wpAny_loadPart_at hget ?_ | (with_reducible refine wpAny_isSubtype_exc hC₁ ?_; rw [hcC]) | wp_step)
  show wpAny _ _ (typeLookup (.ref C) _) _ _ _
  refine x_lookup hC₁ (hn.keeps fun _ _ => hp2_old) hi (hp2_old hP) (hnP.keeps fun _ _ => hp2_old) hv ?_
  refine wpAny_holding (wpAny_bind ?_)
  unfold bindSpecial
  refine wpAny_bind (wpAny_typeOf (T := "function") ⟨_, hp2_old hfI, hfc⟩ ?_)
  rw [if_pos (by decide)]
  refine wpAny_pure (wpAny_bind (wpAny_mono hq (fun r s' hr => ?_) fun _ _ x => x))
  obtain ⟨rfl, hQ⟩ := hr
  wp_walk
  exact hQ
theorem x_call (F : ExcBaseFacts B newId initId bmB) {rest : List Value} {fI : Addr} {oI : Obj} {mN mP : Str → Option Value} {c0 : Value} {dP : Option Addr} {cd : ClassData} {sl : Array (Option Value)} {Q : Value → Shared → Prop}
    (hC : h.get? C = some (excClassObj nm q C N bs (.ref P :: bmB) hdct sn sub ab col dd k0 k1 k2 k3 k5 newId)) (hn : h.Ns N mN) (hi : mN "__init__" = none)
    (hP : h.get? P = some { cls := c0, dict := dP, data := .cls cd, slots := sl }) (hnP : h.Ns cd.ns mP) (hv : mP "__init__" = some (.ref fI)) (hfI : h.get? fI = some oI) (hfc : oI.cls = .type "function") (hrest : rest.length ≤ sizeLine)
    (hq : wpAny (model prog w) (A.under (.builtin "type.__call__" ⟨.ref C :: rest, []⟩)) (call (.ref fI) (.ref (h.objs.size + 1) :: rest)) (fun r s' => r = .none ∧ Q (.ref (h.objs.size + 1)) s') E ⟨hp2 h C rest, g, d, t, os⟩) :
    wpAny (model prog w) A (call (.ref C) rest) Q E ⟨h, g, d, t, os⟩ := by
  have f1 := tc_lookup
  have f2 := tc_bind (.ref C)
  have hT : (⟨h, g, d, t, os⟩ : Shared).TypeIs (.ref C) "type" := ⟨_, hC, rfl⟩
  refine wpAny_call (codeAny_of_tree ?_)
  show wpAny _ _ (callAny (.ref C) _) _ _ _
  repeat (any_goals (first | assumption | with_reducible refine wpAny_loadPart_at hC ?_ | wp_step))
  refine ⟨rfl, ?_⟩
  refine codeAny_call_builtin_at (Code.quiet_builtin _ (by decide +kernel)) entry_typeCall (wpAny_check_type_call_sub hC (x_type_call F hC hn hi hP hnP hv hfI hfc hrest hq))
end
section
open Builtin Builtin.ObjectAttr
variable {prog : Program} {w : World} {A : Around} {E : Value → Shared → Prop} {h : Heap} {g : Array GenState} {d : Drawn} {t : Nat} {os : OsState}
variable {nm q : Str} {C N P x a : Addr} {bs bmB : List Value} {sn : List Str} {sub : List Value} {ab : Bool} {col : Option Bool} {dd : Option Addr} {k0 k1 k2 k3 k5 : Option Value} {B newId sa owner : String} {name : Str} {v : Value}
  {mN mP : Str → Option Value} {c0 : Value} {dP : Option Addr} {cd : ClassData} {sl : Array (Option Value)}
theorem x_check_sa {M : Model} {nameV : Value} {Q : Unit → Shared → Prop} (SF : StoreFacts B bmB sa owner)
    (hC : h.get? C = some (excClassObj nm q C N bs (.ref P :: bmB) true sn sub ab col dd k0 k1 k2 k3 k5 newId)) (hx : h.get? x = some (insO C a)) (hq : Q () ⟨h, g, d, t, os⟩) :
    wpAny M A (checkBuiltinCall sa ⟨[.ref x, nameV, v], []⟩) Q E ⟨h, g, d, t, os⟩ := by
  have hcB := hasP (C := C) (P := P) SF.hasOwner
  have ha := SF.args (.ref x) nameV v
  simp only [checkBuiltinCall, SF.kind, SF.split]
  refine wpAny_bind ?_
  unfold isInstance
  repeat (first | with_reducible refine wpAny_loadPart_at hx ?_ | (with_reducible refine wpAny_isSubtype_exc hC ?_; rw [hcB]) | wp_step)
  cases hsig : Manifest.signature? sa with
  | none => exact wpAny_pure hq
  | some sig =>
    simp only [argsOk, hsig] at ha
    have h2 : Bind.checkArgs sa sig ⟨[.ref x, nameV, v], []⟩ = pure () := ha
    show wpAny M A (Bind.checkArgs sa sig ⟨[.ref x, nameV, v], []⟩) Q E _
    rw [h2]; exact wpAny_pure hq
theorem x_entry {tk : Tok} {Q : Fin → Shared → Prop} (SF : StoreFacts B bmB sa owner)
    (hC : h.get? C = some (excClassObj nm q C N bs (.ref P :: bmB) true sn sub ab col dd k0 k1 k2 k3 k5 newId)) (hn : h.Ns N mN) (hna : mN name = none) (hP : h.get? P = some { cls := c0, dict := dP, data := .cls cd, slots := sl }) (hnP : h.Ns cd.ns mP) (hpa : mP name = none)
    (hB : lookupAlong bmB name = pure none) (hx : h.get? x = some (insO C a))
    (hq : ∀ h' tk', (∀ b o, b ≠ x → h.get? b = some o → h'.get? b = some o) → h'.get? x = some { insO C a with dict := some h.objs.size } → Q (.done (.ret .none)) ⟨h', g, d, tk', os⟩) :
    wpAny (model prog w) A (Builtin.«object.__setattr__» ⟨[.ref x, .str name tk, v], []⟩) Q E ⟨h, g, d, t, os⟩ := by
  have hpass := SF.passes (.ref x)
  unfold Builtin.«object.__setattr__»
  repeat ((fail_if_success (with_reducible refine (?_ : wpAny _ _ (storeInDict _ _ _ _) _ _ _))); first | rw [refuse_eq] | (rw [refuseLoop_ref, refuseLoop_ref, hpass]) | with_reducible refine wpAny_loadPart_at hx ?_ | with_reducible refine wpAny_mroOf_exc hC ?_ | (with_reducible refine x_lookup0 hC hn hna hP hnP hpa hB ?_) | wp_step)
  have hx₁ : (h.push { cls := .type "dict", data := .dict #[] }).get? x = some (insO C a) := Heap.get?_push_of_some _ hx
  have hxs : x ≠ h.objs.size := Nat.ne_of_lt (Heap.lt_size hx)
  have hgd : ((h.push { cls := .type "dict", data := .dict #[] }).update x fun o => { cls := o.cls, dict := some h.objs.size, data := o.data, slots := o.slots }).get? h.objs.size = some { cls := .type "dict", data := .dict #[] } :=
    (Heap.get?_update_ne _ _ _ _ hxs.symm).trans (Heap.get?_push_at rfl rfl)
  have hnd : ((h.push { cls := .type "dict", data := .dict #[] }).update x fun o => { cls := o.cls, dict := some h.objs.size, data := o.data, slots := o.slots }).Ns h.objs.size (fun _ => none) :=
    ⟨_, #[], _, hgd, rfl, fun e he => absurd he (by simp), fun _ => rfl⟩
  show wpAny _ _ (storeInDict h.objs.size (.str name tk) name v) _ _ _
  unfold storeInDict newKeyGuard
  refine wpAny_bind (wpAny_pure (wpAny_bind (wpAny_nsSet1EFk (Heap.Ns1.of_empty hnd) fun h' hn' hs _ => ?_)))
  refine exC3 (hn'.count (Within.cons name v Within.nil)) ?_; intro oD esD epD hR; refine anC3 hR ?_; clear hR; intro hoD hdD hcD
  refine wpAny_bind (wpAny_lookBehind hoD (by rw [hdD]; exact pastItsLine_dict (Nat.le_trans hcD (by rw [List.length_cons, List.length_nil, sizeLine_eq]; omega))) ?_)
  wp_walk
  refine hq h' _ (fun b ob hbx hb => (hs.2 b (Nat.ne_of_lt (Heap.lt_size hb))).trans ((Heap.get?_update_ne _ _ _ _ hbx).trans (Heap.get?_push_of_some _ hb))) ((hs.2 x hxs).trans (Heap.get?_update_self _ hx₁ rfl))
theorem x_store {Q : Unit → Shared → Prop} (SF : StoreFacts B bmB sa owner)
    (hC : h.get? C = some (excClassObj nm q C N bs (.ref P :: bmB) true sn sub ab col dd k0 k1 k2 k3 k5 newId)) (hn : h.Ns N mN) (hns : mN "__setattr__" = none) (hna : mN name = none) (hP : h.get? P = some { cls := c0, dict := dP, data := .cls cd, slots := sl }) (hnP : h.Ns cd.ns mP) (hps : mP "__setattr__" = none) (hpa : mP name = none)
    (hB : lookupAlong bmB name = pure none) (hx : h.get? x = some (insO C a))
    (hq : ∀ h' tk', (∀ b o, b ≠ x → h.get? b = some o → h'.get? b = some o) → h'.get? x = some { insO C a with dict := some h.objs.size } → Q () ⟨h', g, d, tk', os⟩) :
    wpAny (model prog w) A (setAttr (.ref x) name v) Q E ⟨h, g, d, t, os⟩ := by
  have f3 := SF.slot.bind (.ref x)
  have hsl : lookupAlong bmB "__setattr__" = pure (some (.builtin sa)) := by have z := SF.slot.lookup; rw [typeLookup_eq, SF.mro] at z; exact z
  unfold setAttr callSpecial? specialOf
  repeat (any_goals (first | assumption | with_reducible refine wpAny_loadPart_at hx ?_ | (with_reducible refine x_lookup0 hC hn hns hP hnP hps hsl ?_) | wp_step))
  refine codeAny_call_builtin SF.slot.plain SF.entry (x_check_sa SF hC hx (x_entry SF hC hn hna hP hnP hpa hB hx fun h' tk' q1 q2 => ?_))
  repeat (any_goals (first | assumption | wp_step))
  exact hq h' tk' q1 q2
end
theorem ns_some_of {K : Frag} {h : Heap} {N : Addr} {mg : Str → Option Value} {n : Str} {v : Value} (X : K.In h) (G : h.Ns N mg) (e : nsIn K N n = some (some v)) : mg n = some v := by
  refine exC3 G ?_; (try clear G); intro o es ep hR; refine anC4 hR ?_; clear hR; intro ho hd _ hf
  unfold nsIn at e
  split at e
  · rename_i c d es' n' sl q
    have := X _ _ q
    rw [ho] at this
    cases this
    cases hd
    split at e
    · rename_i en he
      cases e
      rw [← hf]
      unfold nsFind findBy
      rw [← Array.find?_toList, he]
      rfl
    · split at e <;> cases e
  · cases e
section
variable {prog : Program} {w : World} {A : Around} {E : Value → Shared → Prop} {h : Heap} {g : Array GenState} {d : Drawn} {t : Nat} {os : OsState}
variable {nm q : Str} {C N : Addr} {bs : List Value} {sn : List Str} {sub : List Value} {ab : Bool} {col : Option Bool} {dd : Option Addr} {k0 k1 k2 k3 k5 : Option Value} {newId initId : String} {bmB : List Value} {B : String}
  {c0 : Value} {dP : Option Addr} {cd : ClassData} {sl : Array (Option Value)} {sa owner : String}
theorem x_make (F : ExcBaseFacts B newId initId bmB) (SF : StoreFacts B bmB sa owner) (hB : lookupAlong bmB (S "message") = pure none) (X : (hd.heap_1 w.params).In h) (hlim : h.NoLimit) (hroom : (A.under (.builtin "type.__call__" ⟨[.ref C], []⟩)).depth < recursionLimit)
    (hC : (hd.heap_1 w.params).lookup C = some (excClassObj nm q C N bs (.ref 38 :: bmB) true sn sub ab col dd k0 k1 k2 k3 k5 newId)) (nC : nsOkIn (hd.heap_1 w.params) N = true) (i1 : nsIn (hd.heap_1 w.params) N "__init__" = some none) (i2 : nsIn (hd.heap_1 w.params) N "__setattr__" = some none) (i3 : nsIn (hd.heap_1 w.params) N (S "message") = some none)
    (hP : (hd.heap_1 w.params).lookup 38 = some { cls := c0, dict := dP, data := .cls cd, slots := sl }) (nP : nsOkIn (hd.heap_1 w.params) cd.ns = true) (p1 : nsIn (hd.heap_1 w.params) cd.ns "__init__" = some (some (.ref 35))) (p2 : nsIn (hd.heap_1 w.params) cd.ns "__setattr__" = some none) (p3 : nsIn (hd.heap_1 w.params) cd.ns (S "message") = some none)
    {msg : Str} {tk : Tok} {Q : Value → Shared → Prop}
    (ret : ∀ h' tk' a', (∀ b o, b ≠ h.objs.size + 1 → (hp2 h C [.str msg tk]).get? b = some o → h'.get? b = some o) → h'.get? (h.objs.size + 1) = some { insO C h.objs.size with dict := some a' } → Q (.ref (h.objs.size + 1)) ⟨h', g, d, tk', os⟩) :
    wpAny (model PySem.Challenge.rw_pf0193_01.row.toRowW.prog w) A (call (.ref C) [.str msg tk]) Q E ⟨h, g, d, t, os⟩ := by
  (revert X; k_fill; intro X)
  have G1 : h.Ns N _ := .of_isNs (isNs_of_in X nC)
  have G2 : h.Ns cd.ns _ := .of_isNs (isNs_of_in X nP)
  refine x_call F (X _ _ hC) G1 (ns_none_of X G1 i1) (X _ _ hP) G2 (ns_some_of X G2 p1) (X 35 _ (by k_is)) rfl (by show 1 ≤ _; decide) ?_
  have K2 : ∀ b o, h.get? b = some o → (hp2 h C [.str msg tk]).get? b = some o := fun _ _ => hp2_old
  refine wpAny_call (codeAny_call_def (s := ⟨_, _, _, _, _⟩) (body := _) (binds := [(_, _), (_, _)]) hroom (K2 _ _ (X 35 _ (by k_is))) rfl (hlim.keeps K2) ?_ rfl (.of_eq rfl) ?_ ?_ ?_ rfl rfl rfl)
  · exact codeRec_of (X.keeps K2) (by k_is)
  · decide
  · exact locs rfl
  · intro h₁ hns hk₁
    have F : Fr (hp2 h C [.str msg tk]) (hp2 h C [.str msg tk]).objs.size h₁ _ := ⟨hns, hk₁, Nat.le_refl _⟩
    refine wpAny_execs_cons (plainObj_wpAny_Assign_Attribute (nameX_L F rfl (nameX_L F rfl ?_)))
    have K3 : ∀ b o, h.get? b = some o → h₁.get? b = some o := fun b o q => hk₁ _ _ (K2 b o q)
    refine x_store SF (K3 _ _ (X _ _ hC)) (G1.keeps K3) (ns_none_of X G1 i2) (ns_none_of X G1 i3) (K3 _ _ (X _ _ hP)) (G2.keeps K3) (ns_none_of X G2 p2) (ns_none_of X G2 p3) hB (hk₁ _ _ hp2_ins) fun h' tk' q1 q2 => ?_
    refine wpAny_execs_nil ⟨rfl, ret h' tk' _ (fun b o hb q => q1 b o hb (hk₁ _ _ q)) q2⟩
end
structure MadeXS (h h' : Heap) (e : Addr) (cls : Value) (t : Addr) (vs : List Value) : Prop where
  keeps : ∀ b o, h.get? b = some o → h'.get? b = some o
  new : h.get? e = none
  newT : h.get? t = none
  there : ∃ dd sl, h'.get? e = some { cls := cls, dict := dd, data := .fields #[.ref t, .none, .none, .none, .bool false, .none], slots := sl }
  tup : h'.TupAt t vs
theorem made_of {h h' : Heap} {C : Addr} {vs : List Value} {a' : Addr} (k : ∀ b o, b ≠ h.objs.size + 1 → (hp2 h C vs).get? b = some o → h'.get? b = some o) (q : h'.get? (h.objs.size + 1) = some { insO C h.objs.size with dict := some a' }) : MadeXS h h' (h.objs.size + 1) (.ref C) h.objs.size vs where
  keeps b o e := k b o (Nat.ne_of_lt (Nat.lt_succ_of_lt (Heap.lt_size e))) (hp2_old e)
  new := Heap.get?_none_of_le (Nat.le_succ _)
  newT := Heap.get?_none_of_le (Nat.le_refl _)
  there := ⟨_, _, q⟩
  tup := ⟨_, _, k _ _ (Nat.ne_of_lt (Nat.lt_succ_self _)) (Heap.get?_push_of_some _ (Heap.get?_push_at rfl rfl)), rfl, rfl⟩
theorem msg_none : lookupAlong [.type "Exception", .type "BaseException", .type "object"] (S "message") = pure none := by
  have z : typeLookup (.type "Exception") (S "message") = pure none := by rw [typeLookup_type, builtinLookup_eq_fast]; kernel_rfl
  rw [typeLookup_eq, PySem.F.store_Exception.mro] at z
  exact z
theorem exc_limit0 {w : World} {sh : Heap} {sg : Array GenState} {sd : Drawn} {st : Nat} {so : OsState} {A : Around} {Q E : Value → Shared → Prop} (msg : Str) (tk : Tok) (KX : (hd.heap_1 w.params).In sh) (hlim : sh.NoLimit) (hroom : (A.under (.builtin "type.__call__" ⟨[.ref 75], []⟩)).depth < recursionLimit)
    (ret : ∀ h' e t vs tk', MadeXS sh h' e (.ref 75) t vs → Q (.ref e) ⟨h', sg, sd, tk', so⟩) :
    wpAny (model PySem.Challenge.rw_pf0193_01.row.toRowW.prog w) A (call (.ref 75) [.str msg tk]) Q E ⟨sh, sg, sd, st, so⟩ := by
  (revert KX; k_fill; intro KX)
  refine' x_make PySem.F.excBase_Exception PySem.F.store_Exception msg_none KX hlim hroom ?a1 ?a2 ?a3 ?a4 ?a5 ?b1 ?b2 ?b3 ?b4 ?b5 fun h' tk' a' k q => ret _ _ _ _ _ (made_of k q)
  case a1 => k_is
  case b1 => k_is
  case a2 => kernel_rfl
  case b2 => kernel_rfl
  all_goals k_is
theorem exc_sheet0 {w : World} {sh : Heap} {sg : Array GenState} {sd : Drawn} {st : Nat} {so : OsState} {A : Around} {Q E : Value → Shared → Prop} (msg : Str) (tk : Tok) (KX : (hd.heap_1 w.params).In sh) (hlim : sh.NoLimit) (hroom : (A.under (.builtin "type.__call__" ⟨[.ref 63], []⟩)).depth < recursionLimit)
    (ret : ∀ h' e t vs tk', MadeXS sh h' e (.ref 63) t vs → Q (.ref e) ⟨h', sg, sd, tk', so⟩) :
    wpAny (model PySem.Challenge.rw_pf0193_01.row.toRowW.prog w) A (call (.ref 63) [.str msg tk]) Q E ⟨sh, sg, sd, st, so⟩ := by
  (revert KX; k_fill; intro KX)
  refine' x_make PySem.F.excBase_Exception PySem.F.store_Exception msg_none KX hlim hroom ?a1 ?a2 ?a3 ?a4 ?a5 ?b1 ?b2 ?b3 ?b4 ?b5 fun h' tk' a' k q => ret _ _ _ _ _ (made_of k q)
  case a1 => k_is
  case b1 => k_is
  case a2 => kernel_rfl
  case b2 => kernel_rfl
  all_goals k_is

section
variable {M : Model} {A : Around} {E : Value → Shared → Prop} {env : Env} {s : Shared}
variable {nm q : Str} {C N : Addr} {bs bm : List Value} {hdct : Bool} {sn : List Str} {sub : List Value} {ab : Bool} {col : Option Bool} {dd : Option Addr} {k0 k1 k2 k3 k5 : Option Value} {newId : String}
theorem raise_x {x : Expr} {pos : Pos} {Q : Flow → Shared → Prop} (hbase : bm.contains (.type "BaseException") = true) (hh : A.handled = none)
    (h : wpAny M A (eval x env) (fun v s₁ => ∃ e t dd' sl, v = .ref e ∧ s₁.heap.get? C = some (excClassObj nm q C N bs bm hdct sn sub ab col dd k0 k1 k2 k3 k5 newId) ∧
      s₁.heap.get? e = some { cls := .ref C, dict := dd', data := .fields #[.ref t, .none, .none, .none, .bool false, .none], slots := sl } ∧ E (.ref e) s₁) E s) :
    wpAny M A (exec (.Raise (some x) none pos) env) Q E s := by
  have hcB : (Value.ref C :: bm).contains (.type "BaseException") = true := by rw [List.contains_cons, hbase, Bool.or_true]
  rw [arm_exec_Raise]
  refine wpAny_bind (wpAny_standAt ?_)
  show wpAny _ _ (raiseStmt env (some (do let v ← eval x env; standAt pos; pure v)) none) _ _ _
  unfold raiseStmt
  refine wpAny_bind (wpAny_bind (wpAny_mono h (fun v s₁ h₁ => wpAny_bind (wpAny_standAt (wpAny_pure ?_))) fun _ _ x => x))
  refine exC4 h₁ ?_; (try clear h₁); intro e t dd' sl hR; refine anC4 hR ?_; clear hR; intro hO4 hC he hE; subst hO4
  (with_reducible refine (?_ : (let lG : Prop := _; lG))); intro lG; obtain ⟨hp, g, d, tk, os⟩ := s₁; k_unfold; clear lG
  repeat (first | with_reducible refine wpAny_loadPart_at he ?_ | with_reducible refine wpAny_loadPart_at hC ?_ | (with_reducible refine wpAny_isSubtype_exc hC ?_; rw [hcB]) | wp_step)
  exact wpAny_raiseNew_none hh hE
end
end

theorem kw_callw0 : True := by
  (k_with "call;0" => first | exact List.mem_append_left _ (by assumption) | (refine' List.mem_append_right _ ?_; k_mem) | fail)
  (k_with "call;2" => first | ((first | (with_reducible refine' lt12 kl9 ?_; clear kl9; intro _ _ _ _ _ _ _ _ _ _ _ _ kl9) | (with_reducible refine' lt11 kl9 ?_; clear kl9; intro _ _ _ _ _ _ _ _ _ _ _ kl9) | (with_reducible refine' lt10 kl9 ?_; clear kl9; intro _ _ _ _ _ _ _ _ _ _ kl9) | (with_reducible refine' lt9 kl9 ?_; clear kl9; intro _ _ _ _ _ _ _ _ _ kl9) | (with_reducible refine' lt8 kl9 ?_; clear kl9; intro _ _ _ _ _ _ _ _ kl9) | (with_reducible refine' lt7 kl9 ?_; clear kl9; intro _ _ _ _ _ _ _ kl9) | (with_reducible refine' lt6 kl9 ?_; clear kl9; intro _ _ _ _ _ _ kl9) | (with_reducible refine' lt5 kl9 ?_; clear kl9; intro _ _ _ _ _ kl9) | (with_reducible refine' lt4 kl9 ?_; clear kl9; intro _ _ _ _ kl9) | (with_reducible refine' lt3 kl9 ?_; clear kl9; intro _ _ _ kl9) | (with_reducible refine' lt2 kl9 ?_; clear kl9; intro _ _ kl9) | (with_reducible refine' lt1 kl9 ?_; clear kl9; intro _ kl9) | (with_reducible refine' lt0 kl9 ?_; clear kl9; intro kl9)); (try ((with_reducible refine (?_ : (let lG : Prop := _; lG))); intro lG; (simp only [AllLt, allLt_app, and_true] at kl9); (repeat' (obtain ⟨_, kl9⟩ := kl9)); (try k_unfold)))) | fail)
  (k_with "call;3" => first | exact fresh_nil | (refine fresh_cons ?_ ?_ <;> ktr_rel) | (refine fresh_app ?_ ?_ <;> ktr_rel) | ((with_reducible refine (?_ : AllLt _ _)); (try dsimp only); (try simp only [AllLt, allLt_app, and_true]); (repeat' (with_reducible refine And.intro ?_ ?_)); all_goals (first | assumption | omega | (refine allLt_up (by assumption) ?_; (try dsimp only); omega) | trivial)) | fail)
  (k_with "call;4" => first | (refine' enter_def ?k1_callw4 ?k2_callw4 ?k3_callw4 ?k4_callw4 ?k5_callw4 ?kA_callw4 ?kF_callw4 ?kK_callw4 ?k6_callw4 ?k7_callw4 ?k8_callw4 ?k9_callw4 ?kB_callw4 ?_ ?c2_callw4 ?c3_callw4 ?c4_callw4 ?c5_callw4; (case kA_callw4 => exact rfl); (case kF_callw4 => exact rfl); (case kK_callw4 => first | assumption | exact rfl); (case k1_callw4 => k_asm); (case k2_callw4 => k_asm); (case k3_callw4 => k_asm); (case k4_callw4 => k_asm); (case k5_callw4 => k_asm); (case k6_callw4 => k_is); (case k7_callw4 => k_is); (case k8_callw4 => ktr_room); (case k9_callw4 => first | exact BindsTo.of_eq (binds := []) rfl | exact BindsTo.of_eq (binds := [(_, _)]) rfl | exact BindsTo.of_eq (binds := [(_, _), (_, _)]) rfl | exact BindsTo.of_eq (binds := [(_, _), (_, _), (_, _)]) rfl | exact BindsTo.of_eq (binds := [(_, _), (_, _), (_, _), (_, _)]) rfl | exact BindsTo.of_eq (binds := [(_, _), (_, _), (_, _), (_, _), (_, _)]) rfl | exact BindsTo.of_eq (binds := [(_, _), (_, _), (_, _), (_, _), (_, _), (_, _)]) rfl | exact binds_K (binds := [(_, _)]) (by k_in) rfl (by k_is) rfl rfl rfl | exact binds_K (binds := [(_, _), (_, _)]) (by k_in) rfl (by k_is) rfl rfl rfl | exact binds_K (binds := [(_, _), (_, _), (_, _)]) (by k_in) rfl (by k_is) rfl rfl rfl | exact binds_K (binds := [(_, _), (_, _), (_, _), (_, _)]) (by k_in) rfl (by k_is) rfl rfl rfl | exact binds_K (binds := [(_, _), (_, _), (_, _), (_, _), (_, _)]) (by k_in) rfl (by k_is) rfl rfl rfl | exact binds_K (binds := [(_, _), (_, _), (_, _), (_, _), (_, _), (_, _)]) (by k_in) rfl (by k_is) rfl rfl rfl); (case kB_callw4 => exact rfl); (case c5_callw4 => decide); (case c2_callw4 => exact rfl); (case c3_callw4 => exact rfl); (case c4_callw4 => exact rfl); k_whole; intro g' L' h' tk' FG' lm F' N' B' X' T' fx' lA; (try dsimp only); (try ((fail_if_success (fail_if_success k_fold)); (refine fold2 ?_); intro qk ek))) | fail)
  (k_with "call;5" => first | ((try simp +zetaDelta only [depth_under_make, depth_under_kw, depth_in1, depth_deeper, depth_caller]); (try dsimp only [ktrTop]); (try rw [rl_is]); first | exact room2 (by assumption) rfl rfl | exact room1 (by assumption) rfl rfl | exact room3 (by assumption) rfl rfl | exact room0 (by assumption) rfl | exact room6 (by assumption) rfl rfl | exact room6s (by assumption) rfl rfl | omega) | fail)
  (k_with "call;6" => first | (refine neN ?_; (try dsimp only); first | assumption | exact Nat.ne_of_gt (by assumption) | exact Nat.ne_of_lt (by assumption) | fail) | fail)
  (k_with "call;7" => first | ((try simp +zetaDelta only [units_in1, units_deeper, Around.mark_units, units_caller]); (try dsimp only [ktrTop]); first | exact room2 (by assumption) rfl rfl | exact room1 (by assumption) rfl rfl | exact room3 (by assumption) rfl rfl | exact room0 (by assumption) rfl | exact units6 (by assumption) rfl rfl | exact units6s (by assumption) rfl rfl | omega) | fail)
  (k_with "call;8" => first | (refine' List.forall_mem_append.mpr ⟨?_, ?_⟩; (focus k_all); k_all) | fail)
  (k_with "call;9" => first | (refine' fresh_ne ?f_callw9 ?m_callw9; (case f_callw9 => assumption); (case m_callw9 => k_mem)) | fail)
  (k_with "call;10" => first | (refine' UpdF.app ?u_callw10 ?a_callw10; (case a_callw10 => k_all); (case u_callw10 => k_updF)) | fail)
  (k_with "call;11" => first | (refine' Upd.app ?u_callw11 ?a_callw11; (case a_callw11 => k_all); (case u_callw11 => k_upd)) | fail)
  (k_with "ll" => first | assumption | exact len_app (by k_extra "ll") (by k_extra "ll") | exact Nat.le_refl _ | fail)
  (k_with "ev" => first | ((with_reducible refine (?_ : EV _ _ _ _ (Expr.Name _ _) _ _ _)); first | exact EV.name (Eq.refl (some NameKind.local)) (Eq.refl (some _)) (Eq.refl false) | exact EV.glob (Eq.refl (some NameKind.globalImplicit)) (by k_is) (Eq.refl false) | exact EV.boot (Eq.refl (some NameKind.globalImplicit)) (by k_is) (by boot_fast) (by decide) (Eq.refl false) | exact EV.cell (Eq.refl (some NameKind.cell)) (Eq.refl (some _)) (by k_mem) (by k_asm) (Eq.refl false) | fail) | ((with_reducible refine (?_ : EV _ _ _ _ (Expr.Constant _ _ _) _ _ _)); first | exact EV.str | exact EV.int | fail) | ((with_reducible refine (?_ : EV _ _ _ _ (Expr.Subscript (Expr.Name _ _) (Expr.Constant _ _ _) _) _ _ _)); exact EV.tup (Eq.refl (some NameKind.local)) (Eq.refl (some (Value.ref _))) (by k_mem) (by rfl) (by rfl) (by rfl) (Eq.refl false)) | ((with_reducible refine (?_ : EV _ _ _ _ (Expr.Attribute (Expr.Name _ _) _ _) _ _ _)); exact EV.attr (Eq.refl (some NameKind.local)) (Eq.refl (some (Value.ref _))) (by k_mem) (by k_mem) (by k_is) (by k_is) (by k_is) (by k_is) (by k_get) (by k_handed) (Eq.refl false)) | fail | fail)
  (k_with "fx" => first | with_reducible assumption | exact Fx.mk (by k_asm) (by k_asm) (by first | exact rfl | assumption) | fail | fail)
  (k_with "evs" => first | exact EVs.nil | (refine' EVs.cons ?evh_evs ?evr_evs; (case evh_evs => k_extra "ev"); (case evr_evs => k_extra "evs")) | fail | fail)
  trivial
local macro_rules | `(tactic| k_mem) => `(tactic| k_extra "call;0")
local macro_rules | `(tactic| k_mem) => `(tactic| assumption)
local macro_rules | `(tactic| k_lt $h:ident) => `(tactic| (revert $h:ident; intro $(Lean.mkIdent `kl9):ident; k_extra "call;2"; (try (revert $(Lean.mkIdent `kl9):ident; intro $h:ident))))
local macro_rules | `(tactic| ktr_rel) => `(tactic| k_extra "call;3")
local macro_rules | `(tactic| ktr_enter) => `(tactic| k_extra "call;4")
local macro_rules | `(tactic| ktr_room) => `(tactic| k_extra "call;5")
local macro_rules | `(tactic| k_ne) => `(tactic| k_extra "call;6")
local macro_rules | `(tactic| ktr_units) => `(tactic| k_extra "call;7")
local macro_rules | `(tactic| k_all) => `(tactic| k_extra "call;8")
local macro_rules | `(tactic| k_all) => `(tactic| k_extra "call;9")
local macro_rules | `(tactic| k_updF) => `(tactic| k_extra "call;10")
local macro_rules | `(tactic| k_upd) => `(tactic| k_extra "call;11")
theorem kw_call_1 : True := by
  (k_with "call:1" => first | (k_here; (with_reducible refine (?_ : wpAny _ _ (call (Value.ref _) _) _ _ _)); (refine wpAny_call ?_); k_dflt ktr_enter) | fail)
  (k_with "call:2" => first | (k_here; (first | (with_reducible refine (?_ : wpAny _ _ (call (Value.ref 203) _) _ _ _)) | (with_reducible refine (?_ : wpAny _ _ (call (Value.ref 264) _) _ _ _)) | (with_reducible refine (?_ : wpAny _ _ (call (Value.ref 145) _) _ _ _))); k_dflt (refine' call_cls ?k1_call2 ?k2_call2 ?k3_call2 ?k4_call2 ?k5_call2 ?k6_call2 ?_; (case k1_call2 => k_asm); (case k2_call2 => k_asm); (case k3_call2 => k_asm); (case k4_call2 => k_is); (case k5_call2 => k_is); (case k6_call2 => k_is); k_whole); intro x' d' h' F' N' l1 l2; (have l3 := fun p hp => Nat.lt_trans (l1 p hp) l2); (try k_lt l1); (try k_lt l3); (try k_lt2 l2); (try k_sweep); k_dflt ktr_enter) | fail)
  (k_with "call:3" => first | (k_closed; first | refine ite_neg (by decide +kernel) ?_ | refine ite_pos (by decide +kernel) ?_) | fail)
  (k_with "call:4" => first | (k_here; k_dflt (refine' item_tupleT ?t_call4 ?a_call4 ?b_call4 ?c_call4 ?d_call4 ?_; (case t_call4 => exact News.isTup (by k_asm) (by k_mem)); (case a_call4 => decide); (case b_call4 => decide); (case c_call4 => rfl); (case d_call4 => rfl); k_whole)) | fail)
  (k_with "call:5" => first | (k_here; k_dflt (refine kba_turn (value' := PySem.Expr.Name (PySem.Str.ofString "_") ⟨0, 0, 0, 0⟩) (fun _ => rfl) ?_)) | fail)
  (k_with "call:6" => first | (k_here; (with_reducible refine (?_ : wpAny _ _ (eval (Expr.Name _ _) (envOf _ _ _ _ _)) _ _ _)); k_dflt (first | (name_kind "local"; refine' nameX_L ?F_call6 ?v_call6 ?_ ?a_call6 ?b_call6; (case F_call6 => k_asm); (case a_call6 => rfl); (case b_call6 => rfl); (case v_call6 => rfl); k_whole) | (name_kind "globalImplicit"; first | (refine' nameX_K ?F_call6 ?X_call6 ?T_call6 ?e_call6 ?_ ?a_call6 ?b_call6; (case F_call6 => k_asm); (case X_call6 => k_asm); (case T_call6 => k_asm); (case a_call6 => rfl); (case b_call6 => rfl); (case e_call6 => k_is); k_whole) | (refine' nameX_B ?F_call6 ?X_call6 ?T_call6 ?e_call6 ?v_call6 ?n_call6 ?_ ?a_call6 ?b_call6; (case F_call6 => k_asm); (case X_call6 => k_asm); (case T_call6 => k_asm); (case a_call6 => rfl); (case b_call6 => rfl); (case e_call6 => k_is); (case v_call6 => boot_fast); (case n_call6 => decide); k_whole)))) | fail)
  (k_with "call:7" => first | (k_here; (rename Fr _ _ _ _ => lF'); with_reducible refine' For_turns lF' ?h_call7 ?hs_call7 ?hE_call7; (case hs_call7 => exact fun _ => fold_tup); (case hE_call7 => passes_own); k_whole) | fail)
  (k_with "call:8" => first | (k_here; k_dflt (refine kba_turn (value' := PySem.Expr.Name (PySem.Str.ofString "_") ⟨0, 0, 0, 0⟩) (fun _ => rfl) ?_)) | fail)
  (k_with "call:9" => first | (k_here; k_dflt (refine' get_own ?k1_call9 ?k2_call9 ?k3_call9 ?k4_call9 ?k5_call9 ?k6_call9 ?k7_call9 ?k8_call9 ?k9_call9 ?_; (case k1_call9 => k_asm); (case k2_call9 => k_asm); (case k3_call9 => k_inst); (case k4_call9 => k_is); (case k5_call9 => k_is); (case k6_call9 => k_is); (case k7_call9 => k_is); (case k8_call9 => k_get); (case k9_call9 => k_handed); k_whole)) | fail)
  (k_with "call:10" => first | (k_here; (with_reducible refine (?_ : wpAny _ _ (eval (Expr.Name _ _) (envOfC _ _ _ _ _)) _ _ _)); k_dflt (first | (name_kind "local"; refine' nameX_L ?F_call10 ?v_call10 ?_ ?a_call10 ?b_call10; (case F_call10 => k_asm); (case a_call10 => rfl); (case b_call10 => rfl); (case v_call10 => rfl); k_whole) | (name_kind "cell"; refine' nameX_C ?N_call10 ?c_call10 ?m_call10 ?d_call10 ?_ ?a_call10 ?b_call10; (case a_call10 => rfl); (case b_call10 => rfl); (case N_call10 => k_asm); (case c_call10 => rfl); (case m_call10 => k_mem); (case d_call10 => k_asm); k_whole) | (name_kind "globalImplicit"; first | (refine' nameX_K ?F_call10 ?X_call10 ?T_call10 ?e_call10 ?_ ?a_call10 ?b_call10; (case F_call10 => k_asm); (case X_call10 => k_asm); (case T_call10 => k_asm); (case a_call10 => rfl); (case b_call10 => rfl); (case e_call10 => k_is); k_whole) | (refine' nameX_B ?F_call10 ?X_call10 ?T_call10 ?e_call10 ?v_call10 ?n_call10 ?_ ?a_call10 ?b_call10; (case F_call10 => k_asm); (case X_call10 => k_asm); (case T_call10 => k_asm); (case a_call10 => rfl); (case b_call10 => rfl); (case e_call10 => k_is); (case v_call10 => boot_fast); (case n_call10 => decide); k_whole)))) | fail)
  (k_with "call:11" => first | (k_here; k_dflt (refine' store_fx ?e1_call11 ?e2_call11 ?e3_call11 (Eq.refl (some NameKind.local)) ?_; (case e1_call11 => k_extra "fx"); (case e2_call11 => k_asm); (case e3_call11 => k_asm); k_whole); intro h' tk' lm F' N'; (try k_sweep)) | fail)
  (k_with "call:12" => first | (k_here; (with_reducible refine (?_ : wpAny _ _ (eval (Expr.Subscript (Expr.Name _ _) (Expr.Constant _ _ _) _) _) _ _ _)); k_dflt (refine' EV.run ?e1_call12 ?e2_call12 ?e3_call12 ?e4_call12 ?_; (case e1_call12 => k_extra "fx"); (case e2_call12 => k_asm); (case e3_call12 => k_asm); (case e4_call12 => k_extra "ev"); k_whole)) | fail)
  (k_with "call:13" => first | (k_here; (with_reducible refine (?_ : wpAny _ _ (eval (Expr.Attribute (Expr.Name _ _) _ _) _) _ _ _)); k_dflt (refine' EV.run ?e1_call13 ?e2_call13 ?e3_call13 ?e4_call13 ?_; (case e1_call13 => k_extra "fx"); (case e2_call13 => k_asm); (case e3_call13 => k_asm); (case e4_call13 => k_extra "ev"); k_whole)) | fail)
  (k_with "call:14" => first | (k_here; (with_reducible refine (?_ : wpAny _ _ (spliced (backTo _ (starEach (_ :: _) _))) _ _ _)); k_dflt (refine' EVs.run ?e1_call14 ?e2_call14 ?e3_call14 ?e4_call14 ?_; (case e1_call14 => k_extra "fx"); (case e2_call14 => k_asm); (case e3_call14 => k_asm); (case e4_call14 => k_extra "evs"); k_whole); (try ((with_reducible refine (?_ : wpAny _ _ (call _ (_ ++ _)) _ _ _)); dsimp only [List.cons_append, List.nil_append]))) | fail)
  (k_with "call:15" => first | (k_here; (with_reducible refine (?_ : wpAny _ _ (eval (Expr.Call (Expr.Name _ _) (_ :: _) [] _) _) _ _ _)); k_dflt (first | (refine' call_K ?e1_call15 ?e2_call15 ?e3_call15 ?e4_call15 (Eq.refl (some NameKind.globalImplicit)) ?e5_call15 (Eq.refl false) ?e6_call15 ?_; (case e1_call15 => k_extra "fx"); (case e2_call15 => k_asm); (case e3_call15 => k_asm); (case e4_call15 => k_extra "evs"); (case e5_call15 => k_is); (case e6_call15 => k_is); k_whole) | (refine' call_T ?e1_call15 ?e2_call15 ?e3_call15 ?e4_call15 ?e5_call15 ?_; (case e1_call15 => k_extra "fx"); (case e2_call15 => k_asm); (case e3_call15 => k_asm); (case e5_call15 => exact EV.boot (Eq.refl (some NameKind.globalImplicit)) (by k_is) (by reg3_boot) (by decide) (Eq.refl false)); (case e4_call15 => k_extra "evs"); k_whole) | (refine' call_B ?e1_call15 ?e2_call15 ?e3_call15 ?e4_call15 ?e5_call15 ?_; (case e1_call15 => k_extra "fx"); (case e2_call15 => k_asm); (case e3_call15 => k_asm); (case e4_call15 => k_extra "evs"); (case e5_call15 => k_extra "ev"); k_whole) | fail)) | fail)
  (k_with "call:16" => first | (k_here; (with_reducible refine (?_ : wpAny _ _ (eval (Expr.BinOp _ _ _ _) _) _ _ _)); k_dflt (refine' ev_bin ?e1_call16 ?e2_call16 ?e3_call16 ?e4_call16 ?e5_call16 ?_; (case e1_call16 => k_extra "fx"); (case e2_call16 => k_asm); (case e3_call16 => k_asm); (case e4_call16 => k_extra "ev"); (case e5_call16 => k_extra "ev"); k_whole)) | fail)
  (k_with "call:17" => first | (k_here; (with_reducible refine (?_ : wpAny _ _ (isTrue (Expr.Compare _ [_] [_] _) _ _) _ _ _)); k_dflt (refine' ev_cmpT ?e1_call17 ?e2_call17 ?e3_call17 ?e4_call17 ?e5_call17 ?e6_call17 ?_; (case e1_call17 => k_extra "fx"); (case e2_call17 => k_asm); (case e3_call17 => k_asm); (case e4_call17 => k_extra "ev"); (case e5_call17 => k_extra "ev"); (case e6_call17 => with_unfolding_all rfl); k_whole)) | fail)
  (k_with "call:18" => first | (k_here; (with_reducible refine (?_ : wpAny _ _ (exec (Stmt.Return (some _) _) _) _ _ _)); k_dflt (refine' ev_ret ?e1_call18 ?e2_call18 ?e3_call18 ?e4_call18 ?_; (case e1_call18 => k_extra "fx"); (case e2_call18 => k_asm); (case e3_call18 => k_asm); (case e4_call18 => k_extra "ev"); k_whole)) | fail)
  (k_with "call:19" => first | (k_here; (with_reducible refine (?_ : wpAny _ _ (exec (Stmt.Assign [Expr.Name _ _] _ _) _) _ _ _)); k_dflt (refine' ev_asg ?e1_call19 ?e2_call19 ?e3_call19 ?e4_call19 (Eq.refl (some NameKind.local)) ?e5_call19 ?_; (case e1_call19 => k_extra "fx"); (case e2_call19 => k_asm); (case e3_call19 => k_asm); (case e4_call19 => k_extra "ev"); (case e5_call19 => rfl); k_whole); intro h' tk' lm F' N'; (try k_sweep)) | fail)
  (k_with "call:20" => first | (k_here; (with_reducible refine (?_ : wpAny _ _ (callWith _ _ [_] (backTo _ (starEach (_ :: _) _)) []) _ _ _)); k_dflt (first | (refine' callM ?e1_call20 ?e2_call20 ?e3_call20 ?e4_call20 ?_; (case e1_call20 => k_extra "fx"); (case e2_call20 => k_asm); (case e3_call20 => k_asm); (case e4_call20 => k_dflt (k_extra "evs")); k_whole) | (refine' callO ?e1_call20 ?e2_call20 ?e3_call20 ?e4_call20 ?e5_call20 ?_; (case e1_call20 => k_extra "fx"); (case e2_call20 => k_asm); (case e3_call20 => k_asm); (case e4_call20 => k_extra "evs"); (case e5_call20 => k_is); k_whole) | fail)) | fail)
  trivial
section
theorem reset_ret : True := by
  (w_top off)
  trivial
section
-- part ret
theorem ret_ed {h₀ : Heap} {L : Addr} {m : Str → Option Value} {sg : Array GenState} {sd : Drawn} {so : OsState} {Q : Value → Shared → Prop} {V : Value} {E : Led} (kk : ∀ h' tk', Fr h₀ L h' m → News h₀ L h' (E) → Q (V) ⟨h', sg, sd, tk', so⟩) : ∀ v h' tk' D', Fr h₀ L h' m → News h₀ L h' D' → (v = V ∧ D' = E) → Q v ⟨h', sg, sd, tk', so⟩ := fun v h' tk' D' F N p => by obtain ⟨e9, d9⟩ := p; subst e9; subst d9; exact kk  _ _ F N
theorem ret_ted {h₀ : Heap} {L : Addr} {m : Str → Option Value} {sg : Array GenState} {sd : Drawn} {so : OsState} {Q : Value → Shared → Prop} {V : Tok → Value} {E : Led} (kk : ∀ t h' tk', Fr h₀ L h' m → News h₀ L h' (E) → Q (V t) ⟨h', sg, sd, tk', so⟩) : ∀ v h' tk' D', Fr h₀ L h' m → News h₀ L h' D' → ((∃ t, v = V t) ∧ D' = E) → Q v ⟨h', sg, sd, tk', so⟩ := fun v h' tk' D' F N p => by obtain ⟨⟨t, e9⟩, d9⟩ := p; subst e9; subst d9; exact kk _ _ _ F N
theorem ret_tued {h₀ : Heap} {L : Addr} {m : Str → Option Value} {sg : Array GenState} {sd : Drawn} {so : OsState} {Q : Value → Shared → Prop} {V : Tok → Tok → Value} {E : Tok → Tok → Led} (kk : ∀ t u h' tk', Fr h₀ L h' m → News h₀ L h' (E t u) → Q (V t u) ⟨h', sg, sd, tk', so⟩) : ∀ v h' tk' D', Fr h₀ L h' m → News h₀ L h' D' → (∃ t u, v = V t u ∧ D' = E t u) → Q v ⟨h', sg, sd, tk', so⟩ := fun v h' tk' D' F N p => by obtain ⟨t, u, e9, d9⟩ := p; subst e9; subst d9; exact kk _ _ _ _ F N
theorem ret_str {h₀ : Heap} {L : Addr} {m : Str → Option Value} {sg : Array GenState} {sd : Drawn} {so : OsState} {Q : Value → Shared → Prop} {V : Tok → Value} {all : Led} (kk : ∀ t tl h' tk', Fr h₀ L h' m → News h₀ L h' (tl ++ all) → Fresh all tl → Q (V t) ⟨h', sg, sd, tk', so⟩) : ∀ v h' tk' D', Fr h₀ L h' m → News h₀ L h' D' → ((∃ t, v = V t) ∧ ∃ tl, D' = tl ++ all ∧ Fresh all tl) → Q v ⟨h', sg, sd, tk', so⟩ := fun v h' tk' D' F N p => by obtain ⟨⟨t, e9⟩, tl, d9, f9⟩ := p; subst e9; subst d9; exact kk _ _ _ _ F N f9
theorem ret_tl {h₀ : Heap} {L : Addr} {m : Str → Option Value} {sg : Array GenState} {sd : Drawn} {so : OsState} {Q : Value → Shared → Prop} {all : Led} {P1 : Led → Value → Prop} (kk : ∀ v tl h' tk', Fr h₀ L h' m → News h₀ L h' (tl ++ all) → Fresh all tl → P1 tl v → Q v ⟨h', sg, sd, tk', so⟩) : ∀ v h' tk' D', Fr h₀ L h' m → News h₀ L h' D' → (∃ tl, D' = tl ++ all ∧ Fresh all tl ∧ P1 tl v) → Q v ⟨h', sg, sd, tk', so⟩ := fun v h' tk' D' F N p => by obtain ⟨tl, d9, f9, p1⟩ := p; subst d9; exact kk _ _ _ _ F N f9 p1
theorem ret_num {h₀ : Heap} {L : Addr} {m : Str → Option Value} {sg : Array GenState} {sd : Drawn} {so : OsState} {Q : Value → Shared → Prop} {V : Addr → Led → Tok → Tok → Nat → Value} {all : Led} {P1 : Addr → Led → Tok → Tok → Nat → Prop} (kk : ∀ a tl t u k h' tk', Fr h₀ L h' m → News h₀ L h' (tl ++ all) → P1 a tl t u k → Fresh all tl → Q (V a tl t u k) ⟨h', sg, sd, tk', so⟩) : ∀ v h' tk' D', Fr h₀ L h' m → News h₀ L h' D' → (∃ a tl t u k, v = V a tl t u k ∧ P1 a tl t u k ∧ D' = tl ++ all ∧ Fresh all tl) → Q v ⟨h', sg, sd, tk', so⟩ := fun v h' tk' D' F N p => by obtain ⟨a, tl, t, u, k, e9, p1, d9, f9⟩ := p; subst e9; subst d9; exact kk _ _ _ _ _ _ _ F N p1 f9
theorem ret_to {h₀ : Heap} {L : Addr} {m : Str → Option Value} {sg : Array GenState} {sd : Drawn} {so : OsState} {Q : Value → Shared → Prop} {V : Addr → Led → Value} {all : Led} {P1 : Addr → Led → Prop} (kk : ∀ x tl h' tk', Fr h₀ L h' m → News h₀ L h' (tl ++ all) → Fresh all tl → P1 x tl → Q (V x tl) ⟨h', sg, sd, tk', so⟩) : ∀ v h' tk' D', Fr h₀ L h' m → News h₀ L h' D' → (∃ x tl, v = V x tl ∧ D' = tl ++ all ∧ Fresh all tl ∧ P1 x tl) → Q v ⟨h', sg, sd, tk', so⟩ := fun v h' tk' D' F N p => by obtain ⟨x, tl, e9, d9, f9, p1⟩ := p; subst e9; subst d9; exact kk _ _ _ _ F N f9 p1
theorem ret_oneP {h₀ : Heap} {L : Addr} {m : Str → Option Value} {sg : Array GenState} {sd : Drawn} {so : OsState} {Q : Value → Shared → Prop} {V : Str → Tok → Obj → Value} {E : Str → Tok → Obj → Led} {P1 : Str → Tok → Obj → Prop} {P2 : Str → Tok → Obj → Prop} (kk : ∀ s t o h' tk', Fr h₀ L h' m → News h₀ L h' (E s t o) → P1 s t o → P2 s t o → Q (V s t o) ⟨h', sg, sd, tk', so⟩) : ∀ v h' tk' D', Fr h₀ L h' m → News h₀ L h' D' → (∃ s t o, v = V s t o ∧ P1 s t o ∧ D' = E s t o ∧ P2 s t o) → Q v ⟨h', sg, sd, tk', so⟩ := fun v h' tk' D' F N p => by obtain ⟨s, t, o, e9, p1, d9, p2⟩ := p; subst e9; subst d9; exact kk _ _ _ _ _ F N p1 p2
theorem ret_one2 {h₀ : Heap} {L : Addr} {m : Str → Option Value} {sg : Array GenState} {sd : Drawn} {so : OsState} {Q : Value → Shared → Prop} {V : Bool → Tok → Obj → Value} {E : Bool → Tok → Obj → Led} {P1 : Bool → Tok → Obj → Prop} (kk : ∀ c t o h' tk', Fr h₀ L h' m → News h₀ L h' (E c t o) → P1 c t o → Q (V c t o) ⟨h', sg, sd, tk', so⟩) : ∀ v h' tk' D', Fr h₀ L h' m → News h₀ L h' D' → (∃ c t o, v = V c t o ∧ D' = E c t o ∧ P1 c t o) → Q v ⟨h', sg, sd, tk', so⟩ := fun v h' tk' D' F N p => by obtain ⟨c, t, o, e9, d9, p1⟩ := p; subst e9; subst d9; exact kk _ _ _ _ _ F N p1
theorem ret_take {h₀ : Heap} {L : Addr} {m : Str → Option Value} {sg : Array GenState} {sd : Drawn} {so : OsState} {Q : Value → Shared → Prop} {V : Int → Tok → Obj → Value} {E : Int → Tok → Obj → Led} {P1 : Int → Tok → Obj → Prop} {P2 : Int → Tok → Obj → Prop} {P3 : Int → Tok → Obj → Prop} (kk : ∀ r t o h' tk', Fr h₀ L h' m → News h₀ L h' (E r t o) → P1 r t o → P2 r t o → P3 r t o → Q (V r t o) ⟨h', sg, sd, tk', so⟩) : ∀ v h' tk' D', Fr h₀ L h' m → News h₀ L h' D' → (∃ r t o, v = V r t o ∧ P1 r t o ∧ P2 r t o ∧ D' = E r t o ∧ P3 r t o) → Q v ⟨h', sg, sd, tk', so⟩ := fun v h' tk' D' F N p => by obtain ⟨r, t, o, e9, p1, p2, d9, p3⟩ := p; subst e9; subst d9; exact kk _ _ _ _ _ F N p1 p2 p3
theorem ret_use {α : Type} {h₀ : Heap} {L : Addr} {m : Str → Option Value} {sg : Array GenState} {sd : Drawn} {so : OsState} {Q : Value → Shared → Prop} {E : Obj → Led → α → Led} {P1 : Obj → Led → α → Value → Prop} {P2 : Obj → Led → α → Value → Prop} {P3 : Obj → Led → α → Value → Prop} {P4 : Obj → Led → α → Value → Prop} {P5 : Obj → Led → α → Value → Prop} (kk : ∀ v o tl ws h' tk', Fr h₀ L h' m → News h₀ L h' (E o tl ws) → P1 o tl ws v → P2 o tl ws v → P3 o tl ws v → P4 o tl ws v → P5 o tl ws v → Q v ⟨h', sg, sd, tk', so⟩) : ∀ v h' tk' D', Fr h₀ L h' m → News h₀ L h' D' → (∃ o tl ws, D' = E o tl ws ∧ P1 o tl ws v ∧ P2 o tl ws v ∧ P3 o tl ws v ∧ P4 o tl ws v ∧ P5 o tl ws v) → Q v ⟨h', sg, sd, tk', so⟩ := fun v h' tk' D' F N p => by obtain ⟨o, tl, ws, d9, p1, p2, p3, p4, p5⟩ := p; subst d9; exact kk _ _ _ _ _ _ F N p1 p2 p3 p4 p5
theorem ret_row {α : Type} {h₀ : Heap} {L : Addr} {m : Str → Option Value} {sg : Array GenState} {sd : Drawn} {so : OsState} {Q : Value → Shared → Prop} {E : Obj → Led → α → Led} {P1 : Obj → Led → α → Value → Prop} {P2 : Obj → Led → α → Value → Prop} {P3 : Obj → Led → α → Value → Prop} {P4 : Obj → Led → α → Value → Prop} {P5 : Obj → Led → α → Value → Prop} {P6 : Obj → Led → α → Value → Prop} (kk : ∀ v o tl tt h' tk', Fr h₀ L h' m → News h₀ L h' (E o tl tt) → P1 o tl tt v → P2 o tl tt v → P3 o tl tt v → P4 o tl tt v → P5 o tl tt v → P6 o tl tt v → Q v ⟨h', sg, sd, tk', so⟩) : ∀ v h' tk' D', Fr h₀ L h' m → News h₀ L h' D' → (∃ o tl tt, D' = E o tl tt ∧ P1 o tl tt v ∧ P2 o tl tt v ∧ P3 o tl tt v ∧ P4 o tl tt v ∧ P5 o tl tt v ∧ P6 o tl tt v) → Q v ⟨h', sg, sd, tk', so⟩ := fun v h' tk' D' F N p => by obtain ⟨o, tl, tt, d9, p1, p2, p3, p4, p5, p6⟩ := p; subst d9; exact kk _ _ _ _ _ _ F N p1 p2 p3 p4 p5 p6
theorem ret_ids {α : Type} {h₀ : Heap} {L : Addr} {m : Str → Option Value} {sg : Array GenState} {sd : Drawn} {so : OsState} {Q : Value → Shared → Prop} {V : Addr → Led → α → Value} {all : Led} {P1 : Addr → Led → α → Prop} {P2 : Addr → Led → α → Prop} {P3 : Addr → Led → α → Prop} {P4 : Addr → Led → α → Prop} (kk : ∀ x tl ids h' tk', Fr h₀ L h' m → News h₀ L h' (tl ++ all) → Fresh all tl → P1 x tl ids → P2 x tl ids → P3 x tl ids → P4 x tl ids → Q (V x tl ids) ⟨h', sg, sd, tk', so⟩) : ∀ v h' tk' D', Fr h₀ L h' m → News h₀ L h' D' → (∃ x tl ids, v = V x tl ids ∧ D' = tl ++ all ∧ Fresh all tl ∧ P1 x tl ids ∧ P2 x tl ids ∧ P3 x tl ids ∧ P4 x tl ids) → Q v ⟨h', sg, sd, tk', so⟩ := fun v h' tk' D' F N p => by obtain ⟨x, tl, ids, e9, d9, f9, p1, p2, p3, p4⟩ := p; subst e9; subst d9; exact kk _ _ _ _ _ F N f9 p1 p2 p3 p4
theorem ret_elof {h₀ : Heap} {L : Addr} {m : Str → Option Value} {sg : Array GenState} {sd : Drawn} {so : OsState} {Q : Value → Shared → Prop} {V : Addr → Addr → Led → Int → Int → Int → Int → Tok → Tok → Tok → Tok → Value} {all : Led} {P1 : Addr → Addr → Led → Int → Int → Int → Int → Tok → Tok → Tok → Tok → Prop} {P2 : Addr → Addr → Led → Int → Int → Int → Int → Tok → Tok → Tok → Tok → Prop} (kk : ∀ x y tl i1 i2 i3 i4 t1 t2 t3 t4 h' tk', Fr h₀ L h' m → News h₀ L h' (tl ++ all) → Fresh all tl → P1 x y tl i1 i2 i3 i4 t1 t2 t3 t4 → P2 x y tl i1 i2 i3 i4 t1 t2 t3 t4 → Q (V x y tl i1 i2 i3 i4 t1 t2 t3 t4) ⟨h', sg, sd, tk', so⟩) : ∀ v h' tk' D', Fr h₀ L h' m → News h₀ L h' D' → (∃ x y tl i1 i2 i3 i4 t1 t2 t3 t4, v = V x y tl i1 i2 i3 i4 t1 t2 t3 t4 ∧ D' = tl ++ all ∧ Fresh all tl ∧ P1 x y tl i1 i2 i3 i4 t1 t2 t3 t4 ∧ P2 x y tl i1 i2 i3 i4 t1 t2 t3 t4) → Q v ⟨h', sg, sd, tk', so⟩ := fun v h' tk' D' F N p => by obtain ⟨x, y, tl, i1, i2, i3, i4, t1, t2, t3, t4, e9, d9, f9, p1, p2⟩ := p; subst e9; subst d9; exact kk _ _ _ _ _ _ _ _ _ _ _ _ _ F N f9 p1 p2
theorem ret_lstr {h₀ : Heap} {L : Addr} {m : Str → Option Value} {sg : Array GenState} {sd : Drawn} {so : OsState} {Q : Value → Shared → Prop} {V : Tok → Obj → Led → Value} {E : Tok → Obj → Led → Led} {P1 : Tok → Obj → Led → Prop} {P2 : Tok → Obj → Led → Prop} (kk : ∀ t o tl h' tk', Fr h₀ L h' m → News h₀ L h' (E t o tl) → P1 t o tl → P2 t o tl → Q (V t o tl) ⟨h', sg, sd, tk', so⟩) : ∀ v h' tk' D', Fr h₀ L h' m → News h₀ L h' D' → (∃ t o tl, v = V t o tl ∧ D' = E t o tl ∧ P1 t o tl ∧ P2 t o tl) → Q v ⟨h', sg, sd, tk', so⟩ := fun v h' tk' D' F N p => by obtain ⟨t, o, tl, e9, d9, p1, p2⟩ := p; subst e9; subst d9; exact kk _ _ _ _ _ F N p1 p2
theorem ret_lok {h₀ : Heap} {L : Addr} {m : Str → Option Value} {sg : Array GenState} {sd : Drawn} {so : OsState} {Q : Value → Shared → Prop} {V : Addr → Obj → Obj → Led → Value} {E : Addr → Obj → Obj → Led → Led} {P1 : Addr → Obj → Obj → Led → Prop} {P2 : Addr → Obj → Obj → Led → Prop} {P3 : Addr → Obj → Obj → Led → Prop} {P4 : Addr → Obj → Obj → Led → Prop} {P5 : Addr → Obj → Obj → Led → Prop} (kk : ∀ x tup o tl h' tk', Fr h₀ L h' m → News h₀ L h' (E x tup o tl) → P1 x tup o tl → P2 x tup o tl → P3 x tup o tl → P4 x tup o tl → P5 x tup o tl → Q (V x tup o tl) ⟨h', sg, sd, tk', so⟩) : ∀ v h' tk' D', Fr h₀ L h' m → News h₀ L h' D' → (∃ x tup o tl, v = V x tup o tl ∧ P1 x tup o tl ∧ P2 x tup o tl ∧ D' = E x tup o tl ∧ P3 x tup o tl ∧ P4 x tup o tl ∧ P5 x tup o tl) → Q v ⟨h', sg, sd, tk', so⟩ := fun v h' tk' D' F N p => by obtain ⟨x, tup, o, tl, e9, p1, p2, d9, p3, p4, p5⟩ := p; subst e9; subst d9; exact kk _ _ _ _ _ _ F N p1 p2 p3 p4 p5
theorem ret_uok {h₀ : Heap} {L : Addr} {m : Str → Option Value} {sg : Array GenState} {sd : Drawn} {so : OsState} {Q : Value → Shared → Prop} {E : Obj → Led → Led} {P1 : Obj → Led → Value → Prop} {P2 : Obj → Led → Value → Prop} {P3 : Obj → Led → Value → Prop} (kk : ∀ v o tl h' tk', Fr h₀ L h' m → News h₀ L h' (E o tl) → P1 o tl v → P2 o tl v → P3 o tl v → Q v ⟨h', sg, sd, tk', so⟩) : ∀ v h' tk' D', Fr h₀ L h' m → News h₀ L h' D' → (∃ o tl, D' = E o tl ∧ P1 o tl v ∧ P2 o tl v ∧ P3 o tl v) → Q v ⟨h', sg, sd, tk', so⟩ := fun v h' tk' D' F N p => by obtain ⟨o, tl, d9, p1, p2, p3⟩ := p; subst d9; exact kk _ _ _ _ _ F N p1 p2 p3
end

theorem reset_okt : True := by
  (w_top off)
  trivial
section
-- part okt
noncomputable def EntOk (k v : Str) : Prop :=
  (k = S "href" ∧ ∃ nm, Txt.slice v none (some 1) = S "#" ∧ tailS v = nm ∧ v.length ≤ 16) ∨ (k = S "xlink:href" ∧ ∃ nm, Txt.slice v none (some 1) = S "#" ∧ tailS v = nm ∧ v.length ≤ 16) ∨
  (k = S "x" ∧ (v = S "3" ∨ v = S "-2" ∨ v = S "0")) ∨ (k = S "y" ∧ (v = S "7" ∨ v = S "50%")) ∨ (k = S "transform" ∧ v = S "scale(2)") ∨ k = S "width" ∨ k = S "height" ∨ k = S "fill" ∨ k = S "id"
noncomputable def WsOk (ws : Ws) : Prop := ∀ p ∈ ws, EntOk p.1 p.2
mutual
noncomputable def OkT : T → Prop
  | .mk name ws kids _ => ws.length ≤ 16 ∧ kids.length ≤ 16 ∧ (name = S "use" → kids = [] ∧ WsOk ws) ∧ OkTs kids
noncomputable def OkTs : List T → Prop
  | [] => True
  | t :: ts => OkT t ∧ OkTs ts
end
theorem OkTs.mem : ∀ {ts : List T} {t : T}, OkTs ts → t ∈ ts → OkT t
  | _ :: _, t, h, m => by
    unfold OkTs at h
    rcases List.mem_cons.mp m with rfl | m
    · exact h.1
    · exact OkTs.mem h.2 m
inductive UsesOk (o : Obj) (idd : Addr) (most made : Nat) : Prop
  | mk (h1 h2 h3 : Int) (t1 t2 t3 t4 t5 : Tok) (e : o = dictOf [⟨h1, .str (S "ids") t1, .ref idd⟩, ⟨h2, .str (S "most") t2, .int (most : Int) t4⟩, ⟨h3, .str (S "made") t3, .int (made : Int) t5⟩] 3)
noncomputable def tupObj (vs : Array Value) (n : Nat) : Obj := { cls := .type "tuple", data := .seq vs n }
noncomputable def TupK (w : World) (D : Led) (x : Addr) (vs : Array Value) : Prop := (∃ n, (x, tupObj vs n) ∈ D) ∨ ∃ n, ∀ h : Heap, (hd.heap_1 w.params).In h → h.get? x = some (tupObj vs n)
theorem TupK.mono {w : World} {D D' : Led} {x : Addr} {vs : Array Value} (X : TupK w D x vs) (h : ∀ p ∈ D, p ∈ D') : TupK w D' x vs := by
  rcases X with ⟨n, m⟩ | r
  · exact .inl ⟨n, h _ m⟩
  · exact .inr r
theorem TupK.is {w : World} {D D' : Led} {x : Addr} {vs : Array Value} {h₀ h : Heap} {L : Addr} {m : Str → Option Value} (X : TupK w D x vs) (F : Fr h₀ L h m) (K : (hd.heap_1 w.params).In h₀) (N : News h₀ L h D') (sub : ∀ p ∈ D, p ∈ D') : IsTup h x vs := by
  rcases X with ⟨n, q⟩ | ⟨n, q⟩
  · exact News.isTup N (sub _ q)
  · exact ⟨_, (F.keep _ _ (q _ K)), rfl, n, rfl⟩
noncomputable def StrsV : List Value → List Str → Prop
  | [], [] => True
  | v :: vs, n :: ns => (∃ t, v = .str n t) ∧ StrsV vs ns
  | _, _ => False
noncomputable def NamesIn (w : World) (D : Led) (x : Addr) (names : List Str) : Prop := names.length ≤ 12 ∧ ∃ vs, TupK w D x vs ∧ StrsV vs.toList names
theorem NamesIn.mono {w : World} {D D' : Led} {x : Addr} {ns : List Str} (X : NamesIn w D x ns) (h : ∀ p ∈ D, p ∈ D') : NamesIn w D' x ns := let ⟨z, vs, a, b⟩ := X; ⟨z, vs, a.mono h, b⟩
noncomputable def IdsAre (w : World) (R : Value → T → Prop) : List (Str × Value) → List (Str × T) → Prop
  | [], [] => True
  | a :: r, b :: q => (a.1 = b.1 ∧ R a.2 b.2) ∧ IdsAre w R r q
  | _, _ => False
noncomputable def IdsIn (w : World) (R : Led → Value → T → Prop) (D : Led) (d : Addr) (ids : List (Str × T)) : Prop :=
  ∃ o kvs, (d, o) ∈ D ∧ o.IsDictOf (strKind prg w) kvs ∧ IdsAre w (R D) kvs ids ∧ (d == sysModules) = false
theorem IdsAre.mono {w : World} {R R' : Value → T → Prop} (h : ∀ v t, R v t → R' v t) : ∀ {kvs : List (Str × Value)} {ids : List (Str × T)}, IdsAre w R kvs ids → IdsAre w R' kvs ids
  | [], [], _ => trivial
  | [], _ :: _, x => x.elim
  | _ :: _, [], x => x.elim
  | _ :: _, _ :: _, x => ⟨⟨x.1.1, h _ _ x.1.2⟩, IdsAre.mono h x.2⟩
theorem idsE_mono {w : World} {D D' : Led} {d : Addr} {ids : List (Str × T)} (X : IdsIn w (ElemIn w) D d ids) (h : ∀ p ∈ D, p ∈ D') : IdsIn w (ElemIn w) D' d ids :=
  let ⟨o, kvs, a, b, c, e⟩ := X; ⟨o, kvs, h _ a, b, c.mono fun _ _ z => ElemIn.mono h z, e⟩
theorem IdsAre.some {w : World} {R : Value → T → Prop} : ∀ {kvs : List (Str × Value)} {ids : List (Str × T)} {nm : Str} {t : T}, IdsAre w R kvs ids → lookT ids nm = some t → ∃ v, valueAt kvs nm = some v ∧ R v t
  | [], [], _, _, _, h => by cases h
  | [], _ :: _, _, _, x, _ => x.elim
  | _ :: _, [], _, _, x, _ => x.elim
  | a :: r, b :: q, nm, t, ⟨⟨e, hv⟩, hr⟩, h => by
    unfold lookT at h
    unfold valueAt
    rw [List.find?_cons] at h ⊢
    rw [e]
    by_cases hb : b.1 = nm
    · simp only [hb, decide_true, Option.map_some, Option.some.injEq] at h ⊢
      exact ⟨_, rfl, h ▸ hv⟩
    · simp only [hb, decide_false] at h ⊢
      exact IdsAre.some hr h
theorem IdsAre.none {w : World} {R : Value → T → Prop} : ∀ {kvs : List (Str × Value)} {ids : List (Str × T)} {nm : Str}, IdsAre w R kvs ids → lookT ids nm = none → valueAt kvs nm = none
  | [], [], _, _, _ => rfl
  | [], _ :: _, _, x, _ => x.elim
  | _ :: _, [], _, x, _ => x.elim
  | a :: r, b :: q, nm, ⟨⟨e, hv⟩, hr⟩, h => by
    unfold lookT at h
    unfold valueAt
    rw [List.find?_cons] at h ⊢
    rw [e]
    by_cases hb : b.1 = nm
    · simp only [hb, decide_true, Option.map_some] at h; cases h
    · simp only [hb, decide_false] at h ⊢
      exact IdsAre.none hr h
noncomputable def PutPost (w : World) (ud : Addr) (idd : Addr) (most : Nat) (o : Obj) (D all : Led) (res : Res × Nat) (v : Value) (D' : Led) : Prop :=
  ∃ t' made' o' tl, res = (.ok t', made') ∧ D' = (ud, o') :: (tl ++ all) ∧ UsesOk o' idd most made' ∧ Fresh ((ud, o) :: all) tl ∧ ElemIn w (tl ++ D) v t'
noncomputable def PutBad (res : Res × Nat) (C : Addr) : Prop := (C = 75 ∧ res.1 = .limit) ∨ (C = 63 ∧ res.1 = .sheet)
noncomputable def PutC (w : World) (ids : List (Str × T)) (most n : Nat) : Prop :=
  ∀ {t : T} {names : List Str} {made : Nat} {v : Value} {nx : Addr} {D all : Led} {u ud idd : Addr} {o : Obj}, UsesOk o idd most made → (∀ p ∈ D, p ∈ all) → ElemIn w D v t → NamesIn w D nx names → (u, instObj 264 ud) ∈ D → IdsIn w (ElemIn w) D idd ids → (∀ p ∈ all, @Ne Nat p.1 ud) → rank t names ≤ n → OkT t →
    CallX w (6 * n + 60) 254 [.ref u, v, .ref nx] ((ud, o) :: all) all (PutPost w ud idd most o D all (putF ids most n t names made)) (PutBad (putF ids most n t names made))
end

theorem reset_take : True := by
  (w_top off)
  (k_with "b0" => first | ((with_reducible refine (?_ : wpAny _ _ (exec (Stmt.Return (some _) _) _) _ _ _)); first | (with_reducible (k_extra "call:18")) | fail) | fail)
  (k_with "b1" => first | ((with_reducible refine (?_ : wpAny _ _ (eval (Expr.Name _ _) _) _ _ _)); first | (with_reducible (k_extra "call:6")) | fail) | fail)
  (k_with "b2" => first | ((with_reducible refine (?_ : wpAny _ _ (storeName _ _ _) _ _ _)); first | (with_reducible (k_extra "call:11")) | fail) | fail)
  trivial
section
-- part take
inductive SrcOk (o : Obj) : Prop
  | mk (x y : Int) (t1 t2 : Tok) (n : Nat) (e : o = listOf #[.int x t1, .int y t2] n) (hx : 0 ≤ x) (hy : 0 ≤ y) (hz : y < 2147483647)
theorem g0 (x y : Int) : [x, y].getD (Int.toNat 0) 0 = x := rfl
theorem g1 (x y : Int) : [x, y].getD (Int.toNat 1) 0 = y := rfl
theorem kw_takew8 : True := by
  (k_with "take;8" => first | (refine PySem.IntMulOk.of_right (PySem.intBits_le_64 ?_ ?_) <;> (simp only [g0, g1, Int.fmod_eq_emod_of_nonneg _ (show (0:Int) ≤ 2147483647 by decide)]; omega)) | fail)
  trivial
local macro_rules | `(tactic| mul_fits) => `(tactic| k_extra "take;8")
theorem c_take {w : World} {src : Addr} {x y top : Int} {t1 t2 t3 : Tok} {n : Nat} {D : Led} (h0 : 0 ≤ x) (h1 : 0 ≤ y) (h2 : y < 2147483647) (h3 : 0 < top) (h4 : top < 1000) (off : ∀ p ∈ D, @Ne Nat p.1 src) :
    Call w 3 303 [.ref src, .int top t3] ((src, listOf #[.int x t1, .int y t2] n) :: D)
      fun v D' => ∃ r t o, v = .int r t ∧ 0 ≤ r ∧ r < top ∧ D' = (src, o) :: D ∧ SrcOk o := by
  constructor
  intro dp un gd cn cs a ccd cl outer A₀ base h₀ L m sh sg sd st so mean mg mb Q E B F X N T hk hdp hun ret
  skip
  refine wpAny_call ?_
  k_dflt ktr_enter
  (repeat' (first | k_extra "sa" | k_extra "b0" | k_extra "b1" | k_extra "b2" | k_extra "sz"))
  · refine ret _ _ _ _ (by k_asm) (by k_asm) ⟨_, _, _, rfl, Int.fmod_nonneg_of_pos _ h3, Int.fmod_lt_of_pos _ h3, rfl, _, _, _, _, _, rfl, ?_, h1, h2⟩
    show 0 ≤ x.fdiv top
    rw [Int.fdiv_eq_ediv_of_nonneg _ (Int.le_of_lt h3)]
    exact Int.ediv_nonneg h0 (Int.le_of_lt h3)
  · refine ret _ _ _ _ (by k_asm) (by k_asm) ⟨_, _, _, rfl, Int.fmod_nonneg_of_pos _ h3, Int.fmod_lt_of_pos _ h3, rfl, _, _, _, _, _, rfl, h0, ?_, ?_⟩
    · show 0 ≤ (y * 39373 + 7).fmod 2147483647
      rw [Int.fmod_eq_emod_of_nonneg _ (by decide)]; omega
    · show (y * 39373 + 7).fmod 2147483647 < 2147483647
      rw [Int.fmod_eq_emod_of_nonneg _ (by decide)]; omega
theorem c_take' {w : World} {src : Addr} {o : Obj} {top : Int} {t3 : Tok} {D : Led} (hS : SrcOk o) (h3 : 0 < top) (h4 : top < 1000) (off : ∀ p ∈ D, @Ne Nat p.1 src) :
    Call w 3 303 [.ref src, .int top t3] ((src, o) :: D)
      fun v D' => ∃ r t o, v = .int r t ∧ 0 ≤ r ∧ r < top ∧ D' = (src, o) :: D ∧ SrcOk o := by
  (with_reducible refine (?_ : (let lG : Prop := _; lG))); intro lG; obtain ⟨x, y, t1, t2, n, rfl, h0, h1, h2⟩ := hS; k_unfold; clear lG
  exact c_take h0 h1 h2 h3 h4 off
end

end
theorem kw_take_1 : True := by
  (k_with "take:1" => first | (k_here; (with_reducible refine (?_ : wpAny _ _ (call (Value.ref 303) _) _ _ _)); (try ((fail_if_success (fail_if_success k_fold)); (refine fold1 ?_); intro qk)); k_dflt (refine' Call.use (c_take' ?hS_take1 ?h3_take1 ?h4_take1 ?off_take1) ?k1_take1 ?k2_take1 ?k3_take1 ?k4_take1 ?k5_take1 ?k6_take1 ?kd_take1 ?ku_take1 (Cut.all ?kC_take1) ?_; (case k1_take1 => k_asm); (case k2_take1 => k_asm); (case k3_take1 => k_asm); (case k4_take1 => k_asm); (case k5_take1 => k_asm); (case k6_take1 => first | exact rfl | assumption); (case kd_take1 => ktr_room); (case ku_take1 => ktr_units); (case kC_take1 => (repeat' (first | exact Cut.here | refine' Cut.there ?_))); (case hS_take1 => assumption); (case off_take1 => k_all); (case h3_take1 => first | omega | decide); (case h4_take1 => first | omega | decide); k_whole); (k_dflt (refine' ret_take ?_)); intro r9 t9 o9 h9 tk9 F9 N9 g09 g19 g29; (try k_sweep); (try dsimp only); (try k_fold)) | fail)
  trivial
section
theorem reset_one : True := by
  (w_top off)
  (k_with "b3" => first | ((with_reducible refine (?_ : wpAny _ _ (call (Value.builtin "len") _) _ _ _)); first | (with_reducible (k_extra "one1")) | fail) | fail)
  (k_with "b4" => first | ((with_reducible refine (?_ : wpAny _ _ (call (Value.ref _) _) _ _ _)); first | (with_reducible (k_extra "take:1")) | fail) | fail)
  (k_with "b5" => first | ((with_reducible refine (?_ : wpAny _ _ (eval (Expr.Call _ _ _ _) _) _ _ _)); first | (with_reducible (k_extra "call:15")) | fail) | fail)
  (k_with "b6" => first | ((with_reducible refine (?_ : wpAny _ _ (subscriptTail _ _ _ _) _ _ _)); first | (with_reducible (k_extra "one2")) | fail) | fail)
  trivial
section
-- part one
section
theorem kw_one1 : True := by
  (k_with "one1" => first | (k_here; (with_reducible refine (?_ : wpAny _ _ (call (Value.builtin "len") [Value.ref _]) _ _ _)); k_dflt (refine' len_list ?k1_one1 ?z_one1 ?_; (case k1_one1 => exact News.isList (by k_asm) (by k_mem)); (case z_one1 => omega); k_whole)) | fail)
  (k_with "one2" => first | (k_here; (with_reducible refine (?_ : wpAny _ _ (subscriptTail _ _ (Value.ref _) (Value.int _ _)) _ _ _)); k_dflt (refine' item_list ?k1_one2 ?z_one2 ?h_one2 ?hx_one2 ?_; (case k1_one2 => exact News.isList (by k_asm) (by k_mem)); (case z_one2 => omega); (case h_one2 => omega); (case hx_one2 => exact Array.getElem?_eq_getElem (by omega)); k_whole)) | fail)
  trivial
theorem c_one {w : World} {src th : Addr} {o : Obj} {vs : Array Value} {k : Nat} {D : Led} (hS : SrcOk o) (off : ∀ p ∈ D, @Ne Nat p.1 src) (mt : (th, listOf vs k) ∈ D) (z0 : 0 < vs.size) (z1 : vs.size < 1000) :
    Call w 8 310 [.ref src, .ref th] ((src, o) :: D)
      fun v D' => ∃ o, (∃ (i : Nat) (h : i < vs.size), v = vs[i]) ∧ D' = (src, o) :: D ∧ SrcOk o := by
  constructor
  intro dp un gd cn cs a ccd cl outer A₀ base h₀ L m sh sg sd st so mean mg mb Q E B F X N T hk hdp hun ret
  skip
  refine wpAny_call ?_
  k_dflt ktr_enter
  (repeat' (first | k_extra "sa" | k_extra "b3" | k_extra "b4" | k_extra "b5" | k_extra "b1" | k_extra "b6" | k_extra "sz"))
  exact ret _ _ _ _ (by k_asm) (by k_asm) ⟨_, ⟨_, _, rfl⟩, rfl, by assumption⟩
end
end

theorem reset_elof : True := by
  (w_top off)
  (k_with "b7" => first | ((with_reducible refine (?_ : wpAny _ _ (call (Value.ref _) _) _ _ _)); first | (with_reducible (k_extra "call:2")) | fail) | fail)
  trivial
section
-- part elof
theorem c_elof {w : World} {D : Led} {nm tx : Str} {t1 t2 : Tok} {d l : Addr} :
    Call w 6 232 [.str nm t1, .ref d, .ref l, .str tx t2] D
      fun v D' => ∃ x dx tl h1 h2 h3 h4 s1 s2 s3 s4, v = .ref x ∧ D' = tl ++ D ∧ Fresh D tl ∧ (x, instObj 203 dx) ∈ tl ∧
        (dx, dictOf [⟨h1, .str (S "name") s1, .str nm t1⟩, ⟨h2, .str (S "attributes") s2, .ref d⟩, ⟨h3, .str (S "children") s3, .ref l⟩, ⟨h4, .str (S "text") s4, .str tx t2⟩] 4) ∈ tl := by
  constructor
  intro dp un gd cn cs a ccd cl outer A₀ base h₀ L m sh sg sd st so mean mg mb Q E B F X N T hk hdp hun ret
  skip
  refine wpAny_call ?_
  k_dflt ktr_enter
  (repeat' (first | k_extra "sa" | k_extra "b0" | k_extra "b5" | k_extra "b1" | k_extra "b7" | k_extra "b2" | k_extra "sz"))
  exact ret _ _ _ _ (by k_asm) (by k_asm) ⟨_, _, [_, _, _], _, _, _, _, _, _, _, _, rfl, rfl, by ktr_rel, by k_mem, by k_mem⟩
end

end
theorem kw_elof_1 : True := by
  (k_with "elof:1" => first | (k_here; (with_reducible refine (?_ : wpAny _ _ (call (Value.ref 232) _) _ _ _)); (try ((fail_if_success (fail_if_success k_fold)); (refine fold1 ?_); intro qk)); k_dflt (refine' Call.use c_elof ?k1_elof1 ?k2_elof1 ?k3_elof1 ?k4_elof1 ?k5_elof1 ?k6_elof1 ?kd_elof1 ?ku_elof1 (fun _ h => h) ?_; (case k1_elof1 => k_asm); (case k2_elof1 => k_asm); (case k3_elof1 => k_asm); (case k4_elof1 => k_asm); (case k5_elof1 => k_asm); (case k6_elof1 => first | exact rfl | assumption); (case kd_elof1 => ktr_room); (case ku_elof1 => ktr_units); k_whole); (k_dflt (refine' ret_elof ?_)); intro x9 y9 tl9 i19 i29 i39 i49 t19 t29 t39 t49 h9 tk9 F9 N9 g09 g19 g29; (try k_sweep); (try dsimp only); (try k_fold)) | fail)
  trivial
section
theorem reset_comp : True := by
  (w_top off)
  trivial
section
-- part comp
-- an exception in flight whose marker says any frame
noncomputable def AnyW (base : Heap) (l : List Env) (e : Addr) (cls a0 : Value) (h : Heap) : Prop :=
  base.StaysIn h ∧ base.get? e = none ∧ h.FunFrames base l ∧ ∃ fl, h.TracedAtW base e cls a0 fl
noncomputable def RaisedA (base G : Heap) (l : List Env) (e : Addr) (cls : Value) (t : Addr) (vs : List Value) (news : Led) (h : Heap) : Prop :=
  (∃ B, base.StaysIn B ∧ (∀ b o, G.get? b = some o → b ∉ l.filterMap (·.frame) → B.get? b = some o) ∧ (∀ q ∈ news, B.get? q.1 = some q.2 ∧ G.get? q.1 = none ∧ base.get? q.1 = none) ∧ AnyW B l e cls (.ref t) h ∧ B.get? t = none) ∧ h.TupAt t vs
theorem hide_none {B : Heap} {as : List Addr} {b : Addr} (q : B.get? b = none) : (hideAll B as).get? b = none := by
  cases z : (hideAll B as).get? b with
  | none => rfl
  | some o' => rw [of_hideAll _ z] at q; cases q
section
variable {M : Model} {A : Around} {E : Value → Shared → Prop} {s : Shared}
theorem anyW_setFlight {base : Heap} {l : List Env} {e : Addr} {cls a0 : Value} {fr : Option Addr} {Q : Unit → Shared → Prop} (R : AnyW base l e cls a0 s.heap)
    (h : ∀ h', AnyW base l e cls a0 h' → s.heap.UpToSlots h' → Q () { s with heap := h' }) : wpAny M A (setFlight (.ref e) fr) Q E s := by
  (with_reducible refine (?_ : (let lG : Prop := _; lG))); intro lG; obtain ⟨hkb, hen, hl, fl, oe, vs, T, oT, ts, he, hcls, hd, h1, hnT, hTe, hT, hdT, h3⟩ := R; k_unfold; clear lG
  have hsz3 : 3 < ts.size := (Array.getElem?_eq_some_iff.mp h3).1
  have other : ∀ b, b ≠ T → (s.heap.update T (Obj.mapFields (·.setIfInBounds 3 (fr.elim Value.none fun f => rawInt f)))).get? b = s.heap.get? b :=
    fun b hb => Heap.get?_update_other _ _ (Ne.symm hb)
  have notT : ∀ b o, s.heap.get? b = some o → (∀ vs, o.data ≠ .fields vs) → b ≠ T := fun b o hb hnf q => by
    rw [q, hT] at hb; injection hb with hb; subst hb; exact hnf ts hdT
  unfold setFlight
  refine wpAny_bind (wpAny_field he hd h1 ?_)
  rw [if_pos (show (Value.ref T != Value.none) = true from by simp)]
  refine wpAny_setField hT hdT hsz3 (h _ ⟨fun b o hbo => (other b fun q => by rw [q, hnT] at hbo; cases hbo).trans (hkb b o hbo), hen,
    hl.of_keeps fun b o hb hnf => ⟨o, (other b (notT b o hb hnf)).trans hb, rfl⟩, ?_⟩ fun b o hb hnf => ⟨o.slots, (other b (notT b o hb hnf)).trans hb⟩)
  exact ⟨fr.elim Value.none (fun f => rawInt f), oe, vs, T, _, _, (other e (Ne.symm hTe)).trans he, hcls, hd, h1, hnT, hTe, Heap.get?_update_self _ hT (Obj.isFreed_of_fields (Obj.data_mapFields hdT _)), Obj.data_mapFields hdT _, by simp [hsz3]⟩
theorem anyW_note {base : Heap} {env : Env} {outer : List Env} {L e : Addr} {cls a0 : Value} {Q : Unit → Shared → Prop}
    (hfr : A.frames = some (env :: outer)) (hf : env.frame = some L) (R : AnyW base (env :: outer) e cls a0 s.heap)
    (h : ∀ h', AnyW base (env :: outer) e cls a0 h' → s.heap.UpToSlots h' → Q () { s with heap := h' }) : wpAny M A (noteFrame (.ref e) env) Q E s := by
  (with_reducible refine (?_ : (let lG : Prop := _; lG))); intro lG; obtain ⟨hkb, hen, hl, fl, oe, vs, T, oT, ts, he, ⟨hcls, h0⟩, hd, h1, hnT, hTe, hT, hdT, h3⟩ := id R; k_unfold; clear lG
  subst hcls
  unfold noteFrame
  simp only [hf]
  refine wpAny_bind (wpAny_field he hd h1 ?_)
  rw [if_pos (show (Value.ref T != Value.none) = true from by simp)]
  refine wpAny_bind (wpAny_field hT hdT h3 ?_)
  by_cases hfl : (fl == rawInt L) = true
  · rw [if_pos hfl]
    exact wpAny_pure (h s.heap R (Heap.UpToSlots.refl _))
  rw [if_neg hfl]
  refine wpAny_bind (wpAny_setField hT hdT (Array.getElem?_eq_some_iff.mp h3).1 ?_)
  have other : ∀ b, b ≠ T → (s.heap.update T (Obj.mapFields (·.setIfInBounds 3 Value.none))).get? b = s.heap.get? b := fun b hb => Heap.get?_update_other _ _ (Ne.symm hb)
  have notT : ∀ b o, s.heap.get? b = some o → (∀ vs, o.data ≠ .fields vs) → b ≠ T := fun b o hb hnf q => by
    rw [q, hT] at hb; injection hb with hb; subst hb; exact hnf ts hdT
  refine wpAny_entryW hfr (hl.of_keeps fun b o hb hnf => ⟨o, (other b (notT b o hb hnf)).trans hb, rfl⟩) hf ((other e (Ne.symm hTe)).trans he)
    (fun b o hbo => (other b fun q => by rw [q, hnT] at hbo; cases hbo).trans (hkb b o hbo)) hen hd (Array.getElem?_eq_some_iff.mp h1).1 h0
    fun h' ⟨x1, x2, x3, x4⟩ => h h' ⟨x1, hen, x2, _, x3⟩ fun b o hb hnf => x4 b o ((other b (notT b o hb hnf)).trans hb) hnf
theorem anyW_leaving {base : Heap} {env : Env} {outer : List Env} {L e : Addr} {cls a0 : Value} {Q : Unit → Shared → Prop}
    (hfr : A.frames = some (env :: outer)) (hf : env.frame = some L) (R : AnyW base (env :: outer) e cls a0 s.heap)
    (h : ∀ h', Heap.FlyingW base outer e cls a0 h' → s.heap.UpToSlots h' → Q () { s with heap := h' }) : wpAny M A (leaving env (.ref e)) Q E s := by
  unfold leaving
  refine wpAny_bind (anyW_note hfr hf R fun h₁ R₁ u₁ => ?_)
  (with_reducible refine (?_ : (let lG : Prop := _; lG))); intro lG; obtain ⟨r1, r2, r3, fl, r4⟩ := R₁; k_unfold; clear lG
  refine wpAny_setFlight_noneW r1 r3 r4 fun h' k1 k2 k3 k4 => h h' ⟨k1, r2, ?_, k3⟩ (u₁.trans fun b o hb hn => ⟨o.slots, k4 b o hb hn⟩)
  obtain ⟨_, _, k2'⟩ := k2
  exact k2'
end
section
variable {M : Model} {A : Around} {E : Value → Shared → Prop} {s' : Shared} {base g G : Heap} {outer : List Env} {L a e t : Addr} {m : Str → Option Value} {name : Str} {scope : Scope} {cd cls : Value} {vs : List Value} {Q : Unit → Shared → Prop} {news : Led}
theorem mem_env {name : Str} {scope : Scope} {L a b : Addr} {cd : Value} {cl : List (Str × Addr)} {outer : List Env} (hm : b ∈ (envX name scope L a cd cl :: outer).filterMap (·.frame)) : b = L ∨ b ∈ outer.filterMap (·.frame) := by
  obtain ⟨env, he, hf⟩ := List.mem_filterMap.mp hm
  rcases List.mem_cons.mp he with rfl | he
  · exact .inl (Option.some.inj hf).symm
  · exact .inr (List.mem_filterMap.mpr ⟨env, he, hf⟩)
variable {cl : List (Str × Addr)}
theorem raised_up {B : Heap} (F : Fr g L G m) (hBG : ∀ b o, G.get? b = some o → b ∉ (envX name scope L a cd cl :: outer).filterMap (·.frame) → B.get? b = some o) : ∀ b o, g.get? b = some o → b ∉ outer.filterMap (·.frame) → B.get? b = some o :=
  fun b o q nm => hBG b o (F.keep b o q) (fun hm => by
    rcases mem_env hm with z | z
    · rw [z, kts_self F] at q
      cases q
    · exact nm z)
theorem leave_any (K : Below A base outer g) (R : RaisedA base G (envX name scope L a cd cl :: outer) e cls t vs news s'.heap) (F : Fr g L G m) (hsm : G.UpToSlots s'.heap)
    (hQ : ∀ h', RaisedS base g outer e cls t vs news h' → g.UpToSlots h' → Q () { s' with heap := h' }) :
    wpAny M (A.deeper (envX name scope L a cd cl)) (leaving (envX name scope L a cd cl) (.ref e)) Q E s' := by
  obtain ⟨⟨B, hB, hBG, hl, hh, hnew⟩, htup⟩ := R
  refine anyW_leaving (L := L) (Around.frames_deeper K.stack) rfl hh fun h' hfl hs => ?_
  have R : RaisedS base g outer e cls t vs news h' := ⟨⟨B, hB, raised_up F hBG, fun q hq => ⟨(hl q hq).1, kts_none F.keep (hl q hq).2.1, (hl q hq).2.2⟩, hfl, hnew⟩, htup.of_slots hs⟩
  exact hQ h' R ((Heap.UpToSlots.of_keeps F.keep).trans (hsm.trans hs))
theorem leave_onX (K : Below A base outer g) (R : RaisedS base G (envX name scope L a cd cl :: outer) e cls t vs news s'.heap) (F : Fr g L G m) (hsm : G.UpToSlots s'.heap)
    (hQ : ∀ h', RaisedS base g outer e cls t vs news h' → g.UpToSlots h' → Q () { s' with heap := h' }) :
    wpAny M (A.deeper (envX name scope L a cd cl)) (leaving (envX name scope L a cd cl) (.ref e)) Q E s' := by
  obtain ⟨⟨B, hB, hBG, hl, hfl, hnew⟩, htup⟩ := R
  exact wpAny_leaves_onW (L := L) (Around.frames_deeper K.stack) rfl hfl fun h' x1 x2 =>
    hQ h' ⟨⟨B, hB, raised_up F hBG, fun q hq => ⟨(hl q hq).1, kts_none F.keep (hl q hq).2.1, (hl q hq).2.2⟩, x1, hnew⟩, htup.of_slots x2⟩ ((Heap.UpToSlots.of_keeps F.keep).trans (hsm.trans x2))
theorem leave_newXS (K : Below A base outer g) {h : Heap} (hx : MadeXS h s'.heap e cls t vs) (F : Fr g L h m) (N : News g L h news)
    (hQ : ∀ h', RaisedS base g outer e cls t vs news h' → g.UpToSlots h' → Q () { s' with heap := h' }) (hk : scope.kind = .function := by rfl) :
    wpAny M (A.deeper (envX name scope L a cd cl)) (leaving (envX name scope L a cd cl) (.ref e)) Q E s' := by
  have K' := pushX (env := envX name scope L a cd cl) K F rfl hk
  have hin : ∀ env ∈ (envX name scope L a cd cl :: outer), ∀ b, env.frame = some b → b ∈ (envX name scope L a cd cl :: outer).filterMap (·.frame) := fun env he b hb => List.mem_filterMap.mpr ⟨env, he, hb⟩
  have st : base.StaysIn (hideAll h ((envX name scope L a cd cl :: outer).filterMap (·.frame))) := fun b o q => hideAll_get _ (K'.stays b o q) fun hm => by
    rw [(K'.frames.mem hm).1] at q; cases q
  have sg : ∀ b o, g.get? b = some o → b ∉ outer.filterMap (·.frame) → (hideAll h ((envX name scope L a cd cl :: outer).filterMap (·.frame))).get? b = some o := fun b o q nm => hideAll_get _ (F.keep b o q) fun hm => by
    rcases mem_env hm with z | z
    · rw [z, kts_self F] at q
      cases q
    · exact nm z
  have hl : ∀ q ∈ news, (hideAll h ((envX name scope L a cd cl :: outer).filterMap (·.frame))).get? q.1 = some q.2 ∧ g.get? q.1 = none ∧ base.get? q.1 = none := fun q hq => by
    refine ⟨hideAll_get _ (N q hq).1 fun hm => ?_, (N q hq).2.2, fresh_of_stays K.stays (N q hq).2.2⟩
    rcases mem_env hm with z | z
    · exact (N q hq).2.1 z
    · obtain ⟨o, ho, _⟩ := (K.frames.mem z).2
      rw [(N q hq).2.2] at ho; cases ho
  obtain ⟨dd, sl, he⟩ := hx.there
  have hen := hide_none (as := (envX name scope L a cd cl :: outer).filterMap (·.frame)) hx.new
  have htn := hide_none (as := (envX name scope L a cd cl :: outer).filterMap (·.frame)) hx.newT
  refine wpAny_leaving_firstW (a0 := .ref t) (L := L) K'.stack ((funFrames_hide K'.frames hin).of_keeps fun b o hb _ => ⟨o, hx.keeps b o hb, rfl⟩) rfl he (fun b o hb => hx.keeps b o (of_hideAll _ hb)) hen rfl rfl rfl fun h' hL => ?_
  refine anC4 hL ?_; (try clear hL); intro k1 hO1 k3 k4; obtain ⟨_, _, k2⟩ := hO1
  have u : s'.heap.UpToSlots h' := k4
  exact hQ h' ⟨⟨_, st, sg, hl, ⟨k1, hen, k2, k3⟩, htn⟩, hx.tup.of_slots u⟩ (((Heap.UpToSlots.of_keeps F.keep).trans (Heap.UpToSlots.of_keeps hx.keeps)).trans k4)
end
section
variable {prog : Program} {w : World} {A : Around} {E : Value → Shared → Prop} {s s' : Shared} {base G h₀ : Heap} {outer : List Env} {L C e t : Addr} {m m₂ : Str → Option Value} {env env₁ : Env} {cls : Value} {vs : List Value} {news : Led} {oC : Obj}
theorem frames_hide1 {B h h' : Heap} {C : Addr} (hb : ∃ o, B.get? C = some o) (k : ∀ b o, b ≠ C → h.get? b = some o → h'.get? b = some o) : ∀ {l : List Env}, h.FunFrames B l → h'.FunFrames (hideAll B [C]) l
  | [], _ => trivial
  | env :: _, ⟨hk, ⟨L, o, hf, hn, ho, hd⟩, hr⟩ => ⟨hk, ⟨L, o, hf, hide_none hn, k L o (fun q => by obtain ⟨_, hb⟩ := hb; rw [q, hb] at hn; cases hn) ho, hd⟩, frames_hide1 hb k hr⟩
theorem comp_err {acc : Value} {use : Option (Value → Sem Unit)} {Qv : Value → Shared → Prop} (hfr : A.frames = some (env :: outer)) (hf : env.frame = some L) (h1 : noteFrame (.ref e) env₁ = noteFrame (.ref e) env)
    (R : RaisedS base G (env :: outer) e cls t vs ((C, oC) :: news) s'.heap) (U : G.UpToSlots s'.heap) (hC : LCg.NsObj oC m₂) (off : ∀ p ∈ news, p.1 ≠ C)
    (k : ∀ h', RaisedA base G (env :: outer) e cls t vs news h' → G.UpToSlots h' → E (.ref e) { s' with heap := h' }) :
    notedBy (model prog w) A env₁ (fun x s'' => compPost (model prog w) A E use Qv acc C (.error x) s'') (.ref e) s' := by
  show wpAny (model prog w) A (noteFrame (.ref e) env₁) (fun _ s'' => compPost (model prog w) A E use Qv acc C (.error (.ref e)) s'') _ s'
  rw [h1]
  obtain ⟨⟨B, hB, hBG, hl, hfl, hnew⟩, htup⟩ := R
  refine wpAny_looks_onW hfr hf hfl fun h₁ hh hs => ?_
  have hCB : B.get? C = some oC := (hl _ (.head _)).1
  have hCG : G.get? C = none := (hl _ (.head _)).2.1
  have hCb : base.get? C = none := (hl _ (.head _)).2.2
  have main : ∃ m, h₁.Ns C m ∧ ∀ h', Heap.SameBut C h₁ h' → ∀ cenv : Env, cenv.locals = C → wpAny (model prog w) A (PySem.passOn "comprehension.variables-let-go" (.ref e) cenv : Sem Value) (fun _ _ => False) E { s' with heap := h' } := by
    refine ⟨m₂, hC.ns (hh.1 _ _ hCB), fun h₂ hs₂ cenv _ => ?_⟩
    have up : ∀ b o, b ≠ C → h₁.get? b = some o → h₂.get? b = some o := fun b o q e => hs₂.extBut b o q e
    have low : ∀ b o, (hideAll B [C]).get? b = some o → b ≠ C ∧ B.get? b = some o := fun b o q =>
      ⟨fun z => (by rw [z, hideAll_none [C] (List.Mem.head _)] at q; cases q), of_hideAll _ q⟩
    have hide : ∀ b o, b ≠ C → B.get? b = some o → (hideAll B [C]).get? b = some o := fun b o q e => hideAll_get _ e (by simpa using q)
    have none' : ∀ b, B.get? b = none → (hideAll B [C]).get? b = none := fun b q => hide_none q
    (with_reducible refine (?_ : (let lG : Prop := _; lG))); intro lG; obtain ⟨x1, x2, x3, oe, ws, T, oT, ts, he, hc, hd, h1, hnT, hTe, hT, hdT, h3⟩ := hh; k_unfold; clear lG
    have notC : ∀ b, B.get? b = none → b ≠ C := fun b q z => by rw [z, hCB] at q; cases q
    have R₂ : AnyW (hideAll B [C]) (env :: outer) e cls (.ref t) h₂ := ⟨fun b o q => up b o (low b o q).1 (x1 _ _ (low b o q).2), none' _ x2, frames_hide1 ⟨_, hCB⟩ up x3,
      _, oe, ws, T, oT, ts, up _ _ (notC _ x2) he, hc, hd, h1, none' _ hnT, hTe, up _ _ (notC _ hnT) hT, hdT, h3⟩
    have htup₂ : h₂.TupAt t vs := by
      refine exC2 (htup.of_slots hs) ?_; intro o n hR; refine anC3 hR ?_; clear hR; intro ho hoc hod
      exact exI2 o n ⟨up _ _ (notC _ hnew) ho, hoc, hod⟩
    have U₂ : G.UpToSlots h₂ := fun b o hb hn => by
      obtain ⟨sl, q⟩ := (U.trans hs) b o hb hn
      exact ⟨sl, up _ _ (fun z => by rw [z, hCG] at hb; cases hb) q⟩
    have he₂ : h₂.get? e = some oe := up _ _ (notC _ x2) he
    unfold PySem.passOn
    refine wpAny_bind (wpAny_field he₂ hd h1 ?_)
    rw [if_neg (show ¬ ((Value.ref T == Value.none) = true) from by simp)]
    have fin : ∀ {f : Option Addr}, wpAny (model prog w) A (setFlight (.ref e) f) (fun _ s₂ => wpAny (model prog w) A (throw (.ref e) : Sem Value) (fun _ _ => False) E s₂) E { s' with heap := h₂ } := fun {f} =>
      anyW_setFlight R₂ fun h' hh' hs' => wpAny_throw (k h' ⟨⟨_, fun b o q => hide b o (fun z => by rw [z, hCb] at q; cases q) (hB b o q), fun b o q nm => hide b o (fun z => by rw [z, hCG] at q; cases q) (hBG b o q nm),
        fun q hq => ⟨hide _ _ (off q hq) (hl q (.tail _ hq)).1, (hl q (.tail _ hq)).2⟩, hh', none' _ hnew⟩, htup₂.of_slots hs'⟩ (U₂.trans hs'))
    first
      | exact wpAny_bind (wpAny_pure (wpAny_bind fin))
      | exact wpAny_bind fin
  unfold compPost
  cases use <;> exact main
end
noncomputable def SrcX (prog : Program) (w : World) (A : Around) (base h₀ : Heap) (outer : List Env) (L : Addr) (m : Str → Option Value) (env : Env) (elt : Expr) (x y : Str) (scope : Scope) (cl : List (Str × Addr)) (Q : Flow → Shared → Prop) (E : Value → Shared → Prop) (xv : Value) (s₁ : Shared) : Prop :=
  ∃ (ax : Addr) (its : Array Value) (n : Nat) (news : Led) (Inv : Nat → List Value → Led → Prop) (Bad : Value → Led → Prop),
    xv = .ref ax ∧ A.handled = none ∧ Fr h₀ L s₁.heap m ∧ News h₀ L s₁.heap news ∧ its.size ≤ sizeLine ∧ (∀ i ys nw, Inv i ys nw → (ax, listOf its n) ∈ nw) ∧ Inv 0 [] news ∧
    (∀ (i : Nat) (v : Value) (ys : List Value) (nw : Led) (I : Addr) (oI : Obj) (C : Addr) (oC : Obj) (D : Addr) (m₂ : Str → Option Value) (h : Heap) (tk : Nat) (E' : Value → Shared → Prop), its[i]? = some v → Inv i ys nw → LCg.NsObj oC m₂ → m₂ x = some v → Fr h₀ L h m →
      News h₀ L h ((I, oI) :: (C, oC) :: (D, LCg.lst ys) :: nw) → LCg.Off3 I C D nw → ((@Ne Nat I C) ∧ (@Ne Nat I D) ∧ (@Ne Nat C D)) →
      (∀ ea cls t vs G nw' h' tk', RaisedS base G (env :: outer) ea cls t vs ((C, oC) :: nw') h' → (∀ p ∈ nw', p.1 ≠ C) → G.UpToSlots h' → Fr h₀ L G m → Bad cls nw' → E' (.ref ea) { s₁ with heap := h', toks := tk' }) →
      wpAny (model prog w) A (eval elt (compEnvC scope cl C env)) (LCg.CompEnd h₀ L m { s₁ with heap := h, toks := tk } I oI C oC D (LCg.lst ys) (fun _ => True) (fun y' nw' => Inv (i + 1) (ys ++ [y']) nw')) E' { s₁ with heap := h, toks := tk }) ∧
    (∀ ys nw D h tk, Inv its.size ys nw → Fr h₀ L h (fun z => if z = y then some (.ref D) else m z) → News h₀ L h ((D, LCg.lst ys) :: nw) → LCg.Off1 D nw → Q .next { s₁ with heap := h, toks := tk }) ∧
    (∀ ea cls t vs G nw' h' tk', RaisedA base G (env :: outer) ea cls t vs nw' h' → G.UpToSlots h' → Fr h₀ L G m → Bad cls nw' → E (.ref ea) { s₁ with heap := h', toks := tk' })
section
variable {prog : Program} {w : World} {A : Around} {E : Value → Shared → Prop} {s : Shared} {base h₀ : Heap} {outer : List Env} {L : Addr} {m : Str → Option Value} {env : Env}
theorem comp_X {elt iter : Expr} {x y : Str} {px py : Pos} {scope : Scope} {cl : List (Str × Addr)} {pos spos : Pos} {Q : Flow → Shared → Prop} (F₀ : Fr h₀ L s.heap m) {A₁ : Around} (K₀ : Below A₁ base outer h₀) (hLe : env.locals = L) (hfr : A.frames = some (env :: outer)) (hf : env.frame = some L)
    (hsw : swapsWith (.ListComp elt [⟨.Name x px, iter, [], 0⟩] scope pos) (some (.Name y py)) spos.line env = pure true)
    (hclos : closureFor scope env = pure cl) (hcell : ∀ z ∈ scope.names, z.2 ≠ .cell) (hkind : scope.kind = .function)
    (hnames : ∀ z ∈ scope.names, z.2 = .local → scope.names.lookup z.1 = some .local) (hx : scope.names.lookup x = some .local)
    (hy : env.kindOf y = some .local) (hp : (env.scope.kind == .class || (env.scope.kind == .module && env.locals != env.globals)) = false)
    (h : wpAny (model prog w) A (eval iter env) (SrcX prog w A base h₀ outer L m env elt x y scope cl Q E) E s)
    (hs : ∀ x, foldedSetIterable iter env x = pure x := by intro _; rfl) :
    wpAny (model prog w) A (exec (.Assign [.Name y py] (.ListComp elt [⟨.Name x px, iter, [], 0⟩] scope pos) spos) env) Q E s := by
  subst hLe
  rw [exec_Assign_Name_used _ _ _ _ hsw]
  refine wpAny_bind (wpAny_standAt (wpAny_bind ?_))
  show wpAny _ A (do let _ ← comprehension (.ListComp elt [⟨.Name x px, iter, [], 0⟩] scope pos) scope env _ (newList []) false (eval iter env) (some (assign (.Name y py) env))) _ _ s
  refine wpAny_bind (wpAny_mono (wpAny_comprehension_free (use := some (assign (.Name y py) env)) (Q := fun _ s' => Q .next s') rfl hs hclos hkind hnames
    (wpAny_mono h (fun xv s₁ h₁ => ?_) fun _ _ e => e)) (fun _ s' hq => wpAny_pure (wpAny_pure hq)) fun _ _ e => e)
  refine exC6 h₁ ?_; (try clear h₁); intro ax its n news Inv Bad hR; refine anC10 hR ?_; clear hR; intro hO6 hh F N hsz hmem hI0 turn fin exc; subst hO6
  have hl : s₁.heap.IsList ax its := ⟨_, (N _ (hmem _ _ _ hI0)).1, rfl, _, rfl⟩
  have hlt : ax < s₁.heap.objs.size := Heap.lt_size (N _ (hmem _ _ _ hI0)).1
  refine wpAny_pyIter_list hl ?_
  have W := Walks.list (prog := prog) (w := w) hh s₁.heap.objs.size ax (Nat.ne_of_lt hlt) its
  -- the iterator stands
  have up : ∀ b o, s₁.heap.get? b = some o → (s₁.heap.push { cls := .type "list_iterator", data := .fields #[.ref ax, .int 0 0] }).get? b = some o := fun b o e => Heap.get?_push_of_some _ e
  generalize hH1 : s₁.heap.push { cls := .type "list_iterator", data := .fields #[.ref ax, .int 0 0] } = H1 at up ⊢
  have hIl : s₁.heap.objs.size < H1.objs.size := by rw [← hH1, Heap.size_push]; exact Nat.lt_succ_self _
  have hst₀ : H1.IsListIter s₁.heap.objs.size ax 0 ∧ H1.IsList ax its := ⟨⟨_, by rw [← hH1]; exact Heap.get?_push_size _ rfl, rfl, rfl⟩, by rw [← hH1]; exact hl.push _⟩
  have hI0' : h₀.get? s₁.heap.objs.size = none := next_is_new F
  have hIL : env.locals ≠ s₁.heap.objs.size := Nat.ne_of_lt F.ns.lt
  have offI : ∀ p ∈ news, p.1 ≠ s₁.heap.objs.size := fun p hp => Nat.ne_of_lt (Heap.lt_size (N p hp).1)
  have F₁ := F.keeps up
  have N₁ := N.grown up
  generalize s₁.heap.objs.size = I at *
  refine wpAny_newObj_type (wpAny_newFunctionEnv hcell (by intro z hz; simp at hz) (fun h₁ hns₁ hsb₁ => ?_) hkind)
  dsimp only at hns₁ hsb₁ ⊢
  generalize hH2 : H1.push { cls := .type "list", dict := none, data := .seq ([] : List Value).toArray } = H2 at hns₁ hsb₁ ⊢
  have hC : H2.objs.size = H1.objs.size + 1 := by rw [← hH2, Heap.size_push]
  have hDC : H1.objs.size ≠ H2.objs.size := by rw [hC]; exact Nat.ne_of_lt (Nat.lt_succ_self _)
  have below : ∀ b, b < H1.objs.size → b ≠ H2.objs.size ∧ b ≠ H1.objs.size := fun b hb => ⟨by rw [hC]; exact Nat.ne_of_lt (Nat.lt_succ_of_lt hb), Nat.ne_of_lt hb⟩
  have old : ∀ b o, H1.get? b = some o → h₁.get? b = some o := fun b o e => hsb₁.extBut b o (below b (Heap.lt_size e)).1 (Heap.get?_push_of_some _ (hH2 ▸ Heap.get?_push_of_some _ e))
  have hacc : h₁.get? H1.objs.size = some (LCg.lst []) := hsb₁.extBut _ _ hDC (Heap.get?_push_of_some _ (hH2 ▸ Heap.get?_push_size _ rfl))
  have fresh₀ : ∀ a, H1.objs.size ≤ a → h₀.get? a = none := fun a ha => by
    cases e : h₀.get? a with
    | none => rfl
    | some o' => exact absurd (Heap.lt_size (F₁.keep a o' e)) (Nat.not_lt.mpr ha)
  have hD₀ : h₀.get? H1.objs.size = none := fresh₀ _ (Nat.le_refl _)
  have hC₀ : h₀.get? H2.objs.size = none := fresh₀ _ (by rw [hC]; exact Nat.le_succ _)
  have hLlt : env.locals < H1.objs.size := F₁.ns.lt
  have hDL : H1.objs.size ≠ env.locals := Ne.symm (below _ hLlt).2
  have hCL : H2.objs.size ≠ env.locals := Ne.symm (below _ hLlt).1
  have hCI : I ≠ H2.objs.size := (below I hIl).1
  have hDI : I ≠ H1.objs.size := (below I hIl).2
  have haD : ax ≠ H1.objs.size := (below ax (Heap.lt_size (N₁ _ (hmem _ _ _ hI0)).1)).2
  have haC : ax ≠ H2.objs.size := (below ax (Heap.lt_size (N₁ _ (hmem _ _ _ hI0)).1)).1
  have off₀ : LCg.Off3 I H2.objs.size H1.objs.size news := LCg.Off3.of fun p hp => ⟨offI p hp, (below _ (Heap.lt_size (N₁ p hp).1)).1, (below _ (Heap.lt_size (N₁ p hp).1)).2⟩
  have hst₁ := W.frame _ _ _ hst₀ fun b _ o e => old b o e
  generalize H2.objs.size = C at *
  generalize H1.objs.size = D at *
  have loop : ∀ s₃ : Shared, s₃ = { s₁ with heap := h₁, toks := s₁.toks + ([] : List (Str × Value)).length } →
      codeAny (model prog w) A (.compLoop (.ListComp elt [⟨.Name x px, iter, [], 0⟩] scope pos) 0 (.ref I) (.ref D) (compEnvC scope cl C env))
        (fun r s' => compPost (model prog w) A E (some (assign (.Name y py) env)) (fun _ s' => Q .next s') (.ref D) C r s') s₃ := by
    rintro s₃ rfl
    refine codeAny_compLoop_tests
      (fun k s' => ∃ h' tk i ys m' news', s' = { s₁ with heap := h', toks := tk } ∧ i ≤ its.size ∧ k = its.size + 1 - i ∧ ys.length = i ∧ (h'.IsListIter I ax i ∧ h'.IsList ax its) ∧ Fr h₀ env.locals h' m ∧ h'.Ns C m' ∧ News h₀ env.locals h' ((D, LCg.lst ys) :: news') ∧
        LCg.Off3 I C D news' ∧ Inv i ys news') ?_ (its.size + 1)
      ⟨h₁, _, 0, [], _, news, rfl, Nat.zero_le _, rfl, rfl, hst₁, F₁.keeps old, hns₁, fun p hp => ?_, off₀, hI0⟩
    · intro k s' hI9; refine exC6 hI9 ?_; (try clear hI9); intro h' tk i ys m' news' hR; refine anC10 hR ?_; clear hR; intro hO6 hi hO8 hyl hst' F' hn' N' off' hI'; subst hO6; subst hO8
      by_cases hlt : i < its.size
      · refine W.item i _ _ _ hlt hst' fun v h₂ tk₂ hPv hst₂ hk₂ => ?_
        refine wpAny_assign_Name (wpAny_storeName_local (lookup_relabel_local hx) (hn'.at' fun o e => hk₂ _ o (by simpa using Ne.symm hCI) e) (fun h₃ hn₃ hs₃ => ?_) (by simp [compEnvC, relabel, hkind]))
        refine wpAny_tests_nil ?_
        simp only [if_true]
        have hst₃ := W.frame _ h₂ h₃ hst₂ fun b hb o e => hs₃.extBut b o (fun q => by
          have q' : b = C := q
          rcases List.mem_cons.mp hb with z | z
          · exact hCI (z.symm.trans q')
          · exact haC ((List.mem_singleton.mp z).symm.trans q')) e
        obtain ⟨oI, heI, _⟩ := id hst₃.1
        obtain ⟨oC, heC, hoC⟩ := LCg.ns_obj hn₃
        have F₃ : Fr h₀ env.locals h₃ m := (LCg.fr_but F' hk₂ hIL hI0').change hs₃ hCL hC₀
        have off3 := off'.mem
        have N₂ : News h₀ env.locals h₂ ((D, LCg.lst ys) :: news') := LCg.news_but N' hk₂ fun p hp => by
          rcases List.mem_cons.mp hp with rfl | hp
          · exact Ne.symm hDI
          · exact (off3 p hp).1
        have N₃ : News h₀ env.locals h₃ ((I, oI) :: (C, oC) :: (D, LCg.lst ys) :: news') := fun p hp => by
          rcases List.mem_cons.mp hp with rfl | hp
          · exact ⟨heI, Ne.symm hIL, hI0'⟩
          · rcases List.mem_cons.mp hp with rfl | hp
            · exact ⟨heC, hCL, hC₀⟩
            · have z := N₂ p hp
              refine ⟨hs₃.extBut _ _ ?_ z.1, z.2⟩
              rcases List.mem_cons.mp hp with rfl | hp
              · exact hDC
              · exact (off3 p hp).2.1
        refine wpAny_mono (turn i v ys news' I oI C oC D _ h₃ _ _ hPv hI' hoC (by simp) F₃ N₃ off' ⟨hCI, hDI, Ne.symm hDC⟩ fun ea cls t vs G nw' h' tk' R off U FG hb => ?_) (fun z s₄ h₄ => ?_) fun _ _ e => e
        · exact comp_err (L := env.locals) hfr hf (by rfl) R U hoC off fun h'' R' U' => exc _ _ _ _ _ _ _ _ R' U' FG hb
        refine exC3 h₄ ?_; (try clear h₄); intro h₄ tk₄ news₄ hR; refine anC6 hR ?_; clear hR; intro hO3 F₄ N₄ off₄ _ hI₄; subst hO3
        have zI := (N₄ (I, oI) List.mem_cons_self).1
        have zC := (N₄ (C, oC) (List.mem_cons_of_mem _ List.mem_cons_self)).1
        have zD := (N₄ (D, LCg.lst ys) (List.mem_cons_of_mem _ (List.mem_cons_of_mem _ List.mem_cons_self))).1
        have N₄' : News h₀ env.locals h₄ news₄ := fun p hp => N₄ p (List.mem_cons_of_mem _ (List.mem_cons_of_mem _ (List.mem_cons_of_mem _ hp)))
        have hst₄ : h₄.IsListIter I ax (i + 1) ∧ h₄.IsList ax its := ⟨by obtain ⟨o', q, r⟩ := hst₃.1; rw [heI] at q; cases q; exact ⟨oI, zI, r⟩, ⟨_, (N₄' _ (hmem _ _ _ hI₄)).1, rfl, _, rfl⟩⟩
        refine append_at (hsz := by show ys.toArray.size ≤ sizeLine; rw [List.size_toArray, hyl]; exact Nat.le_trans hi hsz) zD fun h₅ hs₅ hD₅ => ?_
        have off4 := off₄.mem
        refine ⟨its.size + 1 - (i + 1), Nat.sub_lt_sub_left (Nat.lt_succ_of_lt hlt) (Nat.lt_succ_self i), h₅, tk₄, i + 1, ys ++ [z], _, news₄, rfl, hlt, rfl, by rw [List.length_append, List.length_singleton, hyl], W.frame _ _ _ hst₄ fun b hb o e => hs₅.extBut b o (fun q => by
            have q' : b = D := q
            rcases List.mem_cons.mp hb with z | z
            · exact hDI (z.symm.trans q')
            · exact haD ((List.mem_singleton.mp z).symm.trans q')) e, F₄.change hs₅ hDL hD₀,
          (hoC.ns zC).sameBut hs₅ (Ne.symm hDC), fun p hp => ?_, off₄, hI₄⟩
        rcases List.mem_cons.mp hp with rfl | hp
        · exact ⟨hD₅.trans (congrArg some (LCg.lst_snoc ys z)), hDL, hD₀⟩
        · exact ⟨hs₅.extBut _ _ (off4 p hp).2.2 (N₄' p hp).1, (N₄' p hp).2⟩
      · obtain rfl : i = its.size := Nat.le_antisymm hi (Nat.not_lt.mp hlt)
        refine W.done _ _ _ hst' fun h₂ tk₂ hk₂ => ?_
        have off3 := off'.mem
        have F₂ := LCg.fr_but F' hk₂ hIL hI0'
        have N₂ := LCg.news_but N' hk₂ fun p hp => by
          rcases List.mem_cons.mp hp with rfl | hp
          · exact Ne.symm hDI
          · exact (off3 p hp).1
        have hn₂ := hn'.at' fun o e => hk₂ _ o (by simpa using Ne.symm hCI) e
        show wpAny _ A (assign (.Name y py) env (.ref D)) _ _ _
        refine wpAny_assign_Name (wpAny_storeName_local hy F₂.ns (fun h₃ hn₃ hs₃ => ?_) hp)
        have hL₀ : h₀.get? env.locals = none := Heap.get?_none_of_le F₂.above
        have F₃ : Fr h₀ env.locals h₃ (fun z => if z = y then some (.ref D) else m z) := ⟨hn₃, fun b o e => hs₃.extBut b o (fun q => by rw [q, hL₀] at e; cases e) (F₂.keep b o e), F₂.above⟩
        refine ⟨m', hn₂.sameBut hs₃ hCL, fun h'' hs'' => fin ys news' D h'' _ hI' (F₃.change hs'' hCL hC₀) (fun p hp => ?_) off'.one⟩
        have z : h₃.get? p.1 = some p.2 := hs₃.extBut _ _ (N₂ p hp).2.1 (N₂ p hp).1
        refine ⟨hs''.extBut _ _ ?_ z, (N₂ p hp).2⟩
        rcases List.mem_cons.mp hp with rfl | hp
        · exact hDC
        · exact (off3 p hp).2.1
    · rcases List.mem_cons.mp hp with rfl | hp
      · exact ⟨hacc, hDL, hD₀⟩
      · exact ⟨old _ _ (N₁ p hp).1, (N₁ p hp).2⟩
  exact codeAny_compStart_list (loop _ rfl) (W.self 0 _ _ _ hst₁ (loop _ rfl))
end

theorem raise_own {w : World} {M : Model} {A : Around} {E : Value → Shared → Prop} {env : Env} {s : Shared} {nm q : Str} {C N : Addr} {bs bm : List Value} {hdct : Bool} {sn : List Str} {sub : List Value} {ab : Bool} {col : Option Bool} {dd : Option Addr} {k0 k1 k2 k3 k5 : Option Value} {newId : String} {x : Expr} {pos : Pos} {Q : Flow → Shared → Prop} {h₀ : Heap} (_KX : (hd.heap_1 w.params).In h₀)
    (hC : (hd.heap_1 w.params).lookup C = some (excClassObj nm q C N bs bm hdct sn sub ab col dd k0 k1 k2 k3 k5 newId)) (hb : bm.contains (.type "BaseException") = true) (hh : A.handled = none)
    (h : wpAny M A (eval x env) (fun v s₁ => ∃ e t dd sl, v = .ref e ∧ (hd.heap_1 w.params).In s₁.heap ∧ s₁.heap.get? e = some { cls := .ref C, dict := dd, data := .fields #[.ref t, .none, .none, .none, .bool false, .none], slots := sl } ∧ E (.ref e) s₁) E s) :
    wpAny M A (exec (.Raise (some x) none pos) env) Q E s :=
  raise_x hb hh (wpAny_mono h (fun v s₁ ⟨e, t, dd', sl, r1, r2, r3, r4⟩ => ⟨e, t, dd', sl, r1, r2 _ _ hC, r3, r4⟩) fun _ _ y => y)
end

end
theorem kw_comp_1 : True := by
  (k_with "comp:1" => first | (k_here; k_dflt (first | ((with_reducible refine (?_ : wpAny _ _ (exec (Stmt.Raise (some (Expr.Call (Expr.Name (Str.ofString "LimitFault") _) _ _ _)) _ _) _) _ _ _)); refine raise_own (C := 75) (by k_asm) (by k_is) (by decide +kernel) rfl ?_) | ((with_reducible refine (?_ : wpAny _ _ (exec (Stmt.Raise (some (Expr.Call (Expr.Name (Str.ofString "SheetFault") _) _ _ _)) _ _) _) _ _ _)); refine raise_own (C := 63) (by k_asm) (by k_is) (by decide +kernel) rfl ?_))) | fail)
  (k_with "comp:2" => first | (k_here; (with_reducible refine (?_ : wpAny _ _ (call (Value.ref 75) [Value.str _ _]) _ _ _)); (rename Fr _ _ _ _ => lF9); k_dflt (refine' exc_limit0 _ _ ?kx_comp2 ?kl_comp2 ?kr_comp2 ?_; (case kx_comp2 => exact Frag.In.keeps (by k_asm) (Fr.keep lF9)); (case kl_comp2 => exact Heap.NoLimit.keeps (Top.nolimit (by k_asm)) (Fr.keep lF9)); (case kr_comp2 => ktr_room)); intro h9' e9 t9 vs9 tk9 x9; (repeat k_unfold); (try dsimp only); (have kx9 := Frag.In.keeps (Frag.In.keeps (by k_asm : (_root_.hd.heap_1 _).In _) (Fr.keep lF9)) x9.keeps); (have y9 := x9.there); ((with_reducible refine (?_ : (let lG : Prop := _; lG))); intro lG; obtain ⟨dd9, sl9, y9⟩ := y9); (try k_unfold); (refine ⟨_, _, dd9, sl9, rfl, kx9, y9, ?_⟩); clear y9 kx9; (try dsimp only)) | fail)
  (k_with "comp:3" => first | (k_here; (with_reducible refine (?_ : wpAny _ _ (call (Value.ref 63) [Value.str _ _]) _ _ _)); (rename Fr _ _ _ _ => lF9); k_dflt (refine' exc_sheet0 _ _ ?kx_comp3 ?kl_comp3 ?kr_comp3 ?_; (case kx_comp3 => exact Frag.In.keeps (by k_asm) (Fr.keep lF9)); (case kl_comp3 => exact Heap.NoLimit.keeps (Top.nolimit (by k_asm)) (Fr.keep lF9)); (case kr_comp3 => ktr_room)); intro h9' e9 t9 vs9 tk9 x9; (repeat k_unfold); (try dsimp only); (have kx9 := Frag.In.keeps (Frag.In.keeps (by k_asm : (_root_.hd.heap_1 _).In _) (Fr.keep lF9)) x9.keeps); (have y9 := x9.there); ((with_reducible refine (?_ : (let lG : Prop := _; lG))); intro lG; obtain ⟨dd9, sl9, y9⟩ := y9); (try k_unfold); (refine ⟨_, _, dd9, sl9, rfl, kx9, y9, ?_⟩); clear y9 kx9; (try dsimp only)) | fail)
  (k_with "comp:4" => first | (k_here; k_dflt (first | (refine' leave_newXS ?k1_comp4 ?k0_comp4 ?k2_comp4 ?k3_comp4 ?_ ?k4_comp4; (case k0_comp4 => assumption); (case k2_comp4 => k_asm); (case k1_comp4 => assumption); (case k3_comp4 => k_asm); (case k4_comp4 => rfl); k_whole) | (refine' leave_onX ?k1_comp4 ?k3_comp4 ?k2_comp4 ?k4_comp4 ?_; (case k3_comp4 => assumption); (case k2_comp4 => assumption); (case k1_comp4 => assumption); (case k4_comp4 => assumption); k_whole) | (refine' leave_any ?k1_comp4 ?k3_comp4 ?k2_comp4 ?k4_comp4 ?_; (case k3_comp4 => assumption); (case k2_comp4 => assumption); (case k1_comp4 => assumption); (case k4_comp4 => assumption); k_whole)); intro h9' R9' U9'; (try dsimp only)) | fail)
  (k_with "comp:5" => first | (k_here; k_dflt (refine comp_X (by k_asm) (by k_asm) (by rfl) (by rfl) (by rfl) (by with_unfolding_all rfl) (by with_unfolding_all rfl) (by decide) (by rfl) (by decide) (by rfl) (by rfl) (by rfl) ?_)) | fail)
  trivial
section
theorem reset_put : True := by
  (w_top off)
  (k_with "b8" => first | ((with_reducible refine (?_ : wpAny _ _ (exec (Stmt.Assign _ (Expr.ListComp _ _ _ _) _) _) _ _ _)); first | (with_reducible (k_extra "comp:5")) | fail) | fail)
  (k_with "b9" => first | ((with_reducible refine (?_ : wpAny _ _ (exec (Stmt.Raise (some _) none _) _) _ _ _)); first | (with_reducible (k_extra "comp:1")) | fail) | fail)
  (k_with "b10" => first | ((with_reducible refine (?_ : wpAny _ _ (eval (Expr.Attribute (Expr.Name _ _) _ _) _) _ _ _)); first | (with_reducible (k_extra "call:13")) | fail) | fail)
  (k_with "b11" => first | ((with_reducible refine (?_ : wpAny _ _ (leaving _ (Value.ref _)) _ _ _)); first | (with_reducible (k_extra "comp:4")) | fail) | fail)
  (k_with "b12" => first | ((with_reducible refine (?_ : wpAny _ _ (call (Value.ref _) _) _ _ _)); first | (with_reducible (k_extra "comp:2")) | fail) | fail)
  (k_with "b13" => first | ((with_reducible refine (?_ : wpAny _ _ (isTrue (Expr.Compare _ _ _ _) _ _) _ _ _)); first | (with_reducible (k_extra "call:17")) | fail) | fail)
  (k_with "b14" => first | ((with_reducible refine (?_ : wpAny _ _ (eval (Expr.Name _ _) _) _ _ _)); first | (with_reducible (k_extra "call:10")) | fail) | fail)
  (k_with "b15" => first | ((with_reducible refine (?_ : wpAny _ _ (getAttr (Value.ref _) _ _) _ _ _)); first | (with_reducible (k_extra "call:9")) | fail) | fail)
  (k_with "b16" => first | ((with_reducible refine (?_ : wpAny _ _ (call (Value.ref _) _) _ _ _)); first | (with_reducible (k_extra "put1")) | fail) | fail)
  (k_with "b17" => first | ((with_reducible refine (?_ : wpAny _ _ (call (Value.ref _) _) _ _ _)); first | (with_reducible (k_extra "elof:1")) | fail) | fail)
  trivial
section
-- part put
theorem elems_get {w : World} {D : Led} : ∀ {vs : List Value} {ts : List T} {i : Nat} {v : Value}, ElemsIn w D vs ts → vs[i]? = some v → ∃ t, ts[i]? = some t ∧ t ∈ ts ∧ ElemIn w D v t
  | [], _, _, _, _, h => by simp at h
  | _ :: _, [], _, _, h, _ => by unfold ElemsIn at h; exact h.elim
  | a :: r, t :: q, 0, v, h, e => by
    unfold ElemsIn at h
    cases e
    exact ⟨t, rfl, .head _, h.1⟩
  | a :: r, t :: q, i + 1, v, h, e => by
    unfold ElemsIn at h
    refine exC1 (elems_get h.2 (i := i) (v := v) (by simpa using e)) ?_; intro t' hR; refine anC3 hR ?_; clear hR; intro h1 h2 h3
    exact ⟨t', by simpa using h1, .tail _ h2, h3⟩
theorem elems_len {w : World} {D : Led} : ∀ {vs : List Value} {ts : List T}, ElemsIn w D vs ts → vs.length = ts.length
  | [], [], _ => rfl
  | [], _ :: _, h => by unfold ElemsIn at h; exact h.elim
  | _ :: _, [], h => by unfold ElemsIn at h; exact h.elim
  | _ :: _, _ :: _, h => by
    unfold ElemsIn at h
    rw [List.length_cons, List.length_cons, elems_len h.2]
theorem elems_snoc {w : World} {D : Led} {v : Value} {t : T} : ∀ {vs : List Value} {ts : List T}, ElemsIn w D vs ts → ElemIn w D v t → ElemsIn w D (vs ++ [v]) (ts ++ [t])
  | [], [], _, x => by
    unfold ElemsIn
    exact ⟨x, by unfold ElemsIn; trivial⟩
  | [], _ :: _, h, _ => by unfold ElemsIn at h; exact h.elim
  | _ :: _, [], h, _ => by unfold ElemsIn at h; exact h.elim
  | _ :: _, _ :: _, h, x => by
    unfold ElemsIn at h
    show ElemsIn w D (_ :: (_ ++ [v])) (_ :: (_ ++ [t]))
    unfold ElemsIn
    exact ⟨h.1, elems_snoc h.2 x⟩
theorem drop_at {α : Type} {l : List α} {i : Nat} {t : α} (h : l[i]? = some t) : l.drop i = t :: l.drop (i + 1) := by
  obtain ⟨hi, e⟩ := List.getElem?_eq_some_iff.mp h
  rw [List.drop_eq_getElem_cons hi, e]
inductive PutInv (w : World) (ids : List (Str × T)) (most n : Nat) (kids : List T) (names : List Str) (made : Nat) (ud idd : Addr) (o : Obj) (D all : Led) (i : Nat) (ys : List Value) (nw : Led) : Prop
  | mk (made' : Nat) (o' : Obj) (tl : Led) (outs : List T) (q1 : nw = (ud, o') :: (tl ++ all)) (q2 : UsesOk o' idd most made') (q3 : Fresh ((ud, o) :: all) tl) (q4 : ElemsIn w (tl ++ D) ys outs) (q5 : kidsF (fun c m => putF ids most n c names m) kids made = pre outs (kidsF (fun c m => putF ids most n c names m) (kids.drop i) made'))
theorem sub3 {D all tl : Led} {i c d a b : Addr × Obj} (h : ∀ p ∈ D, p ∈ all) : ∀ p ∈ tl ++ D, p ∈ i :: c :: d :: (tl ++ (a :: b :: all)) := fun p hp =>
  .tail _ (.tail _ (.tail _ ((List.mem_append.mp hp).elim (fun q => List.mem_append_left _ q) fun q => List.mem_append_right _ (.tail _ (.tail _ (h p q))))))
theorem off1_mem {D : Addr} {l : Led} (x : LCg.Off1 D l) : ∀ p ∈ l, @Ne Nat p.1 D := by
  induction l with
  | nil => intro p h; cases h
  | cons a r ih =>
    intro p h
    unfold LCg.Off1 at x
    rcases List.mem_cons.mp h with rfl | h
    · exact x.1
    · exact ih x.2 p h
theorem put_fin {w : World} {h₀ h : Heap} {L ud idd a1 a2 Dl x9 dx9 d : Addr} {o o1 o' c1 c2 : Obj} {most made' : Nat} {all D tl tl9 : Led} {ys : List Value} {outs : List T} {name text : Str} {ws : Ws} {v1 v2 v3 v4 : Int} {s1 s2 s3 s4 tn tt : Tok} {res : Res × Nat}
    (N : News h₀ L h (tl9 ++ (Dl, LCg.lst ys) :: (ud, o') :: (tl ++ (a1, c1) :: (a2, c2) :: all)))
    (fr9 : Fresh ((Dl, LCg.lst ys) :: (ud, o') :: (tl ++ (a1, c1) :: (a2, c2) :: all)) tl9) (hfr : Fresh ((ud, o1) :: (a1, c1) :: (a2, c2) :: all) tl) (hDl : ∀ p ∈ (ud, o') :: (tl ++ ((a1, c1) :: (a2, c2) :: all)), @Ne Nat p.1 Dl)
    (q1 : AllLt a1 ((ud, o) :: all)) (q2 : AllLt a2 ((ud, o) :: all)) (hU : UsesOk o' idd most made') (hel : ElemsIn w (tl ++ D) ys outs) (md : DictIn w D d ws)
    (m9 : (x9, instObj 203 dx9) ∈ tl9) (n9 : (dx9, dictOf [⟨v1, .str (S "name") s1, .str name tn⟩, ⟨v2, .str (S "attributes") s2, .ref d⟩, ⟨v3, .str (S "children") s3, .ref Dl⟩, ⟨v4, .str (S "text") s4, .str text tt⟩] 4) ∈ tl9)
    (hres : res = (.ok (.mk name ws outs text), made')) :
    ∃ D', News h₀ L h D' ∧ PutPost w ud idd most o D all res (.ref x9) D' := by
  refine ⟨(ud, o') :: ((tl9 ++ ((Dl, LCg.lst ys) :: (tl ++ [(a1, c1), (a2, c2)]))) ++ all), fun p hp => N p ?_, _, made', o', _, hres, rfl, hU, ?_, ?_⟩
  · simp only [List.mem_cons, List.mem_append, List.not_mem_nil] at hp ⊢
    grind
  · refine fresh_app (fun p hp q hq => ?_) (fresh_cons' (fun q hq => ?_) (fresh_app (fun p hp q hq => ?_) (fresh_cons q1 (fresh_cons q2 fresh_nil))))
    · rcases List.mem_cons.mp hq with rfl | hq
      · exact fr9 p hp (ud, o') (.tail _ (.head _))
      · exact fr9 p hp q (.tail _ (.tail _ (List.mem_append_right _ (.tail _ (.tail _ hq)))))
    · rcases List.mem_cons.mp hq with rfl | hq
      · exact hDl (ud, o') (.head _)
      · exact hDl q (.tail _ (List.mem_append_right _ (.tail _ (.tail _ hq))))
    · rcases List.mem_cons.mp hq with rfl | hq
      · exact hfr p hp (ud, o1) (.head _)
      · exact hfr p hp q (.tail _ (.tail _ (.tail _ hq)))
  · unfold ElemIn
    refine ⟨x9, dx9, d, Dl, 4, ys.length, ys.toArray, _, _, _, _, _, _, _, _, _, _, rfl, List.mem_append_left _ (List.mem_append_left _ m9), List.mem_append_left _ (List.mem_append_left _ n9), md.mono sub_app, List.mem_append_left _ (List.mem_append_right _ (.head _)), ?_⟩
    refine hel.mono fun p hp => ?_
    simp only [List.mem_cons, List.mem_append, List.not_mem_nil] at hp ⊢
    grind
noncomputable def KidsBad (res : (List T ⊕ Res) × Nat) (C : Addr) : Prop := (C = 75 ∧ res.1 = .inr .limit) ∨ (C = 63 ∧ res.1 = .inr .sheet)
theorem put_src {w : World} {ids : List (Str × T)} {most n : Nat} {kids : List T} {names : List Str} {made : Nat} {ud idd l a1 a2 : Addr} {c1 c2 o1 : Obj} {D all : Led} {vs : Array Value} {kl : Nat}
    {A : Around} {base g : Heap} {outer : List Env} {L : Addr} {m : Str → Option Value} {env : Env} {elt : Expr} {x y : Str} {scope : Scope} {cl : List (Str × Addr)} {Q : Flow → Shared → Prop} {E : Value → Shared → Prop} {s : Shared}
    (lF : Fr g L s.heap m) (lN : News g L s.heap ((a1, c1) :: (a2, c2) :: (ud, o1) :: all)) (hA : A.handled = none) (hU : UsesOk o1 idd most made) (sub : ∀ p ∈ D, p ∈ all) (ml : (l, listOf vs kl) ∈ D) (mk : ElemsIn w D vs.toList kids) (hsz : vs.size ≤ 16)
    (off : ∀ p ∈ (a1, c1) :: (a2, c2) :: all, @Ne Nat p.1 ud)
    (turn : ∀ {v : Value} {ys : List Value} {tl : Led} {made' : Nat} {o' : Obj} {t : T} {I : Addr} {oI : Obj} {C : Addr} {oC : Obj} {Dl : Addr} {m₂ : Str → Option Value} {h : Heap} {tk : Nat} {E' : Value → Shared → Prop} {QC : Value → Shared → Prop},
      UsesOk o' idd most made' → ElemIn w (tl ++ D) v t → t ∈ kids → LCg.NsObj oC m₂ → m₂ x = some v → Fr g L h m →
      News g L h ((I, oI) :: (C, oC) :: (Dl, LCg.lst ys) :: (ud, o') :: (tl ++ ((a1, c1) :: (a2, c2) :: all))) → (∀ p ∈ (I, oI) :: (C, oC) :: (Dl, LCg.lst ys) :: (tl ++ ((a1, c1) :: (a2, c2) :: all)), @Ne Nat p.1 ud) →
      (∀ v' h' tk' D', Fr g L h' m → News g L h' D' → PutPost w ud idd most o' (tl ++ D) ((I, oI) :: (C, oC) :: (Dl, LCg.lst ys) :: (tl ++ ((a1, c1) :: (a2, c2) :: all))) (putF ids most n t names made') v' D' → QC v' { s with heap := h', toks := tk' }) →
      (∀ ea C' t' vs' h' tk' G, Fr g L G m → G.UpToSlots h' → RaisedS base G (env :: outer) ea (.ref C') t' vs' ((I, oI) :: (C, oC) :: (Dl, LCg.lst ys) :: (tl ++ ((a1, c1) :: (a2, c2) :: all))) h' → PutBad (putF ids most n t names made') C' → E' (.ref ea) { s with heap := h', toks := tk' }) →
      wpAny (model PySem.Challenge.rw_pf0193_01.row.toRowW.prog w) A (eval elt (compEnvC scope cl C env)) QC E' { s with heap := h, toks := tk })
    (fin : ∀ {ys : List Value} {tl : Led} {made' : Nat} {o' : Obj} {outs : List T} {Dl : Addr} {h : Heap} {tk : Nat}, UsesOk o' idd most made' → Fresh ((ud, o1) :: (a1, c1) :: (a2, c2) :: all) tl → ElemsIn w (tl ++ D) ys outs →
      kidsF (fun c m => putF ids most n c names m) kids made = (.inl outs, made') → Fr g L h (fun z => if z = y then some (.ref Dl) else m z) → News g L h ((Dl, LCg.lst ys) :: (ud, o') :: (tl ++ ((a1, c1) :: (a2, c2) :: all))) → (∀ p ∈ (ud, o') :: (tl ++ ((a1, c1) :: (a2, c2) :: all)), @Ne Nat p.1 Dl) →
      Q .next { s with heap := h, toks := tk })
    (exc : ∀ ea C t vs G h' tk', RaisedA base G (env :: outer) ea (.ref C) t vs ((a1, c1) :: (a2, c2) :: all) h' → G.UpToSlots h' → Fr g L G m → KidsBad (kidsF (fun c m => putF ids most n c names m) kids made) C → E (.ref ea) { s with heap := h', toks := tk' }) :
    SrcX PySem.Challenge.rw_pf0193_01.row.toRowW.prog w A base g outer L m env elt x y scope cl Q E (.ref l) s := by
  refine ⟨l, vs, kl, (ud, o1) :: ([] ++ ((a1, c1) :: (a2, c2) :: all)), PutInv w ids most n kids names made ud idd o1 D ((a1, c1) :: (a2, c2) :: all), fun cls nw => nw = (a1, c1) :: (a2, c2) :: all ∧ ∃ C, cls = .ref C ∧ KidsBad (kidsF (fun c m => putF ids most n c names m) kids made) C, rfl, hA, lF, ?_, ?_, ?_, ?_, ?_, ?_, ?_⟩
  · intro p hp
    refine lN p ?_
    simp only [List.nil_append, List.mem_cons] at hp ⊢
    rcases hp with h | h | h | h
    · exact .inr (.inr (.inl h))
    · exact .inl h
    · exact .inr (.inl h)
    · exact .inr (.inr (.inr h))
  · exact Nat.le_trans hsz (by decide)
  · intro i ys nw hI9; (with_reducible refine (?_ : (let lG : Prop := _; lG))); intro lG; obtain ⟨made', o', tl, outs, rfl, _⟩ := hI9; k_unfold; clear lG
    exact .tail _ (List.mem_append_right _ (.tail _ (.tail _ (sub _ ml))))
  · refine ⟨made, o1, [], [], rfl, hU, fresh_nil, by unfold ElemsIn; trivial, ?_⟩
    rw [List.drop_zero]
    cases kidsF (fun c m => putF ids most n c names m) kids made with
    | mk a m => cases a <;> simp [pre]
  · intro i v ys nw I oI C oC Dl m₂ h tk E' hv hI9 hC hx F3 N3 off3 ne3 hE'; (with_reducible refine (?_ : (let lG : Prop := _; lG))); intro lG; obtain ⟨made', o', tl, outs, rfl, hU', hfr, hel, heq⟩ := hI9; k_unfold; clear lG
    have hlist : vs.toList[i]? = some v := by rw [Array.getElem?_toList]; exact hv
    refine exC1 (elems_get mk hlist) ?_; intro t hR; refine anC3 hR ?_; clear hR; intro ht htm hte
    have offs := off3.mem
    have hdrop := drop_at ht
    refine turn hU' (hte.mono sub_app) htm hC hx F3 N3 ?_ ?_ ?_
    · intro p hp
      rcases List.mem_cons.mp hp with rfl | hp
      · exact Ne.symm (offs _ (.head _)).1
      rcases List.mem_cons.mp hp with rfl | hp
      · exact Ne.symm (offs _ (.head _)).2.1
      rcases List.mem_cons.mp hp with rfl | hp
      · exact Ne.symm (offs _ (.head _)).2.2
      rcases List.mem_append.mp hp with hp | hp
      · exact Ne.symm (hfr p hp _ (.head _))
      · exact off p hp
    · intro v' h' tk' D' F' N' hI9; refine exC4 hI9 ?_; (try clear hI9); intro t' made'' o'' tl'' hR; refine anC5 hR ?_; clear hR; intro hres hO5 hU'' hfr'' he''; subst hO5
      refine LCg.CompEnd.intro F' N' ((ud, o'') :: (tl'' ++ tl ++ ((a1, c1) :: (a2, c2) :: all))) ?_ ?_ trivial ⟨made'', o'', tl'' ++ tl, outs ++ [t'], rfl, hU'', ?_, ?_, ?_⟩
      · intro p hp
        simp only [List.mem_cons, List.mem_append] at hp ⊢
        grind
      · refine LCg.Off3.of fun p hp => ?_
        rcases List.mem_cons.mp hp with rfl | hp
        · exact offs (ud, o') (.head _)
        rcases List.mem_append.mp hp with hp | hp
        · rcases List.mem_append.mp hp with hp | hp
          · exact ⟨Ne.symm (hfr'' p hp (I, oI) (.tail _ (.head _))), Ne.symm (hfr'' p hp (C, oC) (.tail _ (.tail _ (.head _)))), Ne.symm (hfr'' p hp (Dl, LCg.lst ys) (.tail _ (.tail _ (.tail _ (.head _)))))⟩
          · exact offs p (.tail _ (List.mem_append_left _ hp))
        · exact offs p (.tail _ (List.mem_append_right _ hp))
      · refine fresh_app (fun p hp q hq => ?_) hfr
        rcases List.mem_cons.mp hq with rfl | hq
        · exact hfr'' p hp (ud, o') (.head _)
        · exact hfr'' p hp q (.tail _ (.tail _ (.tail _ (.tail _ (List.mem_append_right _ hq)))))
      · refine elems_snoc (hel.mono fun p hp => ?_) ?_
        · rw [List.append_assoc]; exact List.mem_append_right _ hp
        · rw [List.append_assoc]; exact he''
      · rw [heq, hdrop, pre_step hres]
    · intro ea C' t' vs' h' tk' G FG U R hb
      refine hE' ea (.ref C') t' vs' G ((a1, c1) :: (a2, c2) :: all) h' tk' (raisedS_sub R fun p hp => ?_) (fun p hp => (offs p (.tail _ (List.mem_append_right _ hp))).2.1) U FG ⟨rfl, C', rfl, ?_⟩
      · rcases List.mem_cons.mp hp with rfl | hp
        · exact .tail _ (.head _)
        · exact .tail _ (.tail _ (.tail _ (List.mem_append_right _ hp)))
      · rw [heq, hdrop]
        cases hres : putF ids most n t names made' with
        | mk r m' =>
          rw [hres] at hb
          rcases hb with ⟨hc, hr⟩ | ⟨hc, hr⟩
          · dsimp only at hr; subst hr
            exact .inl ⟨hc, by rw [pre_limit hres]⟩
          · dsimp only at hr; subst hr
            exact .inr ⟨hc, by rw [pre_sheet hres]⟩
  · intro ys nw Dl h tk hI9 F' N' o1'; (with_reducible refine (?_ : (let lG : Prop := _; lG))); intro lG; obtain ⟨made', o', tl, outs, rfl, hU', hfr, hel, heq⟩ := hI9; k_unfold; clear lG
    refine fin hU' hfr hel ?_ F' N' (off1_mem o1')
    rw [heq, List.drop_eq_nil_of_le (by have := elems_len mk; rw [Array.length_toList] at this; omega), pre_nil]
  · intro ea cls t' vs' G nw' h' tk' R U FG hI9; (with_reducible refine (?_ : (let lG : Prop := _; lG))); intro lG; obtain ⟨rfl, C, rfl, hb⟩ := hI9; k_unfold; clear lG
    exact exc ea C t' vs' G h' tk' R U FG hb
section
theorem kw_putw163 : True := by
  (k_with "put;163" => first | (refine' code_defC ?k1_putw163 ?k2_putw163 ?k3_putw163 ?k4_putw163 ?k5_putw163 ?kA_putw163 ?kF_putw163 ?kK_putw163 ?k6_putw163 ?k7_putw163 ?k8_putw163 ?k9_putw163 ?kB_putw163 ?kD_putw163 ?_ ?c2_putw163 ?c3_putw163 ?c4_putw163; (case kA_putw163 => exact rfl); (case kF_putw163 => exact rfl); (case kK_putw163 => assumption); (case k1_putw163 => k_asm); (case k2_putw163 => k_asm); (case k3_putw163 => k_asm); (case k4_putw163 => k_asm); (case k5_putw163 => k_asm); (case k6_putw163 => k_is); (case k7_putw163 => k_is); (case k8_putw163 => ktr_room); (case k9_putw163 => first | exact BindsTo.of_eq rfl | exact binds_K (by k_in) rfl (by k_is) rfl rfl rfl); (case kB_putw163 => exact rfl); (case kD_putw163 => decide +kernel); (case c2_putw163 => exact rfl); (case c3_putw163 => exact rfl); (case c4_putw163 => exact rfl); k_whole; intro g' L' h' tk' cells' FG' F' N' Y' B' X' T' l1; (try k_lt l1); k_cells Y'; (try simp only [List.cons_append, List.nil_append] at N'); (try dsimp only); (try k_fold)) | fail)
  trivial
local macro_rules | `(tactic| ktr_enter) => `(tactic| k_extra "put;163")
theorem kw_put1 : True := by
  (k_with "put1" => first | (k_here; (with_reducible refine (?_ : wpAny _ _ (call (Value.ref 254) _) _ _ _)); (rename PutC _ _ _ _ => lIH); k_dflt (refine' CallX.use (lIH ?q1_put1 ?q2_put1 ?q3_put1 ?q4_put1 ?q5_put1 ?q6_put1 ?q7_put1 ?q8_put1 ?q9_put1) ?k1_put1 ?k2_put1 ?k3_put1 ?k4_put1 ?k5_put1 ?k6_put1 ?kd_put1 ?ku_put1 (Cut.all ?kC_put1) ?r1_put1 ?r2_put1; (case k1_put1 => k_asm); (case k2_put1 => k_asm); (case k3_put1 => k_asm); (case k4_put1 => k_asm); (case k5_put1 => k_asm); (case k6_put1 => exact rfl); (case kd_put1 => ktr_room); (case ku_put1 => ktr_units); (case q1_put1 => assumption); (case q5_put1 => assumption); (case kC_put1 => (repeat' (first | exact Cut.here | refine' Cut.there ?_))); (case q3_put1 => assumption); (case q2_put1 => first | assumption | exact sub3 (by assumption)); (case q4_put1 => assumption); (case q6_put1 => assumption); (case q7_put1 => assumption); (case q8_put1 => assumption); (case q9_put1 => assumption); (case r1_put1 => assumption); (case r2_put1 => assumption))) | fail)
  trivial
theorem put_node {w : World} {ids : List (Str × T)} {most n : Nat} (ih : PutC w ids most n) {name text : Str} {ws : Ws} {kids : List T} {names : List Str} {made : Nat} {nx : Addr} {D all : Led} {u ud idd x dx d l : Addr} {vs : Array Value} {o : Obj} {g1 g2 g3 g4 : Int} {s1 s2 s3 s4 tn tt : Tok} {nn kl : Nat}
    (hname : (name == S "use") = false) (hU : UsesOk o idd most made) (sub : ∀ p ∈ D, p ∈ all)
    (mx : (x, instObj 203 dx) ∈ D) (mdx : (dx, dictOf [⟨g1, .str (Str.ofString "name") s1, .str name tn⟩, ⟨g2, .str (Str.ofString "attributes") s2, .ref d⟩, ⟨g3, .str (Str.ofString "children") s3, .ref l⟩, ⟨g4, .str (Str.ofString "text") s4, .str text tt⟩] nn) ∈ D)
    (md : DictIn w D d ws) (ml : (l, listOf vs kl) ∈ D) (mk : ElemsIn w D vs.toList kids) (mn : NamesIn w D nx names) (mu : (u, instObj 264 ud) ∈ D) (mi : IdsIn w (ElemIn w) D idd ids) (off : ∀ p ∈ all, @Ne Nat p.1 ud)
    (hr : rank (.mk name ws kids text) names ≤ n + 1) (ok : OkT (.mk name ws kids text)) :
    CallX w (6 * (n + 1) + 60) 254 [.ref u, .ref x, .ref nx] ((ud, o) :: all) all
      (PutPost w ud idd most o D all (putF ids most (n + 1) (.mk name ws kids text) names made)) (PutBad (putF ids most (n + 1) (.mk name ws kids text) names made)) := by
  (with_reducible refine (?_ : (let lG : Prop := _; lG))); intro lG; obtain ⟨h1, h2, h3, t1, t2, t3, t4, t5, rfl⟩ := id hU; k_unfold; clear lG
  have amx := sub _ mx
  have amdx := sub _ mdx
  have aml := sub _ ml
  have amu := sub _ mu
  have hne : ¬ name = S "use" := by simpa using hname
  have hput : ¬ made + 1 > most → ∀ r, kidsF (fun c m => putF ids most n c names m) kids (made + 1) = r →
      putF ids most (n + 1) (.mk name ws kids text) names made = match r with | (.inl r, m) => (.ok (.mk name ws r text), m) | (.inr e, m) => (e, m) := fun h r e => by
    show (if made + 1 > most then _ else if (T.mk name ws kids text).name = S "use" then _ else _) = _
    rw [if_neg h, if_neg (show ¬ (T.mk name ws kids text).name = S "use" from hne)]
    show (match kidsF (fun c m => putF ids most n c names m) kids (made + 1) with | (.inl r, m) => _ | (.inr e, m) => _) = _
    rw [e]
    rfl
  unfold OkT at ok
  have hsz : vs.size ≤ 16 := by have := elems_len mk; rw [Array.length_toList] at this; omega
  constructor
  intro dp un gd cn cs a ccd cl outer A₀ base h₀ L m sh sg sd st so mean mg mb Q E B F X N T hk hdp hun ret exc
  skip
  refine wpAny_call ?_
  k_dflt ktr_enter
  (repeat' (first | k_extra "sa" | k_extra "b8" | k_extra "b9" | k_extra "b10" | k_extra "b11" | k_extra "b12" | k_extra "b13" | k_extra "b5" | k_extra "b14" | k_extra "b15" | k_extra "sz"))
  · refine exc _ _ _ _ _ _ _ (by assumption) (by assumption) (raisedS_sub (by assumption) (fun p hp => .tail _ (.tail _ (.tail _ hp)))) (.inl ⟨rfl, ?_⟩)
    unfold putF
    rw [if_pos (by omega)]
  · skip
    refine put_src (ids := ids) (n := n) (names := names) (by k_asm) (by k_asm) rfl ⟨_, _, _, _, _, _, _, _, rfl⟩ sub ml mk hsz ?_ ?_ ?_ ?_
    · exact List.forall_mem_cons.mpr ⟨by k_ne, List.forall_mem_cons.mpr ⟨by k_ne, off⟩⟩
    · intro v ys tl made' o' t I oI C oC Dl m₂ h tk E' QC hU' hte htm hC hx F3 N3 off3 hret hexc
      (with_reducible refine (?_ : (let lG : Prop := _; lG))); intro lG; obtain ⟨p1, p2, p3, p4, p5, p6, p7, p8, rfl⟩ := id hU'; k_unfold; clear lG
      have b1 := ok.2.2.2.mem htm
      have b2 : rank t names ≤ n := by
        have := height_kid htm
        unfold rank height at hr
        unfold rank
        omega
      have b3 := mn.mono (sub_app (a := tl))
      have b4 := idsE_mono mi (sub_app (a := tl))
      have b5 : (u, instObj 264 ud) ∈ tl ++ D := List.mem_append_right _ mu
      have b6 := List.mem_append_right (as := tl) mu
      (repeat' (first | k_extra "sa" | k_extra "b16" | k_extra "sz"))


    · intro ys tl made' o' outs Dl h tk hU' hfr hel heq F3 N3 hDl
      (repeat' (first | k_extra "sa" | k_extra "b17" | k_extra "b5" | k_extra "sz"))
      obtain ⟨D', hN, hP⟩ := put_fin (o := dictOf [⟨h1, .str (S "ids") t1, .ref idd⟩, ⟨h2, .str (S "most") t2, .int (most : Int) t4⟩, ⟨h3, .str (S "made") t3, .int (made : Int) t5⟩] 3) (D := D) (by assumption) (by assumption) hfr hDl (by ktr_rel) (by ktr_rel) hU' hel md (by assumption) (by assumption) (hput (by omega) _ heq)
      exact ret _ _ _ D' (by k_asm) hN hP
    · intro ea C t vs G h' tk' R U FG hb
      (repeat' (first | k_extra "sa" | k_extra "b11" | k_extra "sz"))
      refine exc _ _ _ _ _ _ _ (by assumption) (by assumption) (raisedS_sub (by assumption) (fun p hp => .tail _ (.tail _ hp))) ?_
      have hp := hput (by omega) _ rfl
      rcases hb with ⟨hc, hb⟩ | ⟨hc, hb⟩
      · refine .inl ⟨hc, ?_⟩
        rw [hp]
        cases hq : kidsF (fun c m => putF ids most n c names m) kids (made + 1) with
        | mk a b => rw [hq] at hb; dsimp only at hb; subst hb; rfl
      · refine .inr ⟨hc, ?_⟩
        rw [hp]
        cases hq : kidsF (fun c m => putF ids most n c names m) kids (made + 1) with
        | mk a b => rw [hq] at hb; dsimp only at hb; subst hb; rfl
end
end

theorem reset_link : True := by
  (w_top off)
  (k_with "b18" => first | ((with_reducible refine (?_ : wpAny _ _ (exec (Stmt.For (Expr.Name _ _) (Expr.Tuple _ _ _) _ [] _) _) _ _ _)); first | (with_reducible (k_extra "call:7")) | fail) | fail)
  (k_with "b19" => first | ((with_reducible refine (?_ : wpAny _ _ (call (Value.builtin "dict.get") _) _ _ _)); first | (with_reducible (k_extra "lem:4")) | fail) | fail)
  (k_with "b20" => first | ((with_reducible refine (?_ : wpAny _ _ (getMethod (Value.ref _) _ _) _ _ _)); first | (with_reducible (k_extra "lem:3")) | fail) | fail)
  (k_with "b21" => first | ((with_reducible refine (?_ : wpAny _ _ (pyIter (Value.ref _)) _ _ _)); first | (with_reducible (k_extra "lem:1")) | fail) | fail)
  (k_with "b22" => first | ((with_reducible refine (?_ : wpAny _ _ (callWith _ _ _ _ _) _ _ _)); first | (with_reducible (k_extra "call:20")) | fail) | fail)
  (k_with "b23" => first | ((with_reducible refine (?_ : wpAny _ _ (spliced _) _ _ _)); first | (with_reducible (k_extra "call:14")) | fail) | fail)
  (k_with "b24" => first | ((fail_if_success (with_reducible refine (?_ : wpAny _ _ _ _ _ _))); first | ((with_reducible refine (?_ : (@ite _ _ (_) _ _))); first | (with_reducible (k_extra "call:3")) | fail) | fail) | fail)
  (k_with "b25" => first | ((fail_if_success (with_reducible refine (?_ : wpAny _ _ _ _ _ _))); first | ((with_reducible refine (?_ : UnrEndW ..)); first | (k_extra "lem:2") | fail) | fail) | fail)
  (k_with "b26" => first | ((with_reducible refine (?_ : wpAny _ _ (subscriptTail (Expr.Name _ _) (Expr.Slice _ _ _ _) (Value.str _ _) (Value.ref _)) _ _ _)); first | (with_reducible (k_extra "lem:9")) | (with_reducible (k_extra "lem:8")) | fail) | fail)
  trivial
section
-- part link
theorem c_link0 {w : World} {all : Led} {x dx d l : Addr} {nn : Nat} {o : Obj} {kvs : List (Str × Value)} {name text : Str} {h1 h2 h3 h4 : Int} {t1 t2 t3 t4 tn tt : Tok}
    (mx : (x, instObj 203 dx) ∈ all) (mdx : (dx, dictOf [⟨h1, .str (S "name") t1, .str name tn⟩, ⟨h2, .str (S "attributes") t2, .ref d⟩, ⟨h3, .str (S "children") t3, .ref l⟩, ⟨h4, .str (S "text") t4, .str text tt⟩] nn) ∈ all)
    (md : (d, o) ∈ all) (hd : o.IsDictOf (strKind prg w) kvs) (hlo : (d == sysModules) = false) (hv : valueAt kvs (S "href") = none) (hv2 : valueAt kvs (S "xlink:href") = none) :
    Call w 4 21 [.ref x] all fun v D' => v = .none ∧ D' = all := by
  constructor
  intro dp un gd cn cs a ccd cl outer A₀ base h₀ L m sh sg sd st so mean mg mb Q E B F X N T hk hdp hun ret
  skip
  refine wpAny_call ?_
  k_dflt ktr_enter
  (repeat' (first | k_extra "sa" | k_extra "b18" | k_extra "b10" | k_extra "b1" | k_extra "b19" | k_extra "b20" | k_extra "b21" | k_extra "b22" | k_extra "b23" | k_extra "b2" | k_extra "b24" | k_extra "b25" | k_extra "sz"))
  all_goals first | exact ⟨.head _, trivial⟩ | skip
  exact ret _ _ _ all (by k_asm) (fun p hp => (by assumption : News h₀ L _ _) p (by first | exact hp | exact .tail _ hp | exact .tail _ (.tail _ hp) | exact .tail _ (.tail _ (.tail _ hp)))) ⟨rfl, rfl⟩
theorem c_link1 {w : World} {all : Led} {x dx d l : Addr} {nn : Nat} {o : Obj} {kvs : List (Str × Value)} {name text y nm : Str} {h1 h2 h3 h4 : Int} {t t1 t2 t3 t4 tn tt : Tok}
    (mx : (x, instObj 203 dx) ∈ all) (mdx : (dx, dictOf [⟨h1, .str (S "name") t1, .str name tn⟩, ⟨h2, .str (S "attributes") t2, .ref d⟩, ⟨h3, .str (S "children") t3, .ref l⟩, ⟨h4, .str (S "text") t4, .str text tt⟩] nn) ∈ all)
    (md : (d, o) ∈ all) (hd : o.IsDictOf (strKind prg w) kvs) (hlo : (d == sysModules) = false) (hv : valueAt kvs (S "href") = some (.str y t))
    (hy1 : Txt.slice y none (some 1) = S "#") (hy2 : Txt.slice y (some 1) none = nm) (hsz : y.length ≤ sizeLine) :
    Call w 4 21 [.ref x] all fun v D' => (∃ t, v = .str nm t) ∧ D' = all := by
  constructor
  intro dp un gd cn cs a ccd cl outer A₀ base h₀ L m sh sg sd st so mean mg mb Q E B F X N T hk hdp hun ret
  skip
  refine wpAny_call ?_
  k_dflt ktr_enter
  (repeat' (first | k_extra "sa" | k_extra "b18" | k_extra "b26" | k_extra "b10" | k_extra "b1" | k_extra "b19" | k_extra "b20" | k_extra "b21" | k_extra "b22" | k_extra "b23" | k_extra "b2" | k_extra "b24" | k_extra "sz"))
  all_goals first | exact ⟨.head _, trivial⟩ | skip
  exact ret _ _ _ all (by k_asm) (fun p hp => (by assumption : News h₀ L _ _) p (by first | exact hp | exact .tail _ hp | exact .tail _ (.tail _ hp) | exact .tail _ (.tail _ (.tail _ hp)))) ⟨⟨_, rfl⟩, rfl⟩
theorem c_link2 {w : World} {all : Led} {x dx d l : Addr} {nn : Nat} {o : Obj} {kvs : List (Str × Value)} {name text y nm : Str} {h1 h2 h3 h4 : Int} {t t1 t2 t3 t4 tn tt : Tok}
    (mx : (x, instObj 203 dx) ∈ all) (mdx : (dx, dictOf [⟨h1, .str (S "name") t1, .str name tn⟩, ⟨h2, .str (S "attributes") t2, .ref d⟩, ⟨h3, .str (S "children") t3, .ref l⟩, ⟨h4, .str (S "text") t4, .str text tt⟩] nn) ∈ all)
    (md : (d, o) ∈ all) (hd : o.IsDictOf (strKind prg w) kvs) (hlo : (d == sysModules) = false) (hv : valueAt kvs (S "href") = none) (hv2 : valueAt kvs (S "xlink:href") = some (.str y t))
    (hy1 : Txt.slice y none (some 1) = S "#") (hy2 : Txt.slice y (some 1) none = nm) (hsz : y.length ≤ sizeLine) :
    Call w 4 21 [.ref x] all fun v D' => (∃ t, v = .str nm t) ∧ D' = all := by
  constructor
  intro dp un gd cn cs a ccd cl outer A₀ base h₀ L m sh sg sd st so mean mg mb Q E B F X N T hk hdp hun ret
  skip
  refine wpAny_call ?_
  k_dflt ktr_enter
  (repeat' (first | k_extra "sa" | k_extra "b18" | k_extra "b26" | k_extra "b10" | k_extra "b1" | k_extra "b19" | k_extra "b20" | k_extra "b21" | k_extra "b22" | k_extra "b23" | k_extra "b2" | k_extra "b24" | k_extra "b25" | k_extra "sz"))
  all_goals first | exact ⟨.head _, trivial⟩ | skip
  exact ret _ _ _ all (by k_asm) (fun p hp => (by assumption : News h₀ L _ _) p (by first | exact hp | exact .tail _ hp | exact .tail _ (.tail _ hp) | exact .tail _ (.tail _ (.tail _ hp)))) ⟨⟨_, rfl⟩, rfl⟩
theorem c_link {w : World} {D all : Led} {x dx d l : Addr} {nn : Nat} {ws : Ws} {name text : Str} {h1 h2 h3 h4 : Int} {t1 t2 t3 t4 tn tt : Tok}
    (mx : (x, instObj 203 dx) ∈ all) (mdx : (dx, dictOf [⟨h1, .str (S "name") t1, .str name tn⟩, ⟨h2, .str (S "attributes") t2, .ref d⟩, ⟨h3, .str (S "children") t3, .ref l⟩, ⟨h4, .str (S "text") t4, .str text tt⟩] nn) ∈ all)
    (sub : ∀ p ∈ D, p ∈ all) (md : DictIn w D d ws) (ok : WsOk ws) :
    Call w 4 21 [.ref x] all fun v D' => (match linkName ws with | none => v = .none | some nm => ∃ t, v = .str nm t) ∧ D' = all := by
  (with_reducible refine (?_ : (let lG : Prop := _; lG))); intro lG; obtain ⟨o, kvs, mo, hd, hws, hlo⟩ := md; k_unfold; clear lG
  have amo := sub _ mo
  have look : ∀ {k v : Str}, wsGet ws k = some v → EntOk k v := fun {k v} h => by
    unfold wsGet at h
    cases hf : ws.find? (fun p => p.1 = k) with
    | none => rw [hf] at h; cases h
    | some p =>
      rw [hf] at h
      cases h
      have h1 := List.find?_some hf
      have h2 := ok p (List.mem_of_find?_eq_some hf)
      have h3 : p.1 = k := by simpa using h1
      rw [h3] at h2
      exact h2
  have ent : ∀ {k v : Str}, (k = S "href" ∨ k = S "xlink:href") → EntOk k v → Txt.slice v none (some 1) = S "#" ∧ v.length ≤ sizeLine := fun {k v} hk he => by
    have hz : v.length ≤ 16 → v.length ≤ sizeLine := fun h => Nat.le_trans h (by decide)
    unfold EntOk at he
    rcases hk with rfl | rfl
    · rcases he with ⟨_, _, a, _, b⟩ | ⟨e, _⟩ | ⟨e, _⟩ | ⟨e, _⟩ | ⟨e, _⟩ | e | e | e | e
      · exact ⟨a, hz b⟩
      all_goals exact absurd e (by decide)
    · rcases he with ⟨e, _⟩ | ⟨_, _, a, _, b⟩ | ⟨e, _⟩ | ⟨e, _⟩ | ⟨e, _⟩ | e | e | e | e
      · exact absurd e (by decide)
      · exact ⟨a, hz b⟩
      all_goals exact absurd e (by decide)
  unfold linkName
  cases h1 : wsGet ws (S "href") with
  | some v =>
    obtain ⟨a, b⟩ := ent (.inl rfl) (look h1)
    obtain ⟨t, ht⟩ := hws.some h1
    show Call w 4 21 [.ref x] all fun v' D' => (∃ t, v' = .str (tailS v) t) ∧ D' = all
    exact c_link1 mx mdx amo hd hlo ht a rfl b
  | none =>
    cases h2 : wsGet ws (S "xlink:href") with
    | some v =>
      obtain ⟨a, b⟩ := ent (.inr rfl) (look h2)
      obtain ⟨t, ht⟩ := hws.some h2
      show Call w 4 21 [.ref x] all fun v' D' => (∃ t, v' = .str (tailS v) t) ∧ D' = all
      exact c_link2 mx mdx amo hd hlo (hws.none h1) ht a rfl b
    | none =>
      show Call w 4 21 [.ref x] all fun v' D' => v' = .none ∧ D' = all
      exact c_link0 mx mdx amo hd hlo (hws.none h1) (hws.none h2)
end

theorem reset_dict : True := by
  (w_top off)
  trivial
section
-- part dict
theorem WsAre.put : ∀ {kvs : List (Str × Value)} {ws : Ws} {k v : Str} {t : Tok}, WsAre kvs ws → WsAre (stored kvs k (.str v t)) (wsPut ws k v) := by
  have any : ∀ {kvs : List (Str × Value)} {ws : Ws} {k : Str}, WsAre kvs ws → (kvs.any fun p => p.1 = k) = ws.any (fun p => p.1 = k) := by
    intro kvs
    induction kvs with
    | nil => intro ws k h; cases ws with
      | nil => rfl
      | cons => exact h.elim
    | cons a r ih => intro ws k h; cases ws with
      | nil => exact h.elim
      | cons b q => rw [List.any_cons, List.any_cons, h.1.1, ih h.2]
  have map : ∀ {kvs : List (Str × Value)} {ws : Ws} {k v : Str} {t : Tok}, WsAre kvs ws → WsAre (kvs.map fun p => if p.1 = k then (p.1, .str v t) else p) (ws.map fun p => if p.1 = k then (p.1, v) else p) := by
    intro kvs
    induction kvs with
    | nil => intro ws k v t h; cases ws with
      | nil => trivial
      | cons => exact h.elim
    | cons a r ih => intro ws k v t h; cases ws with
      | nil => exact h.elim
      | cons b q =>
        refine ⟨?_, ih h.2⟩
        dsimp only
        by_cases hb : b.1 = k
        · rw [if_pos (h.1.1.trans hb), if_pos hb]; exact ⟨h.1.1, t, rfl⟩
        · rw [if_neg (fun q => hb (h.1.1.symm.trans q)), if_neg hb]; exact h.1
  have app : ∀ {kvs : List (Str × Value)} {ws : Ws} {k v : Str} {t : Tok}, WsAre kvs ws → WsAre (kvs ++ [(k, .str v t)]) (ws ++ [(k, v)]) := by
    intro kvs
    induction kvs with
    | nil => intro ws k v t h; cases ws with
      | nil => exact ⟨⟨rfl, t, rfl⟩, trivial⟩
      | cons => exact h.elim
    | cons a r ih => intro ws k v t h; cases ws with
      | nil => exact h.elim
      | cons b q => exact ⟨h.1, ih h.2⟩
  intro kvs ws k v t h
  unfold stored wsPut
  rw [any h]
  by_cases hh : (ws.any fun p => p.1 = k) = true
  · rw [if_pos hh, if_pos hh]; exact map h
  · rw [if_neg hh, if_neg hh]; exact app h
theorem WsAre.len : ∀ {kvs : List (Str × Value)} {ws : Ws}, WsAre kvs ws → kvs.length = ws.length := by
  intro kvs
  induction kvs with
  | nil => intro ws h; cases ws with
    | nil => rfl
    | cons => exact h.elim
  | cons a r ih => intro ws h; cases ws with
    | nil => exact h.elim
    | cons b q => rw [List.length_cons, List.length_cons, ih h.2]
theorem wsPut_len (ws : Ws) (k v : Str) : (wsPut ws k v).length ≤ ws.length + 1 := by
  unfold wsPut
  split
  · rw [List.length_map]; omega
  · rw [List.length_append]; simp
theorem WsAre.at {kvs : List (Str × Value)} {ws : Ws} {k : Str} {x : Option Str} (h : WsAre kvs ws) (e : wsGet ws k = x) : (valueAt kvs k).isSome = x.isSome := by
  cases x with
  | none => rw [h.none e]; rfl
  | some v => obtain ⟨t, ht⟩ := h.some e; rw [ht]; rfl
open PyProof.V in
theorem WsAre.flat : ∀ {kvs : List (Str × Value)} {ws : Ws}, WsAre kvs ws → FlatPairs PyData.str kvs (ws.map fun p => (PyData.str p.1, PyData.str p.2)) := by
  intro kvs
  induction kvs with
  | nil => intro ws h; cases ws with
    | nil => exact .nil
    | cons => exact h.elim
  | cons a r ih => intro ws h; cases ws with
    | nil => exact h.elim
    | cons b q =>
      obtain ⟨⟨e, t, et⟩, hr⟩ := h
      obtain ⟨k, v⟩ := a
      dsimp only at e et
      subst e et
      exact .cons (Flat.str _ _) (ih hr)
open PyProof.V in
theorem WsAre.ofFlat : ∀ {ws : Ws} {kvs : List (Str × Value)}, FlatPairs PyData.str kvs (ws.map fun p => (PyData.str p.1, PyData.str p.2)) → WsAre kvs ws := by
  intro ws
  induction ws with
  | nil => intro kvs h; cases h; trivial
  | cons b q ih =>
    intro kvs h
    rw [List.map_cons] at h
    generalize hd : PyData.str b.1 = d at h
    cases h with
    | cons hv hr =>
      cases hd
      obtain ⟨t, ht⟩ := Flat.str_inv hv
      exact ⟨⟨rfl, t, ht⟩, ih hr⟩
section
variable {prog : Program} {w : World} {A : Around} {E : Value → Shared → Prop} {s : Shared} {h₀ : Heap} {L d : Addr} {m : Str → Option Value} {news : Led} {o : Obj} {kvs : List (Str × Value)} {ws : Ws} {k x z : Str} {tk t : Tok} {v : Value} {value slice : Expr}
theorem dw_in {Q : Value → Shared → Prop} (N : News h₀ L s.heap news) (hp : (d, o) ∈ news) (hd : o.IsDictOf (strKind prog w) kvs) (hw : WsAre kvs ws) (lo : (d == sysModules) = false) (x : Option Str) (hl : wsGet ws k = x) (h : Q (.bool x.isSome) { s with toks := s.toks + 1 }) :
    wpAny (model prog w) A (compareOp .In (.str k tk) (.ref d)) Q E s := kda_in (knd := strKind prog w) N hp hd lo (strKind_is _ _ _ _) x.isSome (hw.at hl) h
theorem dw_item {Q : Value → Shared → Prop} (N : News h₀ L s.heap news) (hp : (d, o) ∈ news) (hd : o.IsDictOf (strKind prog w) kvs) (hw : WsAre kvs ws) (hl : wsGet ws k = some x) (h : ∀ t', Q (.str x t') { s with toks := s.toks + 1 })
    (hs : subscripted slice false (.ref d) (.str k tk) = operate [.ref d, .str k tk] (getItem (.ref d) (.str k tk)) := by with_unfolding_all rfl) (hg : ∀ r, letTemporaryGo value (.ref d) r = pure () := by intro _; with_unfolding_all rfl) :
    wpAny (model prog w) A (subscriptTail value slice (.ref d) (.str k tk)) Q E s := by
  obtain ⟨t', ht⟩ := hw.some hl
  exact kda_item (knd := strKind prog w) N hp hd (strKind_is _ _ _ _) ht (h t') hs hg
theorem dw_set {Q : Unit → Shared → Prop} {g : Obj → Led} (F : Fr h₀ L s.heap m) (N : News h₀ L s.heap news) (U : UpdF d o news g) (hd : o.IsDictOf (strKind prog w) kvs) (hw : WsAre kvs ws) (hsz : ws.length ≤ 100)
    (h : ∀ h' o' kvs', Fr h₀ L h' m → News h₀ L h' (g o') → o'.IsDictOf (strKind prog w) kvs' → WsAre kvs' (wsPut ws k x) → Q () { s with heap := h', toks := s.toks + 1 }) : wpAny (model prog w) A (setItem (.ref d) (.str k tk) (.str x t)) Q E s :=
  kda_set (knd := strKind prog w) F N U hd (strKind_is _ _ _ _) (by rw [hw.len]; exact Nat.le_trans hsz (by decide)) fun h' o' a b c => h h' o' _ a b c hw.put
theorem dw_copy {Q : Value → Shared → Prop} (F : Fr h₀ L s.heap m) (N : News h₀ L s.heap news) (hbig : h₀.NoLimit) (hp : (d, o) ∈ news) (hd : o.IsDictOf (strKind prog w) kvs) (hw : WsAre kvs ws) (lo : (d == sysModules) = false) (hsz : ws.length ≤ 100)
    (h : ∀ d' h' o' kvs', Fr h₀ L h' m → News h₀ L h' ((d', o') :: news) → (∀ p ∈ news, p.1 < d') → (d' == sysModules) = false → o'.IsDictOf (strKind prog w) kvs' → WsAre kvs' ws → Q (.ref d') { s with heap := h' }) :
    wpAny (model prog w) A (call (.type "dict") [.ref d]) Q E s :=
  kt_dict_K (knd := strKind prog w) (enc := PyData.str) F N hbig ⟨lo, kvs, kda_dict N hp hd, hw.flat⟩ (by rw [List.length_map]; exact Nat.le_trans hsz (by decide)) fun d' h' o' kvs' a b c e f g => h d' h' o' kvs' a b c e f (.ofFlat g)
end
structure FrStep (ws : Ws) (k : Str) (els cur nxt : Ws) : Prop where
  some : ∀ x, wsGet ws k = some x → nxt = wsPut cur k x
  none : wsGet ws k = none → nxt = els
inductive FrMid (w : World) (led : Obj → Led) (nxt : Ws) (g : Heap) (L : Addr) (m : Str → Option Value) (s : Shared) (f : Flow) (s' : Shared) : Prop
  | mk (hf : f = .next) (h' : Heap) (tk : Nat) (o' : Obj) (kvs' : List (Str × Value)) (q1 : s' = { s with heap := h', toks := tk }) (q2 : Fr g L h' m) (q3 : News g L h' (led o')) (q4 : o'.IsDictOf (strKind PySem.Challenge.rw_pf0193_01.row.toRowW.prog w) kvs') (q5 : WsAre kvs' nxt)
theorem fr_mid {w : World} {led : Obj → Led} {nxt c : Ws} {g h' : Heap} {L : Addr} {m : Str → Option Value} {sh : Heap} {sg : Array GenState} {sd : Drawn} {st tk : Nat} {so : OsState} {o' : Obj} {kvs' : List (Str × Value)}
    (F : Fr g L h' m) (N : News g L h' (led o')) (hd : o'.IsDictOf (strKind PySem.Challenge.rw_pf0193_01.row.toRowW.prog w) kvs') (hw : WsAre kvs' c) (e : nxt = c) : FrMid w led nxt g L m ⟨sh, sg, sd, st, so⟩ .next ⟨h', sg, sd, tk, so⟩ :=
  ⟨rfl, h', tk, o', kvs', rfl, F, N, hd, e ▸ hw⟩
theorem fr_if {w : World} {A : Around} {E : Value → Shared → Prop} {sh : Heap} {sg : Array GenState} {sd : Drawn} {st : Nat} {so : OsState} {env : Env} {led : Obj → Led} {all : Led} {d9 : Addr} {o9 : Obj} {kvs : List (Str × Value)} {ws els cur nxt : Ws} {k : Str} {g : Heap} {L : Addr} {m : Str → Option Value} {test : Expr} {body orelse : List Stmt} {pos : Pos} {Q : Flow → Shared → Prop}
    (_F : Fr g L sh m) (_hd : o9.IsDictOf (strKind PySem.Challenge.rw_pf0193_01.row.toRowW.prog w) kvs) (_hw : WsAre kvs cur) (hs : FrStep ws k els cur nxt) (_N : News g L sh all) (_md : (d9, o9) ∈ all) (_U : UpdF d9 o9 all led)
    (u1 : ∀ x, wsGet ws k = some x → nxt = wsPut cur k x → wpAny (model PySem.Challenge.rw_pf0193_01.row.toRowW.prog w) A (isTrue test env (eval test env)) (fun b s₂ => if b then wpAny (model PySem.Challenge.rw_pf0193_01.row.toRowW.prog w) A (execs body env) (FrMid w led nxt g L m ⟨sh, sg, sd, st, so⟩) E s₂ else wpAny (model PySem.Challenge.rw_pf0193_01.row.toRowW.prog w) A (execs orelse env) (FrMid w led nxt g L m ⟨sh, sg, sd, st, so⟩) E s₂) E ⟨sh, sg, sd, st, so⟩)
    (u2 : wsGet ws k = none → nxt = els → wpAny (model PySem.Challenge.rw_pf0193_01.row.toRowW.prog w) A (isTrue test env (eval test env)) (fun b s₂ => if b then wpAny (model PySem.Challenge.rw_pf0193_01.row.toRowW.prog w) A (execs body env) (FrMid w led nxt g L m ⟨sh, sg, sd, st, so⟩) E s₂ else wpAny (model PySem.Challenge.rw_pf0193_01.row.toRowW.prog w) A (execs orelse env) (FrMid w led nxt g L m ⟨sh, sg, sd, st, so⟩) E s₂) E ⟨sh, sg, sd, st, so⟩)
    (uk : ∀ h' tk o' kvs', Fr g L h' m → News g L h' (led o') → o'.IsDictOf (strKind PySem.Challenge.rw_pf0193_01.row.toRowW.prog w) kvs' → WsAre kvs' nxt → Q .next ⟨h', sg, sd, tk, so⟩) : wpAny (model PySem.Challenge.rw_pf0193_01.row.toRowW.prog w) A (exec (.If test body orelse pos) env) Q E ⟨sh, sg, sd, st, so⟩ := by
  have key : wpAny (model PySem.Challenge.rw_pf0193_01.row.toRowW.prog w) A (exec (.If test body orelse pos) env) (FrMid w led nxt g L m ⟨sh, sg, sd, st, so⟩) E ⟨sh, sg, sd, st, so⟩ := by
    cases h : wsGet ws k with
    | none => exact wpAny_If (u2 h (hs.none h))
    | some x => exact wpAny_If (u1 x h (hs.some x h))
  refine wpAny_mono key (fun f s' => ?_) fun _ _ x => x
  intro hI9; (with_reducible refine (?_ : (let lG : Prop := _; lG))); intro lG; obtain ⟨rfl, h', tk, o', kvs', rfl, a, b, c, d⟩ := hI9; k_unfold; clear lG
  exact uk h' tk o' kvs' a b c d
end

end
theorem kw_dict_1 : True := by
  (k_with "dict:1" => first | (k_here; k_dflt (refine' dw_in ?k1_dict1 ?k2_dict1 ?k3_dict1 ?kw_dict1 ?k4_dict1 _ ?k5_dict1 ?_; (case k1_dict1 => k_asm); (case k2_dict1 => k_mem); (case k3_dict1 => k_asm); (case kw_dict1 => k_asm); (case k4_dict1 => k_asm); (case k5_dict1 => k_asm)); (try dsimp only [Option.isSome])) | fail)
  (k_with "dict:2" => first | (k_here; (with_reducible refine (?_ : wpAny _ _ (subscriptTail _ _ (Value.ref _) (Value.str _ _)) _ _ _)); k_dflt (refine' dw_item ?k1_dict2 ?k2_dict2 ?k3_dict2 ?kw_dict2 ?k5_dict2 ?_; (case k1_dict2 => k_asm); (case k2_dict2 => k_mem); (case k3_dict2 => k_asm); (case kw_dict2 => k_asm); (case k5_dict2 => k_asm)); intro t9') | fail)
  (k_with "dict:3" => first | (k_here; (with_reducible refine (?_ : wpAny _ _ (setItem (Value.ref _) (Value.str _ _) (Value.str _ _)) _ _ _)); k_dflt (refine' dw_set ?k1_dict3 ?k2_dict3 ?k3_dict3 ?k4_dict3 ?kw_dict3 ?k5_dict3 ?_; (case k1_dict3 => k_asm); (case k2_dict3 => k_asm); (case k3_dict3 => k_updF); (case k4_dict3 => k_asm); (case kw_dict3 => k_asm); (case k5_dict3 => first | omega | assumption | (refine Nat.le_trans (wsPut_len _ _ _) ?_; omega))); intro h9' o9' kvs9' F' N' hd9' hw9'; (try dsimp only at N'); (try k_sweep)) | fail)
  (k_with "dict:4" => first | (k_here; (with_reducible refine (?_ : wpAny _ _ (call (Value.type "dict") [Value.ref _]) _ _ _)); k_dflt (refine' dw_copy ?k1_dict4 ?k2_dict4 ?k6_dict4 ?k3_dict4 ?k4_dict4 ?kw_dict4 ?k7_dict4 ?k5_dict4 ?_; (case k1_dict4 => k_asm); (case k2_dict4 => k_asm); (case k6_dict4 => exact Top.nolimit (by k_asm)); (case k3_dict4 => k_mem); (case k4_dict4 => k_asm); (case kw_dict4 => k_asm); (case k7_dict4 => k_asm); (case k5_dict4 => first | omega | assumption)); intro d9' h9' o9' kvs9' F' N' l1 lo9' hd9' hw9'; (try k_lt l1); (try k_sweep)) | fail)
  (k_with "dict:5" => first | (k_here; k_dflt (refine' newDict_K ?k1_dict5 ?k2_dict5 ?k3_dict5 ?_; (case k1_dict5 => k_asm); (case k2_dict5 => k_asm); (case k3_dict5 => exact Top.nolimit (by k_asm)); k_whole); intro d' h' o' F' N' l1 lo' hs' fs' hi' fi'; (try k_lt l1); (try k_sweep)) | fail)
  trivial
section
theorem reset_framed : True := by
  (w_top off)
  (k_with "b27" => first | ((with_reducible refine (?_ : wpAny _ _ (compareOp CmpOp.In (Value.str _ _) (Value.ref _)) _ _ _)); first | (with_reducible (k_extra "dict:1")) | fail) | fail)
  (k_with "b28" => first | ((with_reducible refine (?_ : wpAny _ _ (setItem (Value.ref _) (Value.str _ _) _) _ _ _)); first | (with_reducible (k_extra "dict:3")) | fail) | fail)
  (k_with "b29" => first | ((with_reducible refine (?_ : wpAny _ _ (exec (Stmt.If _ _ _ _) _) _ _ _)); first | (with_reducible (k_extra "framed1")) | fail) | fail)
  (k_with "b30" => first | ((with_reducible refine (?_ : wpAny _ _ (call (Value.type "dict") _) _ _ _)); first | (with_reducible (k_extra "dict:4")) | fail) | fail)
  (k_with "b31" => first | ((with_reducible refine (?_ : wpAny _ _ (subscriptTail (Expr.Attribute _ _ _) _ _ _) _ _ _)); first | (with_reducible (k_extra "call:8")) | fail) | fail)
  (k_with "b32" => first | ((with_reducible refine (?_ : wpAny _ _ (subscriptTail _ _ _ _) _ _ _)); first | (with_reducible (k_extra "dict:2")) | fail) | fail)
  (k_with "b33" => first | ((fail_if_success (with_reducible refine (?_ : wpAny _ _ _ _ _ _))); first | ((with_reducible refine (?_ : FrMid ..)); first | (with_reducible (k_extra "framed2")) | fail) | ((with_reducible refine (?_ : (@ite _ _ (_) _ _))); first | (with_reducible (k_extra "call:3")) | fail) | fail) | fail)
  (k_with "b34" => first | ((fail_if_success (with_reducible refine (?_ : wpAny _ _ _ _ _ _))); first | ((with_reducible refine (?_ : SubL ..)); first | (k_extra "framed3") | fail) | ((with_reducible refine (?_ : UnrEndW ..)); first | (k_extra "lem:2") | fail) | fail) | fail)
  trivial
section
-- part framed
noncomputable def FramedPost (w : World) (D all : Led) (tgt : T) (v : Value) (D' : Led) : Prop := ∃ tl, D' = tl ++ all ∧ Fresh all tl ∧ ElemIn w (tl ++ D) v tgt
theorem framed_fin {w : World} {h₀ h : Heap} {L x9 dx9 d9 l2 : Addr} {a c : Addr × Obj} {o9 : Obj} {all D tl9 : Led} {vs : Array Value} {kl : Nat} {kids : List T} {kvs : List (Str × Value)} {ws : Ws} {text : Str} {v1 v2 v3 v4 : Int} {s1 s2 s3 s4 tn tt : Tok} {tgt : T}
    (N : News h₀ L h (tl9 ++ a :: (d9, o9) :: c :: all)) (fr9 : Fresh (a :: (d9, o9) :: c :: all) tl9) (q1 : AllLt a.1 all) (q2 : AllLt d9 all) (q3 : AllLt c.1 all)
    (hd : o9.IsDictOf (strKind prg w) kvs) (hw : WsAre kvs ws) (lo : (d9 == sysModules) = false)
    (m9 : (x9, instObj 203 dx9) ∈ tl9) (n9 : (dx9, dictOf [⟨v1, .str (S "name") s1, .str (S "svg") tn⟩, ⟨v2, .str (S "attributes") s2, .ref d9⟩, ⟨v3, .str (S "children") s3, .ref l2⟩, ⟨v4, .str (S "text") s4, .str text tt⟩] 4) ∈ tl9)
    (ml : (l2, listOf vs kl) ∈ D) (mk : ElemsIn w D vs.toList kids) (ht : tgt = .mk (S "svg") ws kids text) :
    ∃ D', News h₀ L h D' ∧ FramedPost w D all tgt (.ref x9) D' := by
  refine ⟨(tl9 ++ [a, (d9, o9), c]) ++ all, fun p hp => N p (by simp only [List.append_assoc, List.cons_append, List.nil_append] at hp; exact hp), _, rfl, fresh_app (fun p hp q hq => fr9 p hp q (.tail _ (.tail _ (.tail _ hq)))) (fresh_cons q1 (fresh_cons q2 (fresh_cons q3 fresh_nil))), ?_⟩
  subst ht
  unfold ElemIn
  exact ⟨x9, dx9, d9, l2, 4, kl, vs, _, _, _, _, _, _, _, _, _, _, rfl, List.mem_append_left _ (List.mem_append_left _ m9), List.mem_append_left _ (List.mem_append_left _ n9),
    ⟨o9, kvs, List.mem_append_left _ (List.mem_append_right _ (.tail _ (.head _))), hd, hw, lo⟩, List.mem_append_right _ ml, mk.mono sub_app⟩
theorem fr_stepS {ws cur nxt : Ws} {t : T} {k : Str} (ht : t.name = S "symbol") (e : nxt = frW1 ws t k cur) : FrStep ws k (wsPut cur k (S "100%")) cur nxt :=
  ⟨fun x h => by rw [e]; unfold frW1; rw [h], fun h => by rw [e]; unfold frW1; rw [h]; exact if_pos ht⟩
theorem fr_stepV {ws cur nxt : Ws} {t : T} {k : Str} (ht : ¬ t.name = S "symbol") (e : nxt = frW1 ws t k cur) : FrStep ws k cur cur nxt :=
  ⟨fun x h => by rw [e]; unfold frW1; rw [h], fun h => by rw [e]; unfold frW1; rw [h]; exact if_neg ht⟩
theorem fr_len {ws els cur nxt : Ws} {k : Str} (s : FrStep ws k els cur nxt) (h : els.length ≤ cur.length + 1) : nxt.length ≤ cur.length + 1 := by
  cases e : wsGet ws k with
  | none => rw [s.none e]; exact h
  | some x => rw [s.some x e]; exact wsPut_len _ _ _
section
theorem kw_framed1 : True := by
  (k_with "framed1" => first | (k_here; (with_reducible refine (?_ : wpAny _ _ (exec (Stmt.If (Expr.Compare (Expr.Name _ _) _ _ _) _ _ _) _) _ _ _)); k_dflt (refine' fr_if ?F_framed1 ?hd_framed1 ?hw_framed1 ?hs_framed1 ?N_framed1 ?md_framed1 ?U_framed1 ?_ ?_ ?_; (case F_framed1 => k_asm); (case hd_framed1 => k_asm); (case hw_framed1 => k_asm); (case hs_framed1 => k_asm); (case N_framed1 => k_asm); (case md_framed1 => k_mem); (case U_framed1 => k_updF)); intro x9 h9' n9; rotate_left; intro h9' n9; rotate_left; intro h9' tk9' o9' kvs9' F' N' hd9' hw9'; (try dsimp only at N'); (try k_sweep)) | fail)
  (k_with "framed2" => first | (refine' fr_mid ?a_framed2 ?b_framed2 ?c_framed2 ?d_framed2 ?e_framed2; (case a_framed2 => k_asm); (case b_framed2 => k_asm); (case c_framed2 => k_asm); (case d_framed2 => k_asm); (case e_framed2 => assumption)) | fail)
  (k_with "framed3" => first | (exact ⟨.head _, trivial⟩) | fail)
  trivial
theorem framed_other {w : World} {D all : Led} {x x2 dx2 d2 l2 : Addr} {n2 : Nat} {name text2 : Str} {g1 g2 g3 g4 : Int} {s1 s2 s3 s4 sn st : Tok} {ws : Ws} {t : T}
    (hne1 : (name == S "symbol") = false) (hne2 : (name == S "svg") = false) (hn : t.name = name)
    (mx2 : (x2, instObj 203 dx2) ∈ all) (mdx2 : (dx2, dictOf [⟨g1, .str (S "name") s1, .str name sn⟩, ⟨g2, .str (S "attributes") s2, .ref d2⟩, ⟨g3, .str (S "children") s3, .ref l2⟩, ⟨g4, .str (S "text") s4, .str text2 st⟩] n2) ∈ all)
    (hx2 : ElemIn w D (.ref x2) t) :
    Call w 12 289 [.ref x, .ref x2] all (FramedPost w D all (framedT ws t)) := by
  constructor
  intro dp un gd cn cs a ccd cl outer A₀ base h₀ L m sh sg sd st so mean mg mb Q E B F X N T hk hdp hun ret
  have ht : framedT ws t = t := by
    unfold framedT
    rw [if_neg]
    rw [hn]
    intro h
    rcases h with h | h
    · rw [h] at hne1; exact absurd hne1 (by decide)
    · rw [h] at hne2; exact absurd hne2 (by decide)
  rw [ht] at ret
  have hany : ([Str.ofString "symbol", Str.ofString "svg"].any fun x => x == name) = false := by
    have e : ∀ c : Str, (name == c) = false → (c == name) = false := fun c h => by
      rw [beq_eq_false_iff_ne] at h ⊢
      exact fun q => h q.symm
    rw [List.any_cons, List.any_cons, List.any_nil, e _ hne1, e _ hne2]
    rfl
  skip
  refine wpAny_call ?_
  k_dflt ktr_enter
  (repeat' (first | k_extra "sa" | k_extra "b0" | k_extra "b10" | k_extra "b23" | k_extra "sz"))
  exact ret _ _ _ all (by k_asm) (fun p hp => (by assumption : News h₀ L _ (_ :: all)) p (.tail _ hp)) ⟨[], rfl, fresh_nil, hx2⟩
theorem framed_symbol {w : World} {D all : Led} {x dx d l x2 dx2 d2 l2 : Addr} {nn n2 kl : Nat} {o o2 : Obj} {kvs kvs2 : List (Str × Value)} {ws ws2 : Ws} {name text text2 : Str} {vs : Array Value} {kids : List T} {h1 h2 h3 h4 g1 g2 g3 g4 : Int} {t1 t2 t3 t4 tn tt s1 s2 s3 s4 sn st : Tok} {vw vh : Option Str}
    (mx : (x, instObj 203 dx) ∈ all) (mdx : (dx, dictOf [⟨h1, .str (S "name") t1, .str name tn⟩, ⟨h2, .str (S "attributes") t2, .ref d⟩, ⟨h3, .str (S "children") t3, .ref l⟩, ⟨h4, .str (S "text") t4, .str text tt⟩] nn) ∈ all)
    (md : (d, o) ∈ all) (hd : o.IsDictOf (strKind prg w) kvs) (hw : WsAre kvs ws) (hlo : (d == sysModules) = false)
    (mx2 : (x2, instObj 203 dx2) ∈ all) (mdx2 : (dx2, dictOf [⟨g1, .str (S "name") s1, .str (S "symbol") sn⟩, ⟨g2, .str (S "attributes") s2, .ref d2⟩, ⟨g3, .str (S "children") s3, .ref l2⟩, ⟨g4, .str (S "text") s4, .str text2 st⟩] n2) ∈ all)
    (md2 : (d2, o2) ∈ all) (hd2 : o2.IsDictOf (strKind prg w) kvs2) (hw2 : WsAre kvs2 ws2) (hlo2 : (d2 == sysModules) = false)
    (ml : (l2, listOf vs kl) ∈ D) (mk : ElemsIn w D vs.toList kids)
    (hvw : wsGet ws (S "width") = vw) (hvh : wsGet ws (S "height") = vh) (hz : ws2.length ≤ 16) :
    Call w 12 289 [.ref x, .ref x2] all (FramedPost w D all (framedT ws (.mk (S "symbol") ws2 kids text2))) := by
  constructor
  intro dp un gd cn cs a ccd cl outer A₀ base h₀ L m sh sg sd st so mean mg mb Q E B F X N T hk hdp hun ret
  have hz1 : ws2.length ≤ 100 := by omega
  have ht : framedT ws (.mk (S "symbol") ws2 kids text2) = .mk (S "svg") (frW1 ws (.mk (S "symbol") ws2 kids text2) (S "height") (frW1 ws (.mk (S "symbol") ws2 kids text2) (S "width") ws2)) kids text2 := rfl
  obtain ⟨w1, e1⟩ : ∃ w1, w1 = frW1 ws (.mk (S "symbol") ws2 kids text2) (S "width") ws2 := ⟨_, rfl⟩
  obtain ⟨w2, e2⟩ : ∃ w2, w2 = frW1 ws (.mk (S "symbol") ws2 kids text2) (S "height") w1 := ⟨_, rfl⟩
  rw [← e1, ← e2] at ht
  have qs1 : FrStep ws (S "width") (wsPut ws2 (S "width") (S "100%")) ws2 w1 := fr_stepS rfl e1
  have qs2 : FrStep ws (S "height") (wsPut w1 (S "height") (S "100%")) w1 w2 := fr_stepS rfl e2
  have qz1 : w1.length ≤ 100 := Nat.le_trans (fr_len qs1 (wsPut_len _ _ _)) (by omega)
  clear e1 e2 hvw hvh
  skip
  refine wpAny_call ?_
  k_dflt ktr_enter
  (repeat' (first | k_extra "sa" | k_extra "b18" | k_extra "b27" | k_extra "b28" | k_extra "b10" | k_extra "b29" | k_extra "b30" | k_extra "b17" | k_extra "b13" | k_extra "b5" | k_extra "b31" | k_extra "b1" | k_extra "b21" | k_extra "b32" | k_extra "b23" | k_extra "b2" | k_extra "b33" | k_extra "b34" | k_extra "sz"))
  obtain ⟨D', hN, hP⟩ := framed_fin (by assumption) (by assumption) (by ktr_rel) (by ktr_rel) (by ktr_rel) (by assumption) (by assumption) (by assumption) (by assumption) (by assumption) ml mk ht
  exact ret _ _ _ D' (by k_asm) hN hP
theorem framed_svg {w : World} {D all : Led} {x dx d l x2 dx2 d2 l2 : Addr} {nn n2 kl : Nat} {o o2 : Obj} {kvs kvs2 : List (Str × Value)} {ws ws2 : Ws} {name text text2 : Str} {vs : Array Value} {kids : List T} {h1 h2 h3 h4 g1 g2 g3 g4 : Int} {t1 t2 t3 t4 tn tt s1 s2 s3 s4 sn st : Tok} {vw vh : Option Str}
    (mx : (x, instObj 203 dx) ∈ all) (mdx : (dx, dictOf [⟨h1, .str (S "name") t1, .str name tn⟩, ⟨h2, .str (S "attributes") t2, .ref d⟩, ⟨h3, .str (S "children") t3, .ref l⟩, ⟨h4, .str (S "text") t4, .str text tt⟩] nn) ∈ all)
    (md : (d, o) ∈ all) (hd : o.IsDictOf (strKind prg w) kvs) (hw : WsAre kvs ws) (hlo : (d == sysModules) = false)
    (mx2 : (x2, instObj 203 dx2) ∈ all) (mdx2 : (dx2, dictOf [⟨g1, .str (S "name") s1, .str (S "svg") sn⟩, ⟨g2, .str (S "attributes") s2, .ref d2⟩, ⟨g3, .str (S "children") s3, .ref l2⟩, ⟨g4, .str (S "text") s4, .str text2 st⟩] n2) ∈ all)
    (md2 : (d2, o2) ∈ all) (hd2 : o2.IsDictOf (strKind prg w) kvs2) (hw2 : WsAre kvs2 ws2) (hlo2 : (d2 == sysModules) = false)
    (ml : (l2, listOf vs kl) ∈ D) (mk : ElemsIn w D vs.toList kids)
    (hvw : wsGet ws (S "width") = vw) (hvh : wsGet ws (S "height") = vh) (hz : ws2.length ≤ 16) :
    Call w 12 289 [.ref x, .ref x2] all (FramedPost w D all (framedT ws (.mk (S "svg") ws2 kids text2))) := by
  constructor
  intro dp un gd cn cs a ccd cl outer A₀ base h₀ L m sh sg sd st so mean mg mb Q E B F X N T hk hdp hun ret
  have hz1 : ws2.length ≤ 100 := by omega
  have ht : framedT ws (.mk (S "svg") ws2 kids text2) = .mk (S "svg") (frW1 ws (.mk (S "svg") ws2 kids text2) (S "height") (frW1 ws (.mk (S "svg") ws2 kids text2) (S "width") ws2)) kids text2 := rfl
  obtain ⟨w1, e1⟩ : ∃ w1, w1 = frW1 ws (.mk (S "svg") ws2 kids text2) (S "width") ws2 := ⟨_, rfl⟩
  obtain ⟨w2, e2⟩ : ∃ w2, w2 = frW1 ws (.mk (S "svg") ws2 kids text2) (S "height") w1 := ⟨_, rfl⟩
  rw [← e1, ← e2] at ht
  have qs1 : FrStep ws (S "width") (ws2) ws2 w1 := fr_stepV (by show ¬ (S "svg" = S "symbol"); decide) e1
  have qs2 : FrStep ws (S "height") (w1) w1 w2 := fr_stepV (by show ¬ (S "svg" = S "symbol"); decide) e2
  have qz1 : w1.length ≤ 100 := Nat.le_trans (fr_len qs1 (Nat.le_succ _)) (by omega)
  clear e1 e2 hvw hvh
  skip
  refine wpAny_call ?_
  k_dflt ktr_enter
  (repeat' (first | k_extra "sa" | k_extra "b18" | k_extra "b27" | k_extra "b28" | k_extra "b10" | k_extra "b29" | k_extra "b30" | k_extra "b17" | k_extra "b13" | k_extra "b5" | k_extra "b31" | k_extra "b1" | k_extra "b21" | k_extra "b32" | k_extra "b23" | k_extra "b2" | k_extra "b33" | k_extra "b34" | k_extra "sz"))
  obtain ⟨D', hN, hP⟩ := framed_fin (by assumption) (by assumption) (by ktr_rel) (by ktr_rel) (by ktr_rel) (by assumption) (by assumption) (by assumption) (by assumption) (by assumption) ml mk ht
  exact ret _ _ _ D' (by k_asm) hN hP
end
theorem c_framed {w : World} {D all : Led} {x : Addr} {t t2 : T} {v2 : Value} (sub : ∀ p ∈ D, p ∈ all) (hx : ElemIn w D (.ref x) t) (h2 : ElemIn w D v2 t2) (ok : OkT t2) :
    Call w 12 289 [.ref x, v2] all (FramedPost w D all (framedT t.ws t2)) := by
  have hx2 := h2
  cases t with
  | mk name ws kids text =>
  cases t2 with
  | mk name2 ws2 kids2 text2 =>
  unfold ElemIn at hx h2
  (with_reducible refine (?_ : (let lG : Prop := _; lG))); intro lG; obtain ⟨x', dx, d, l, n, k, vs, h1, h2', h3, h4, t1, t2, t3, t4, tn, tt, e, a1, a2, ⟨o, kvs, a3, a4, a5, a6⟩, a7, a8⟩ := hx; k_unfold; clear lG
  cases e
  (with_reducible refine (?_ : (let lG : Prop := _; lG))); intro lG; obtain ⟨x2, dx2, d2, l2, n2, k2, vs2, g1, g2, g3, g4, s1, s2, s3, s4, sn, st, rfl, b1, b2, ⟨o2, kvs2, b3, b4, b5, b6⟩, b7, b8⟩ := h2; k_unfold; clear lG
  unfold OkT at ok
  cases c1 : (name2 == S "symbol") with
  | true =>
    have c1 := eq_of_beq c1
    subst c1
    show Call w 12 289 [.ref x, .ref x2] all (FramedPost w D all (framedT ws (T.mk (S "symbol") ws2 kids2 text2)))
    exact framed_symbol (sub _ a1) (sub _ a2) (sub _ a3) a4 a5 a6 (sub _ b1) (sub _ b2) (sub _ b3) b4 b5 b6 b7 b8 rfl rfl ok.1
  | false =>
    cases c2 : (name2 == S "svg") with
    | true =>
      have c2 := eq_of_beq c2
      subst c2
      show Call w 12 289 [.ref x, .ref x2] all (FramedPost w D all (framedT ws (T.mk (S "svg") ws2 kids2 text2)))
      exact framed_svg (sub _ a1) (sub _ a2) (sub _ a3) a4 a5 a6 (sub _ b1) (sub _ b2) (sub _ b3) b4 b5 b6 b7 b8 rfl rfl ok.1
    | false =>
      show Call w 12 289 [.ref x, .ref x2] all (FramedPost w D all (framedT ws (T.mk name2 ws2 kids2 text2)))
      exact framed_other c1 c2 rfl (sub _ b1) (sub _ b2) hx2
end

theorem reset_whl : True := by
  (w_top off)
  trivial
section
-- part whl
noncomputable def WhU (prog : Program) (w : World) (A : Around) (test : Expr) (body : List Stmt) (env : Env) (Q : Flow → Shared → Prop) (E : Value → Shared → Prop) : Nat → Shared → Prop
  | 0, _ => False
  | n + 1, s => wpAny (model prog w) A (isTrue test env (eval test env)) (fun b s₂ => if b = true then wpAny (model prog w) A (execs body env) (fun f s₃ => match f with | .next => WhU prog w A test body env Q E n s₃ | _ => False) E s₂ else Q .next s₂) E s
section
variable {prog : Program} {w : World} {A : Around} {E : Value → Shared → Prop} {Q : Flow → Shared → Prop} {s : Shared} {env : Env} {test : Expr} {body : List Stmt} {pos : Pos}
theorem whU_step {n : Nat} (h : wpAny (model prog w) A (isTrue test env (eval test env)) (fun b s₂ => if b = true then wpAny (model prog w) A (execs body env) (fun f s₃ => match f with | .next => WhU prog w A test body env Q E n s₃ | _ => False) E s₂ else Q .next s₂) E s) :
    WhU prog w A test body env Q E (n + 1) s := h
theorem whU (n : Nat) (h : WhU prog w A test body env Q E n s) (hE : PassesOwn (model prog w) A env E := by passes_own) : wpAny (model prog w) A (exec (.While test body [] pos) env) Q E s := by
  refine wpAny_While (codeAny_whileLoop (fun n s' => WhU prog w A test body env Q E n s') ?_ n h)
  intro k s' hk
  cases k with
  | zero => exact hk.elim
  | succ k =>
    refine wpAny_mono (show wpAny _ _ _ _ _ _ from hk) (fun b s₂ h₂ => ?_) hE
    cases b with
    | false =>
      simp only [Bool.false_eq_true, if_false] at h₂ ⊢
      exact wpAny_execs_nil h₂
    | true =>
      simp only [if_true] at h₂ ⊢
      refine wpAny_mono h₂ (fun f s₃ h₃ => ?_) hE
      cases f with
      | next => exact ⟨k, Nat.lt_succ_self _, h₃⟩
      | cont => exact h₃.elim
      | brk => exact h₃.elim
      | ret v => exact h₃.elim
end
section
variable {prog : Program} {w : World} {A : Around} {E : Value → Shared → Prop} {Q : Flow → Shared → Prop} {s : Shared} {env : Env} {target : Expr} {body : List Stmt} {h₀ : Heap}
theorem iter_strTurns {x : Str} {t : Tok} {m₀ : Str → Option Value} {news : Led} (ha : x.cps.all (· < 128) = true) (ht : ∀ it v, letOwnedTupleGo target it v = pure ())
    (hh : A.handled = none) (F : Fr h₀ env.locals s.heap m₀) (N : News h₀ env.locals s.heap news)
    (rest₀ : ∀ I : Addr, (∀ p ∈ news, p.1 < I) → ItemsRest prog w A E h₀ env target body Q s [(I, "str_ascii_iterator")] [] (x.cps.toList.map fun c => .tok fun u => .str ⟨#[c]⟩ u) m₀ news) :
    wpAny (model prog w) A (pyIter (.str x t)) (fun it s₂ => TurnsAt prog w A h₀ env target body Q E it s₂) E s := by
  refine wpAny_pyIter_ascii ha ?_
  refine ktu_core (tk0 := s.toks) (keep := []) (KTurns.ofWalks (Walks.strAscii hh s.heap.objs.size x t) fun i v s Q E st q => (by rw [ht]; exact wpAny_pure q)) (by simp) (fun i v h hp => ?_) (fun i h st => ?_) (fun b hb => ?_) (fun b hb => by simpa using hb) (fun b hb => ?_)
    ?_ (fun p hp hI => ?_) ?_ (F.keeps fun _ _ e => Heap.get?_push_of_some _ e) (N.grown fun _ _ e => Heap.get?_push_of_some _ e) trivial (rest₀ _ fun p hp => Heap.lt_size (N p hp).1)
  · refine exC2 hp ?_; (try clear hp); intro c u hR; refine anC2 hR ?_; clear hR; intro hc hO3; subst hO3
    exact ⟨.tok fun u => .str ⟨#[c]⟩ u, by rw [List.getElem?_map, Array.getElem?_toList, hc]; rfl, u, rfl⟩
  · refine exC1 st ?_; (try clear st); intro it hR; refine anC3 hR ?_; clear hR; intro hit hic _
    exact ⟨[(s.heap.objs.size, it)], ⟨⟨rfl, hic⟩, trivial⟩, fun p hp => by rw [List.mem_singleton.mp hp]; exact hit⟩
  · have hb' : b = s.heap.objs.size := by simpa using hb
    rw [hb']
    exact ⟨List.mem_cons_self .., next_is_new F⟩
  · have hb' : b = s.heap.objs.size := by simpa using hb
    exact .inl (by simp [hb'])
  · intro hI
    exact absurd F.ns.lt ((List.mem_singleton.mp hI) ▸ Nat.lt_irrefl _)
  · exact absurd (Heap.lt_size (N p hp).1) ((List.mem_singleton.mp hI) ▸ Nat.lt_irrefl _)
  · exact ⟨_, Heap.get?_push_size _ rfl, rfl, rfl⟩
end
end

end
theorem kw_whl_1 : True := by
  (k_with "whl:1" => first | (k_here; k_dflt (refine whU 4 ?_)) | fail)
  (k_with "whl:2" => first | (k_here; k_dflt (refine whU 4 ?_)) | fail)
  (k_with "whl:3" => first | (refine whU_step ?_) | fail)
  (k_with "whl:4" => first | (k_here; (with_reducible refine (?_ : wpAny _ _ (pyIter (Value.str _ _)) (fun it s₂ => TurnsAt _ _ _ _ _ _ _ _ _ it s₂) _ _)); (rename Fr _ _ _ _ => lF'); (rename News _ _ _ _ => lN'); k_dflt (refine' iter_strTurns ?ha_whl4 ?ht_whl4 rfl lF' lN' ?_; (case ha_whl4 => decide +kernel); (case ht_whl4 => (intro _ _; rfl)); k_whole); intro i' l1; (try k_lt l1)) | fail)
  trivial
section
theorem reset_is1 : True := by
  (w_top off)
  trivial
section
-- part is1
theorem is1_a_s {w : World} {all : Led} {r rd : Addr} {h1 h2 : Int} {k1 k2 ty ti t : Tok} (mr : (r, instObj 145 rd) ∈ all) (off : ∀ p ∈ all, @Ne Nat p.1 rd) :
    Call w 3 128 [.ref r, .str (S "+-") t] ((rd, dictOf [⟨h1, .str (S "text") k1, .str (S "0") ty⟩, ⟨h2, .str (S "at") k2, .int 0 ti⟩] 2) :: all) fun v D' => v = .bool false ∧ D' = (rd, dictOf [⟨h1, .str (S "text") k1, .str (S "0") ty⟩, ⟨h2, .str (S "at") k2, .int 0 ti⟩] 2) :: all := by
  constructor
  intro dp un gd cn cs a ccd cl outer A₀ base h₀ L m sh sg sd st so mean mg mb Q E B F X N T hk hdp hun ret
  skip
  refine wpAny_call ?_
  k_dflt ktr_enter
  (repeat' (first | k_extra "sa" | k_extra "b10" | k_extra "b5" | k_extra "b31" | k_extra "b1" | k_extra "b24" | k_extra "sz"))
  exact ret _ _ _ _ (by k_asm) (by k_asm) ⟨by first | with_reducible rfl | exact congrArg Value.bool (by decide +kernel), rfl⟩
theorem is1_a_d {w : World} {all : Led} {r rd : Addr} {h1 h2 : Int} {k1 k2 ty ti t : Tok} (mr : (r, instObj 145 rd) ∈ all) (off : ∀ p ∈ all, @Ne Nat p.1 rd) :
    Call w 3 128 [.ref r, .str (S "0123456789") t] ((rd, dictOf [⟨h1, .str (S "text") k1, .str (S "0") ty⟩, ⟨h2, .str (S "at") k2, .int 0 ti⟩] 2) :: all) fun v D' => v = .bool true ∧ D' = (rd, dictOf [⟨h1, .str (S "text") k1, .str (S "0") ty⟩, ⟨h2, .str (S "at") k2, .int 0 ti⟩] 2) :: all := by
  constructor
  intro dp un gd cn cs a ccd cl outer A₀ base h₀ L m sh sg sd st so mean mg mb Q E B F X N T hk hdp hun ret
  skip
  refine wpAny_call ?_
  k_dflt ktr_enter
  (repeat' (first | k_extra "sa" | k_extra "b10" | k_extra "b5" | k_extra "b31" | k_extra "b1" | k_extra "b24" | k_extra "sz"))
  exact ret _ _ _ _ (by k_asm) (by k_asm) ⟨by first | with_reducible rfl | exact congrArg Value.bool (by decide +kernel), rfl⟩
theorem is1_a_e {w : World} {all : Led} {r rd : Addr} {h1 h2 : Int} {k1 k2 ty ti t : Tok} {z : Str} (mr : (r, instObj 145 rd) ∈ all) (off : ∀ p ∈ all, @Ne Nat p.1 rd) :
    Call w 3 128 [.ref r, .str z t] ((rd, dictOf [⟨h1, .str (S "text") k1, .str (S "0") ty⟩, ⟨h2, .str (S "at") k2, .int 1 ti⟩] 2) :: all) fun v D' => v = .bool false ∧ D' = (rd, dictOf [⟨h1, .str (S "text") k1, .str (S "0") ty⟩, ⟨h2, .str (S "at") k2, .int 1 ti⟩] 2) :: all := by
  constructor
  intro dp un gd cn cs a ccd cl outer A₀ base h₀ L m sh sg sd st so mean mg mb Q E B F X N T hk hdp hun ret
  skip
  refine wpAny_call ?_
  k_dflt ktr_enter
  (repeat' (first | k_extra "sa" | k_extra "b10" | k_extra "b5" | k_extra "b24" | k_extra "sz"))
  exact ret _ _ _ _ (by k_asm) (by k_asm) ⟨by first | with_reducible rfl | exact congrArg Value.bool (by decide +kernel), rfl⟩
theorem is1_b_s {w : World} {all : Led} {r rd : Addr} {h1 h2 : Int} {k1 k2 ty ti t : Tok} (mr : (r, instObj 145 rd) ∈ all) (off : ∀ p ∈ all, @Ne Nat p.1 rd) :
    Call w 3 128 [.ref r, .str (S "+-") t] ((rd, dictOf [⟨h1, .str (S "text") k1, .str (S "3") ty⟩, ⟨h2, .str (S "at") k2, .int 0 ti⟩] 2) :: all) fun v D' => v = .bool false ∧ D' = (rd, dictOf [⟨h1, .str (S "text") k1, .str (S "3") ty⟩, ⟨h2, .str (S "at") k2, .int 0 ti⟩] 2) :: all := by
  constructor
  intro dp un gd cn cs a ccd cl outer A₀ base h₀ L m sh sg sd st so mean mg mb Q E B F X N T hk hdp hun ret
  skip
  refine wpAny_call ?_
  k_dflt ktr_enter
  (repeat' (first | k_extra "sa" | k_extra "b10" | k_extra "b5" | k_extra "b31" | k_extra "b1" | k_extra "b24" | k_extra "sz"))
  exact ret _ _ _ _ (by k_asm) (by k_asm) ⟨by first | with_reducible rfl | exact congrArg Value.bool (by decide +kernel), rfl⟩
theorem is1_b_d {w : World} {all : Led} {r rd : Addr} {h1 h2 : Int} {k1 k2 ty ti t : Tok} (mr : (r, instObj 145 rd) ∈ all) (off : ∀ p ∈ all, @Ne Nat p.1 rd) :
    Call w 3 128 [.ref r, .str (S "0123456789") t] ((rd, dictOf [⟨h1, .str (S "text") k1, .str (S "3") ty⟩, ⟨h2, .str (S "at") k2, .int 0 ti⟩] 2) :: all) fun v D' => v = .bool true ∧ D' = (rd, dictOf [⟨h1, .str (S "text") k1, .str (S "3") ty⟩, ⟨h2, .str (S "at") k2, .int 0 ti⟩] 2) :: all := by
  constructor
  intro dp un gd cn cs a ccd cl outer A₀ base h₀ L m sh sg sd st so mean mg mb Q E B F X N T hk hdp hun ret
  skip
  refine wpAny_call ?_
  k_dflt ktr_enter
  (repeat' (first | k_extra "sa" | k_extra "b10" | k_extra "b5" | k_extra "b31" | k_extra "b1" | k_extra "b24" | k_extra "sz"))
  exact ret _ _ _ _ (by k_asm) (by k_asm) ⟨by first | with_reducible rfl | exact congrArg Value.bool (by decide +kernel), rfl⟩
theorem is1_b_e {w : World} {all : Led} {r rd : Addr} {h1 h2 : Int} {k1 k2 ty ti t : Tok} {z : Str} (mr : (r, instObj 145 rd) ∈ all) (off : ∀ p ∈ all, @Ne Nat p.1 rd) :
    Call w 3 128 [.ref r, .str z t] ((rd, dictOf [⟨h1, .str (S "text") k1, .str (S "3") ty⟩, ⟨h2, .str (S "at") k2, .int 1 ti⟩] 2) :: all) fun v D' => v = .bool false ∧ D' = (rd, dictOf [⟨h1, .str (S "text") k1, .str (S "3") ty⟩, ⟨h2, .str (S "at") k2, .int 1 ti⟩] 2) :: all := by
  constructor
  intro dp un gd cn cs a ccd cl outer A₀ base h₀ L m sh sg sd st so mean mg mb Q E B F X N T hk hdp hun ret
  skip
  refine wpAny_call ?_
  k_dflt ktr_enter
  (repeat' (first | k_extra "sa" | k_extra "b10" | k_extra "b5" | k_extra "b24" | k_extra "sz"))
  exact ret _ _ _ _ (by k_asm) (by k_asm) ⟨by first | with_reducible rfl | exact congrArg Value.bool (by decide +kernel), rfl⟩
theorem is1_c_s {w : World} {all : Led} {r rd : Addr} {h1 h2 : Int} {k1 k2 ty ti t : Tok} (mr : (r, instObj 145 rd) ∈ all) (off : ∀ p ∈ all, @Ne Nat p.1 rd) :
    Call w 3 128 [.ref r, .str (S "+-") t] ((rd, dictOf [⟨h1, .str (S "text") k1, .str (S "7") ty⟩, ⟨h2, .str (S "at") k2, .int 0 ti⟩] 2) :: all) fun v D' => v = .bool false ∧ D' = (rd, dictOf [⟨h1, .str (S "text") k1, .str (S "7") ty⟩, ⟨h2, .str (S "at") k2, .int 0 ti⟩] 2) :: all := by
  constructor
  intro dp un gd cn cs a ccd cl outer A₀ base h₀ L m sh sg sd st so mean mg mb Q E B F X N T hk hdp hun ret
  skip
  refine wpAny_call ?_
  k_dflt ktr_enter
  (repeat' (first | k_extra "sa" | k_extra "b10" | k_extra "b5" | k_extra "b31" | k_extra "b1" | k_extra "b24" | k_extra "sz"))
  exact ret _ _ _ _ (by k_asm) (by k_asm) ⟨by first | with_reducible rfl | exact congrArg Value.bool (by decide +kernel), rfl⟩
theorem is1_c_d {w : World} {all : Led} {r rd : Addr} {h1 h2 : Int} {k1 k2 ty ti t : Tok} (mr : (r, instObj 145 rd) ∈ all) (off : ∀ p ∈ all, @Ne Nat p.1 rd) :
    Call w 3 128 [.ref r, .str (S "0123456789") t] ((rd, dictOf [⟨h1, .str (S "text") k1, .str (S "7") ty⟩, ⟨h2, .str (S "at") k2, .int 0 ti⟩] 2) :: all) fun v D' => v = .bool true ∧ D' = (rd, dictOf [⟨h1, .str (S "text") k1, .str (S "7") ty⟩, ⟨h2, .str (S "at") k2, .int 0 ti⟩] 2) :: all := by
  constructor
  intro dp un gd cn cs a ccd cl outer A₀ base h₀ L m sh sg sd st so mean mg mb Q E B F X N T hk hdp hun ret
  skip
  refine wpAny_call ?_
  k_dflt ktr_enter
  (repeat' (first | k_extra "sa" | k_extra "b10" | k_extra "b5" | k_extra "b31" | k_extra "b1" | k_extra "b24" | k_extra "sz"))
  exact ret _ _ _ _ (by k_asm) (by k_asm) ⟨by first | with_reducible rfl | exact congrArg Value.bool (by decide +kernel), rfl⟩
theorem is1_c_e {w : World} {all : Led} {r rd : Addr} {h1 h2 : Int} {k1 k2 ty ti t : Tok} {z : Str} (mr : (r, instObj 145 rd) ∈ all) (off : ∀ p ∈ all, @Ne Nat p.1 rd) :
    Call w 3 128 [.ref r, .str z t] ((rd, dictOf [⟨h1, .str (S "text") k1, .str (S "7") ty⟩, ⟨h2, .str (S "at") k2, .int 1 ti⟩] 2) :: all) fun v D' => v = .bool false ∧ D' = (rd, dictOf [⟨h1, .str (S "text") k1, .str (S "7") ty⟩, ⟨h2, .str (S "at") k2, .int 1 ti⟩] 2) :: all := by
  constructor
  intro dp un gd cn cs a ccd cl outer A₀ base h₀ L m sh sg sd st so mean mg mb Q E B F X N T hk hdp hun ret
  skip
  refine wpAny_call ?_
  k_dflt ktr_enter
  (repeat' (first | k_extra "sa" | k_extra "b10" | k_extra "b5" | k_extra "b24" | k_extra "sz"))
  exact ret _ _ _ _ (by k_asm) (by k_asm) ⟨by first | with_reducible rfl | exact congrArg Value.bool (by decide +kernel), rfl⟩
theorem is1_m_s {w : World} {all : Led} {r rd : Addr} {h1 h2 : Int} {k1 k2 ty ti t : Tok} (mr : (r, instObj 145 rd) ∈ all) (off : ∀ p ∈ all, @Ne Nat p.1 rd) :
    Call w 3 128 [.ref r, .str (S "+-") t] ((rd, dictOf [⟨h1, .str (S "text") k1, .str (S "-2") ty⟩, ⟨h2, .str (S "at") k2, .int 0 ti⟩] 2) :: all) fun v D' => v = .bool true ∧ D' = (rd, dictOf [⟨h1, .str (S "text") k1, .str (S "-2") ty⟩, ⟨h2, .str (S "at") k2, .int 0 ti⟩] 2) :: all := by
  constructor
  intro dp un gd cn cs a ccd cl outer A₀ base h₀ L m sh sg sd st so mean mg mb Q E B F X N T hk hdp hun ret
  skip
  refine wpAny_call ?_
  k_dflt ktr_enter
  (repeat' (first | k_extra "sa" | k_extra "b10" | k_extra "b5" | k_extra "b31" | k_extra "b1" | k_extra "b24" | k_extra "sz"))
  exact ret _ _ _ _ (by k_asm) (by k_asm) ⟨by first | with_reducible rfl | exact congrArg Value.bool (by decide +kernel), rfl⟩
theorem is1_m_d {w : World} {all : Led} {r rd : Addr} {h1 h2 : Int} {k1 k2 ty ti t : Tok} (mr : (r, instObj 145 rd) ∈ all) (off : ∀ p ∈ all, @Ne Nat p.1 rd) :
    Call w 3 128 [.ref r, .str (S "0123456789") t] ((rd, dictOf [⟨h1, .str (S "text") k1, .str (S "-2") ty⟩, ⟨h2, .str (S "at") k2, .int 1 ti⟩] 2) :: all) fun v D' => v = .bool true ∧ D' = (rd, dictOf [⟨h1, .str (S "text") k1, .str (S "-2") ty⟩, ⟨h2, .str (S "at") k2, .int 1 ti⟩] 2) :: all := by
  constructor
  intro dp un gd cn cs a ccd cl outer A₀ base h₀ L m sh sg sd st so mean mg mb Q E B F X N T hk hdp hun ret
  skip
  refine wpAny_call ?_
  k_dflt ktr_enter
  (repeat' (first | k_extra "sa" | k_extra "b10" | k_extra "b5" | k_extra "b31" | k_extra "b1" | k_extra "b24" | k_extra "sz"))
  exact ret _ _ _ _ (by k_asm) (by k_asm) ⟨by first | with_reducible rfl | exact congrArg Value.bool (by decide +kernel), rfl⟩
theorem is1_m_e {w : World} {all : Led} {r rd : Addr} {h1 h2 : Int} {k1 k2 ty ti t : Tok} {z : Str} (mr : (r, instObj 145 rd) ∈ all) (off : ∀ p ∈ all, @Ne Nat p.1 rd) :
    Call w 3 128 [.ref r, .str z t] ((rd, dictOf [⟨h1, .str (S "text") k1, .str (S "-2") ty⟩, ⟨h2, .str (S "at") k2, .int 2 ti⟩] 2) :: all) fun v D' => v = .bool false ∧ D' = (rd, dictOf [⟨h1, .str (S "text") k1, .str (S "-2") ty⟩, ⟨h2, .str (S "at") k2, .int 2 ti⟩] 2) :: all := by
  constructor
  intro dp un gd cn cs a ccd cl outer A₀ base h₀ L m sh sg sd st so mean mg mb Q E B F X N T hk hdp hun ret
  skip
  refine wpAny_call ?_
  k_dflt ktr_enter
  (repeat' (first | k_extra "sa" | k_extra "b10" | k_extra "b5" | k_extra "b24" | k_extra "sz"))
  exact ret _ _ _ _ (by k_asm) (by k_asm) ⟨by first | with_reducible rfl | exact congrArg Value.bool (by decide +kernel), rfl⟩
end

theorem reset_rdec : True := by
  (w_top off)
  (k_with "b35" => first | ((with_reducible refine (?_ : wpAny _ _ (call (Value.ref _) _) _ _ _)); first | (with_reducible (k_extra "rdec1")) | fail) | fail)
  (k_with "b36" => first | ((with_reducible refine (?_ : wpAny _ _ (exec (Stmt.While _ _ _ _) _) _ _ _)); first | (with_reducible (k_extra "whl:1")) | fail) | fail)
  (k_with "b37" => first | ((with_reducible refine (?_ : wpAny _ _ (call (Value.ref _) _) _ _ _)); first | (with_reducible (k_extra "rdec4")) | (with_reducible (k_extra "rdec3")) | fail) | fail)
  (k_with "b38" => first | ((with_reducible refine (?_ : wpAny _ _ (exec (Stmt.Assign [Expr.Name _ _] _ _) _) _ _ _)); first | (with_reducible (k_extra "call:19")) | fail) | fail)
  (k_with "b39" => first | ((fail_if_success (with_reducible refine (?_ : wpAny _ _ _ _ _ _))); first | ((with_reducible refine (?_ : WhU ..)); first | (with_reducible (k_extra "whl:3")) | fail) | ((with_reducible refine (?_ : (@ite _ _ (_) _ _))); first | (with_reducible (k_extra "call:3")) | fail) | fail) | fail)
  (k_with "b40" => first | ((with_reducible refine (?_ : wpAny _ _ (call (Value.ref _) _) _ _ _)); first | (with_reducible (k_extra "rdec5")) | fail) | fail)
  (k_with "b41" => first | ((with_reducible refine (?_ : wpAny _ _ (exec (Stmt.For (Expr.Name _ _) (Expr.Name _ _) _ [] _) _) _ _ _)); first | (with_reducible (k_extra "rdec2")) | fail) | fail)
  (k_with "b42" => first | ((with_reducible refine (?_ : wpAny _ _ (pyIter (Value.str _ _)) _ _ _)); first | (with_reducible (k_extra "whl:4")) | fail) | fail)
  (k_with "b43" => first | ((with_reducible refine (?_ : wpAny _ _ (eval (Expr.BinOp _ _ _ _) _) _ _ _)); first | (with_reducible (k_extra "call:16")) | fail) | fail)
  (k_with "b44" => first | ((with_reducible refine (?_ : wpAny _ _ (call (Value.ref _) _) _ _ _)); first | (with_reducible (k_extra "rdec10")) | (with_reducible (k_extra "rdec9")) | (with_reducible (k_extra "rdec7")) | (with_reducible (k_extra "rdec6")) | (with_reducible (k_extra "rdec4")) | (with_reducible (k_extra "rdec3")) | (with_reducible (k_extra "call:2")) | (with_reducible (k_extra "call:1")) | fail) | fail)
  (k_with "b45" => first | ((with_reducible refine (?_ : wpAny _ _ (call (Value.ref _) _) _ _ _)); first | (with_reducible (k_extra "rdec13")) | (with_reducible (k_extra "rdec12")) | fail) | fail)
  (k_with "b46" => first | ((with_reducible refine (?_ : wpAny _ _ (call (Value.ref _) _) _ _ _)); first | (with_reducible (k_extra "rdec14")) | fail) | fail)
  (k_with "b47" => first | ((with_reducible refine (?_ : wpAny _ _ (exec (Stmt.For (Expr.Name _ _) (Expr.Name _ _) _ [] _) _) _ _ _)); first | (with_reducible (k_extra "rdec11")) | fail) | fail)
  (k_with "b48" => first | ((with_reducible refine (?_ : wpAny _ _ (call (Value.ref _) _) _ _ _)); first | (with_reducible (k_extra "rdec19")) | (with_reducible (k_extra "rdec18")) | (with_reducible (k_extra "rdec16")) | (with_reducible (k_extra "rdec15")) | (with_reducible (k_extra "rdec13")) | (with_reducible (k_extra "rdec12")) | (with_reducible (k_extra "call:2")) | (with_reducible (k_extra "call:1")) | fail) | fail)
  (k_with "b49" => first | ((with_reducible refine (?_ : wpAny _ _ (call (Value.ref _) _) _ _ _)); first | (with_reducible (k_extra "rdec22")) | (with_reducible (k_extra "rdec21")) | fail) | fail)
  (k_with "b50" => first | ((with_reducible refine (?_ : wpAny _ _ (call (Value.ref _) _) _ _ _)); first | (with_reducible (k_extra "rdec23")) | fail) | fail)
  (k_with "b51" => first | ((with_reducible refine (?_ : wpAny _ _ (exec (Stmt.For (Expr.Name _ _) (Expr.Name _ _) _ [] _) _) _ _ _)); first | (with_reducible (k_extra "rdec20")) | fail) | fail)
  (k_with "b52" => first | ((with_reducible refine (?_ : wpAny _ _ (call (Value.ref _) _) _ _ _)); first | (with_reducible (k_extra "rdec28")) | (with_reducible (k_extra "rdec27")) | (with_reducible (k_extra "rdec25")) | (with_reducible (k_extra "rdec24")) | (with_reducible (k_extra "rdec22")) | (with_reducible (k_extra "rdec21")) | (with_reducible (k_extra "call:2")) | (with_reducible (k_extra "call:1")) | fail) | fail)
  (k_with "b53" => first | ((with_reducible refine (?_ : wpAny _ _ (call (Value.ref _) _) _ _ _)); first | (with_reducible (k_extra "rdec31")) | (with_reducible (k_extra "rdec30")) | fail) | fail)
  (k_with "b54" => first | ((with_reducible refine (?_ : wpAny _ _ (call (Value.ref _) _) _ _ _)); first | (with_reducible (k_extra "rdec32")) | fail) | fail)
  (k_with "b55" => first | ((with_reducible refine (?_ : wpAny _ _ (call (Value.ref _) _) _ _ _)); first | (with_reducible (k_extra "rdec33")) | fail) | fail)
  (k_with "b56" => first | ((with_reducible refine (?_ : wpAny _ _ (exec (Stmt.For (Expr.Name _ _) (Expr.Name _ _) _ [] _) _) _ _ _)); first | (with_reducible (k_extra "rdec29")) | fail) | fail)
  (k_with "b57" => first | ((with_reducible refine (?_ : wpAny _ _ (call (Value.ref _) _) _ _ _)); first | (with_reducible (k_extra "rdec38")) | (with_reducible (k_extra "rdec37")) | (with_reducible (k_extra "rdec35")) | (with_reducible (k_extra "rdec34")) | (with_reducible (k_extra "rdec31")) | (with_reducible (k_extra "rdec30")) | (with_reducible (k_extra "call:2")) | (with_reducible (k_extra "call:1")) | fail) | fail)
  trivial
section
-- part rdec
section
theorem kw_rdec1 : True := by
  (k_with "rdec1" => first | (k_here; (with_reducible refine (?_ : wpAny _ _ (call (Value.ref 128) _) _ _ _)); (try ((fail_if_success (fail_if_success k_fold)); (refine fold1 ?_); intro qk)); k_dflt (refine' Call.use (by assumption) ?k1_rdec1 ?k2_rdec1 ?k3_rdec1 ?k4_rdec1 ?k5_rdec1 ?k6_rdec1 ?kd_rdec1 ?ku_rdec1 (fun _ h => h) ?_; (case k1_rdec1 => k_asm); (case k2_rdec1 => k_asm); (case k3_rdec1 => k_asm); (case k4_rdec1 => k_asm); (case k5_rdec1 => k_asm); (case k6_rdec1 => first | exact rfl | assumption); (case kd_rdec1 => ktr_room); (case ku_rdec1 => ktr_units)); (k_dflt (refine' ret_ed ?_)); intro h9 tk9 F9 N9; (try k_sweep); (try dsimp only); (try k_fold)) | fail)
  trivial
theorem skip_f {w : World} {all : Led} {r rd : Addr} {h1 h2 : Int} {k1 k2 ty ti t : Tok} {y z : Str} {i : Int} (mr : (r, instObj 145 rd) ∈ all) (off : ∀ p ∈ all, @Ne Nat p.1 rd)
    (h : Call w 3 128 [.ref r, .str z t] ((rd, dictOf [⟨h1, .str (S "text") k1, .str y ty⟩, ⟨h2, .str (S "at") k2, .int i ti⟩] 2) :: all) fun v D' => v = .bool false ∧ D' = (rd, dictOf [⟨h1, .str (S "text") k1, .str y ty⟩, ⟨h2, .str (S "at") k2, .int i ti⟩] 2) :: all) :
    Call w 7 135 [.ref r, .str z t] ((rd, dictOf [⟨h1, .str (S "text") k1, .str y ty⟩, ⟨h2, .str (S "at") k2, .int i ti⟩] 2) :: all) fun v D' => (∃ t, v = .str (S "") t) ∧ D' = (rd, dictOf [⟨h1, .str (S "text") k1, .str y ty⟩, ⟨h2, .str (S "at") k2, .int i ti⟩] 2) :: all := by
  constructor
  intro dp un gd cn cs a ccd cl outer A₀ base h₀ L m sh sg sd st so mean mg mb Q E B F X N T hk hdp hun ret
  skip
  refine wpAny_call ?_
  k_dflt ktr_enter
  (repeat' (first | k_extra "sa" | k_extra "b0" | k_extra "b35" | k_extra "b1" | k_extra "b23" | k_extra "b24" | k_extra "sz"))
  exact ret _ _ _ _ (by k_asm) (by k_asm) ⟨⟨_, rfl⟩, rfl⟩
end
section
theorem kw_rdec2 : True := by
  (k_with "rdec2" => first | (k_here; (rename Fr _ _ _ _ => lF'); (with_unfolding_all refine' For_turns lF' ?_); k_whole) | fail)
  (k_with "rdec3" => first | (k_here; (with_reducible refine (?_ : wpAny _ _ (call (Value.ref 128) [_, Value.str (Str.ofString "0123456789") _]) _ _ _)); (try ((fail_if_success (fail_if_success k_fold)); (refine fold1 ?_); intro qk)); k_dflt (refine' Call.use (is1_a_e (z := S "0123456789") ?mr_rdec3 ?off_rdec3) ?k1_rdec3 ?k2_rdec3 ?k3_rdec3 ?k4_rdec3 ?k5_rdec3 ?k6_rdec3 ?kd_rdec3 ?ku_rdec3 (Cut.all ?kC_rdec3) ?_; (case k1_rdec3 => k_asm); (case k2_rdec3 => k_asm); (case k3_rdec3 => k_asm); (case k4_rdec3 => k_asm); (case k5_rdec3 => k_asm); (case k6_rdec3 => first | exact rfl | assumption); (case kd_rdec3 => ktr_room); (case ku_rdec3 => ktr_units); (case kC_rdec3 => (repeat' (first | exact Cut.here | refine' Cut.there ?_))); (case mr_rdec3 => k_mem); (case off_rdec3 => k_all)); (k_dflt (refine' ret_ed ?_)); intro h9 tk9 F9 N9; (try k_sweep); (try dsimp only); (try k_fold)) | fail)
  (k_with "rdec4" => first | (k_here; (with_reducible refine (?_ : wpAny _ _ (call (Value.ref 128) [_, Value.str (Str.ofString "0123456789") _]) _ _ _)); (try ((fail_if_success (fail_if_success k_fold)); (refine fold1 ?_); intro qk)); k_dflt (refine' Call.use (is1_a_d ?mr_rdec4 ?off_rdec4) ?k1_rdec4 ?k2_rdec4 ?k3_rdec4 ?k4_rdec4 ?k5_rdec4 ?k6_rdec4 ?kd_rdec4 ?ku_rdec4 (Cut.all ?kC_rdec4) ?_; (case k1_rdec4 => k_asm); (case k2_rdec4 => k_asm); (case k3_rdec4 => k_asm); (case k4_rdec4 => k_asm); (case k5_rdec4 => k_asm); (case k6_rdec4 => first | exact rfl | assumption); (case kd_rdec4 => ktr_room); (case ku_rdec4 => ktr_units); (case kC_rdec4 => (repeat' (first | exact Cut.here | refine' Cut.there ?_))); (case mr_rdec4 => k_mem); (case off_rdec4 => k_all)); (k_dflt (refine' ret_ed ?_)); intro h9 tk9 F9 N9; (try k_sweep); (try dsimp only); (try k_fold)) | fail)
  trivial
theorem digits_a {w : World} {all : Led} {r rd : Addr} {h1 h2 : Int} {k1 k2 ty ti t : Tok} (mr : (r, instObj 145 rd) ∈ all) (off : ∀ p ∈ all, @Ne Nat p.1 rd) :
    Call w 7 142 [.ref r] ((rd, dictOf [⟨h1, .str (S "text") k1, .str (S "0") ty⟩, ⟨h2, .str (S "at") k2, .int 0 ti⟩] 2) :: all) fun v D' => ∃ t u, v = .str (S "0") t ∧ D' = (rd, dictOf [⟨h1, .str (S "text") k1, .str (S "0") ty⟩, ⟨h2, .str (S "at") k2, .int 1 u⟩] 2) :: all := by
  constructor
  intro dp un gd cn cs a ccd cl outer A₀ base h₀ L m sh sg sd st so mean mg mb Q E B F X N T hk hdp hun ret
  skip
  refine wpAny_call ?_
  k_dflt ktr_enter
  (repeat' (first | k_extra "sa" | k_extra "b36" | k_extra "b10" | k_extra "b37" | k_extra "b38" | k_extra "b15" | k_extra "b31" | k_extra "b1" | k_extra "b23" | k_extra "b39" | k_extra "sz"))
  exact ret _ _ _ _ (by k_asm) (by k_asm) ⟨_, _, congrArg (fun x => Value.str x _) (by decide +kernel), rfl⟩
theorem kw_rdec5 : True := by
  (k_with "rdec5" => first | (k_here; (with_reducible refine (?_ : wpAny _ _ (call (Value.ref 135) [_, Value.str (Str.ofString "eE") _]) _ _ _)); (try ((fail_if_success (fail_if_success k_fold)); (refine fold1 ?_); intro qk)); k_dflt (refine' Call.use (skip_f ?mr_rdec5 ?off_rdec5 (is1_a_e (z := S "eE") ?mr2_rdec5 ?off2_rdec5)) ?k1_rdec5 ?k2_rdec5 ?k3_rdec5 ?k4_rdec5 ?k5_rdec5 ?k6_rdec5 ?kd_rdec5 ?ku_rdec5 (Cut.all ?kC_rdec5) ?_; (case k1_rdec5 => k_asm); (case k2_rdec5 => k_asm); (case k3_rdec5 => k_asm); (case k4_rdec5 => k_asm); (case k5_rdec5 => k_asm); (case k6_rdec5 => first | exact rfl | assumption); (case kd_rdec5 => ktr_room); (case ku_rdec5 => ktr_units); (case kC_rdec5 => (repeat' (first | exact Cut.here | refine' Cut.there ?_))); (case mr_rdec5 => k_mem); (case off_rdec5 => k_all); (case mr2_rdec5 => k_mem); (case off2_rdec5 => k_all)); (k_dflt (refine' ret_ted ?_)); intro t9 h9 tk9 F9 N9; (try k_sweep); (try dsimp only); (try k_fold)) | fail)
  trivial
theorem expo_a {w : World} {all : Led} {r rd : Addr} {h1 h2 : Int} {k1 k2 ty ti : Tok} (mr : (r, instObj 145 rd) ∈ all) (off : ∀ p ∈ all, @Ne Nat p.1 rd) :
    Call w 11 163 [.ref r] ((rd, dictOf [⟨h1, .str (S "text") k1, .str (S "0") ty⟩, ⟨h2, .str (S "at") k2, .int 1 ti⟩] 2) :: all) fun v D' => (∃ t, v = .int 0 t) ∧ D' = (rd, dictOf [⟨h1, .str (S "text") k1, .str (S "0") ty⟩, ⟨h2, .str (S "at") k2, .int 1 ti⟩] 2) :: all := by
  constructor
  intro dp un gd cn cs a ccd cl outer A₀ base h₀ L m sh sg sd st so mean mg mb Q E B F X N T hk hdp hun ret
  skip
  refine wpAny_call ?_
  k_dflt ktr_enter
  (repeat' (first | k_extra "sa" | k_extra "b0" | k_extra "b40" | k_extra "b1" | k_extra "b23" | k_extra "b24" | k_extra "sz"))
  exact ret _ _ _ _ (by k_asm) (by k_asm) ⟨⟨_, rfl⟩, rfl⟩
theorem whole_a {w : World} {all : Led} {t : Tok} :
    Call w 3 156 [.str (S "0") t] all fun v D' => (∃ t, v = .int 0 t) ∧ D' = all := by
  constructor
  intro dp un gd cn cs a ccd cl outer A₀ base h₀ L m sh sg sd st so mean mg mb Q E B F X N T hk hdp hun ret
  skip
  refine wpAny_call ?_
  k_dflt ktr_enter
  (repeat' (first | k_extra "sa" | k_extra "b41" | k_extra "b0" | k_extra "b42" | k_extra "b38" | k_extra "b43" | k_extra "b1" | k_extra "b22" | k_extra "b2" | k_extra "b25" | k_extra "sz"))
  all_goals first
    | (exact absurd (by assumption : Txt.find _ _ = -1) (by decide +kernel))
    | exact trivial
    | exact ret _ _ _ _ (by k_asm) (by k_asm) ⟨⟨_, congrArg (fun x => Value.int x _) (by decide +kernel)⟩, rfl⟩
    | exact ret _ _ _ all (by k_asm) (fun p hp => (by assumption : News h₀ L _ (_ :: all)) p (.tail _ hp)) ⟨⟨_, congrArg (fun x => Value.int x _) (by decide +kernel)⟩, rfl⟩
theorem kw_rdec6 : True := by
  (k_with "rdec6" => first | (k_here; (with_reducible refine (?_ : wpAny _ _ (call (Value.ref 135) [_, Value.str (Str.ofString "+-") _]) _ _ _)); (try ((fail_if_success (fail_if_success k_fold)); (refine fold1 ?_); intro qk)); k_dflt (refine' Call.use (skip_f ?mr_rdec6 ?off_rdec6 (is1_a_s ?mr2_rdec6 ?off2_rdec6)) ?k1_rdec6 ?k2_rdec6 ?k3_rdec6 ?k4_rdec6 ?k5_rdec6 ?k6_rdec6 ?kd_rdec6 ?ku_rdec6 (Cut.all ?kC_rdec6) ?_; (case k1_rdec6 => k_asm); (case k2_rdec6 => k_asm); (case k3_rdec6 => k_asm); (case k4_rdec6 => k_asm); (case k5_rdec6 => k_asm); (case k6_rdec6 => first | exact rfl | assumption); (case kd_rdec6 => ktr_room); (case ku_rdec6 => ktr_units); (case kC_rdec6 => (repeat' (first | exact Cut.here | refine' Cut.there ?_))); (case mr_rdec6 => k_mem); (case off_rdec6 => k_all); (case mr2_rdec6 => k_mem); (case off2_rdec6 => k_all)); (k_dflt (refine' ret_ted ?_)); intro t9 h9 tk9 F9 N9; (try k_sweep); (try dsimp only); (try k_fold)) | fail)
  (k_with "rdec7" => first | (k_here; (with_reducible refine (?_ : wpAny _ _ (call (Value.ref 135) [_, Value.str (Str.ofString ".") _]) _ _ _)); (try ((fail_if_success (fail_if_success k_fold)); (refine fold1 ?_); intro qk)); k_dflt (refine' Call.use (skip_f ?mr_rdec7 ?off_rdec7 (is1_a_e (z := S ".") ?mr2_rdec7 ?off2_rdec7)) ?k1_rdec7 ?k2_rdec7 ?k3_rdec7 ?k4_rdec7 ?k5_rdec7 ?k6_rdec7 ?kd_rdec7 ?ku_rdec7 (Cut.all ?kC_rdec7) ?_; (case k1_rdec7 => k_asm); (case k2_rdec7 => k_asm); (case k3_rdec7 => k_asm); (case k4_rdec7 => k_asm); (case k5_rdec7 => k_asm); (case k6_rdec7 => first | exact rfl | assumption); (case kd_rdec7 => ktr_room); (case ku_rdec7 => ktr_units); (case kC_rdec7 => (repeat' (first | exact Cut.here | refine' Cut.there ?_))); (case mr_rdec7 => k_mem); (case off_rdec7 => k_all); (case mr2_rdec7 => k_mem); (case off2_rdec7 => k_all)); (k_dflt (refine' ret_ted ?_)); intro t9 h9 tk9 F9 N9; (try k_sweep); (try dsimp only); (try k_fold)) | fail)
  (k_with "rdec9" => first | (k_here; (with_reducible refine (?_ : wpAny _ _ (call (Value.ref 163) _) _ _ _)); (try ((fail_if_success (fail_if_success k_fold)); (refine fold1 ?_); intro qk)); k_dflt (refine' Call.use (expo_a ?mr_rdec9 ?off_rdec9) ?k1_rdec9 ?k2_rdec9 ?k3_rdec9 ?k4_rdec9 ?k5_rdec9 ?k6_rdec9 ?kd_rdec9 ?ku_rdec9 (Cut.all ?kC_rdec9) ?_; (case k1_rdec9 => k_asm); (case k2_rdec9 => k_asm); (case k3_rdec9 => k_asm); (case k4_rdec9 => k_asm); (case k5_rdec9 => k_asm); (case k6_rdec9 => first | exact rfl | assumption); (case kd_rdec9 => ktr_room); (case ku_rdec9 => ktr_units); (case kC_rdec9 => (repeat' (first | exact Cut.here | refine' Cut.there ?_))); (case mr_rdec9 => k_mem); (case off_rdec9 => k_all)); (k_dflt (refine' ret_ted ?_)); intro t9 h9 tk9 F9 N9; (try k_sweep); (try dsimp only); (try k_fold)) | fail)
  (k_with "rdec10" => first | (k_here; (with_reducible refine (?_ : wpAny _ _ (call (Value.ref 156) _) _ _ _)); (try ((fail_if_success (fail_if_success k_fold)); (refine fold1 ?_); intro qk)); k_dflt (refine' Call.use (whole_a) ?k1_rdec10 ?k2_rdec10 ?k3_rdec10 ?k4_rdec10 ?k5_rdec10 ?k6_rdec10 ?kd_rdec10 ?ku_rdec10 (fun _ h => h) ?_; (case k1_rdec10 => k_asm); (case k2_rdec10 => k_asm); (case k3_rdec10 => k_asm); (case k4_rdec10 => k_asm); (case k5_rdec10 => k_asm); (case k6_rdec10 => first | exact rfl | assumption); (case kd_rdec10 => ktr_room); (case ku_rdec10 => ktr_units); skip); (k_dflt (refine' ret_ted ?_)); intro t9 h9 tk9 F9 N9; (try k_sweep); (try dsimp only); (try k_fold)) | fail)
  trivial
theorem rdec_a {w : World} {all : Led} {t : Tok} :
    Call w 14 170 [.str (S "0") t] all fun v D' => ∃ a tl t1 t2 n i, v = .ref a ∧ (a, tupObj #[.int i t1, .int 1 t2] n) ∈ tl ∧ i = (0) ∧ D' = tl ++ all ∧ Fresh all tl := by
  constructor
  intro dp un gd cn cs a ccd cl outer A₀ base h₀ L m sh sg sd st so mean mg mb Q E B F X N T hk hdp hun ret
  skip
  refine wpAny_call ?_
  k_dflt ktr_enter
  (repeat' (first | k_extra "sa" | k_extra "b36" | k_extra "b10" | k_extra "b44" | k_extra "b38" | k_extra "b13" | k_extra "b43" | k_extra "b5" | k_extra "b15" | k_extra "b31" | k_extra "b1" | k_extra "b23" | k_extra "b2" | k_extra "b39" | k_extra "sz"))
  exact ret _ _ _ _ (by k_asm) (by k_asm) ⟨_, [_, _, _, _], _, _, _, _, rfl, .head _, by decide, rfl, by ktr_rel⟩
end
section
theorem kw_rdec11 : True := by
  (k_with "rdec11" => first | (k_here; (rename Fr _ _ _ _ => lF'); (with_unfolding_all refine' For_turns lF' ?_); k_whole) | fail)
  (k_with "rdec12" => first | (k_here; (with_reducible refine (?_ : wpAny _ _ (call (Value.ref 128) [_, Value.str (Str.ofString "0123456789") _]) _ _ _)); (try ((fail_if_success (fail_if_success k_fold)); (refine fold1 ?_); intro qk)); k_dflt (refine' Call.use (is1_b_e (z := S "0123456789") ?mr_rdec12 ?off_rdec12) ?k1_rdec12 ?k2_rdec12 ?k3_rdec12 ?k4_rdec12 ?k5_rdec12 ?k6_rdec12 ?kd_rdec12 ?ku_rdec12 (Cut.all ?kC_rdec12) ?_; (case k1_rdec12 => k_asm); (case k2_rdec12 => k_asm); (case k3_rdec12 => k_asm); (case k4_rdec12 => k_asm); (case k5_rdec12 => k_asm); (case k6_rdec12 => first | exact rfl | assumption); (case kd_rdec12 => ktr_room); (case ku_rdec12 => ktr_units); (case kC_rdec12 => (repeat' (first | exact Cut.here | refine' Cut.there ?_))); (case mr_rdec12 => k_mem); (case off_rdec12 => k_all)); (k_dflt (refine' ret_ed ?_)); intro h9 tk9 F9 N9; (try k_sweep); (try dsimp only); (try k_fold)) | fail)
  (k_with "rdec13" => first | (k_here; (with_reducible refine (?_ : wpAny _ _ (call (Value.ref 128) [_, Value.str (Str.ofString "0123456789") _]) _ _ _)); (try ((fail_if_success (fail_if_success k_fold)); (refine fold1 ?_); intro qk)); k_dflt (refine' Call.use (is1_b_d ?mr_rdec13 ?off_rdec13) ?k1_rdec13 ?k2_rdec13 ?k3_rdec13 ?k4_rdec13 ?k5_rdec13 ?k6_rdec13 ?kd_rdec13 ?ku_rdec13 (Cut.all ?kC_rdec13) ?_; (case k1_rdec13 => k_asm); (case k2_rdec13 => k_asm); (case k3_rdec13 => k_asm); (case k4_rdec13 => k_asm); (case k5_rdec13 => k_asm); (case k6_rdec13 => first | exact rfl | assumption); (case kd_rdec13 => ktr_room); (case ku_rdec13 => ktr_units); (case kC_rdec13 => (repeat' (first | exact Cut.here | refine' Cut.there ?_))); (case mr_rdec13 => k_mem); (case off_rdec13 => k_all)); (k_dflt (refine' ret_ed ?_)); intro h9 tk9 F9 N9; (try k_sweep); (try dsimp only); (try k_fold)) | fail)
  trivial
theorem digits_b {w : World} {all : Led} {r rd : Addr} {h1 h2 : Int} {k1 k2 ty ti t : Tok} (mr : (r, instObj 145 rd) ∈ all) (off : ∀ p ∈ all, @Ne Nat p.1 rd) :
    Call w 7 142 [.ref r] ((rd, dictOf [⟨h1, .str (S "text") k1, .str (S "3") ty⟩, ⟨h2, .str (S "at") k2, .int 0 ti⟩] 2) :: all) fun v D' => ∃ t u, v = .str (S "3") t ∧ D' = (rd, dictOf [⟨h1, .str (S "text") k1, .str (S "3") ty⟩, ⟨h2, .str (S "at") k2, .int 1 u⟩] 2) :: all := by
  constructor
  intro dp un gd cn cs a ccd cl outer A₀ base h₀ L m sh sg sd st so mean mg mb Q E B F X N T hk hdp hun ret
  skip
  refine wpAny_call ?_
  k_dflt ktr_enter
  (repeat' (first | k_extra "sa" | k_extra "b36" | k_extra "b10" | k_extra "b45" | k_extra "b38" | k_extra "b15" | k_extra "b31" | k_extra "b1" | k_extra "b23" | k_extra "b39" | k_extra "sz"))
  exact ret _ _ _ _ (by k_asm) (by k_asm) ⟨_, _, congrArg (fun x => Value.str x _) (by decide +kernel), rfl⟩
theorem kw_rdec14 : True := by
  (k_with "rdec14" => first | (k_here; (with_reducible refine (?_ : wpAny _ _ (call (Value.ref 135) [_, Value.str (Str.ofString "eE") _]) _ _ _)); (try ((fail_if_success (fail_if_success k_fold)); (refine fold1 ?_); intro qk)); k_dflt (refine' Call.use (skip_f ?mr_rdec14 ?off_rdec14 (is1_b_e (z := S "eE") ?mr2_rdec14 ?off2_rdec14)) ?k1_rdec14 ?k2_rdec14 ?k3_rdec14 ?k4_rdec14 ?k5_rdec14 ?k6_rdec14 ?kd_rdec14 ?ku_rdec14 (Cut.all ?kC_rdec14) ?_; (case k1_rdec14 => k_asm); (case k2_rdec14 => k_asm); (case k3_rdec14 => k_asm); (case k4_rdec14 => k_asm); (case k5_rdec14 => k_asm); (case k6_rdec14 => first | exact rfl | assumption); (case kd_rdec14 => ktr_room); (case ku_rdec14 => ktr_units); (case kC_rdec14 => (repeat' (first | exact Cut.here | refine' Cut.there ?_))); (case mr_rdec14 => k_mem); (case off_rdec14 => k_all); (case mr2_rdec14 => k_mem); (case off2_rdec14 => k_all)); (k_dflt (refine' ret_ted ?_)); intro t9 h9 tk9 F9 N9; (try k_sweep); (try dsimp only); (try k_fold)) | fail)
  trivial
theorem expo_b {w : World} {all : Led} {r rd : Addr} {h1 h2 : Int} {k1 k2 ty ti : Tok} (mr : (r, instObj 145 rd) ∈ all) (off : ∀ p ∈ all, @Ne Nat p.1 rd) :
    Call w 11 163 [.ref r] ((rd, dictOf [⟨h1, .str (S "text") k1, .str (S "3") ty⟩, ⟨h2, .str (S "at") k2, .int 1 ti⟩] 2) :: all) fun v D' => (∃ t, v = .int 0 t) ∧ D' = (rd, dictOf [⟨h1, .str (S "text") k1, .str (S "3") ty⟩, ⟨h2, .str (S "at") k2, .int 1 ti⟩] 2) :: all := by
  constructor
  intro dp un gd cn cs a ccd cl outer A₀ base h₀ L m sh sg sd st so mean mg mb Q E B F X N T hk hdp hun ret
  skip
  refine wpAny_call ?_
  k_dflt ktr_enter
  (repeat' (first | k_extra "sa" | k_extra "b0" | k_extra "b46" | k_extra "b1" | k_extra "b23" | k_extra "b24" | k_extra "sz"))
  exact ret _ _ _ _ (by k_asm) (by k_asm) ⟨⟨_, rfl⟩, rfl⟩
theorem whole_b {w : World} {all : Led} {t : Tok} :
    Call w 3 156 [.str (S "3") t] all fun v D' => (∃ t, v = .int 3 t) ∧ D' = all := by
  constructor
  intro dp un gd cn cs a ccd cl outer A₀ base h₀ L m sh sg sd st so mean mg mb Q E B F X N T hk hdp hun ret
  skip
  refine wpAny_call ?_
  k_dflt ktr_enter
  (repeat' (first | k_extra "sa" | k_extra "b47" | k_extra "b0" | k_extra "b42" | k_extra "b38" | k_extra "b43" | k_extra "b1" | k_extra "b22" | k_extra "b2" | k_extra "b25" | k_extra "sz"))
  all_goals first
    | (exact absurd (by assumption : Txt.find _ _ = -1) (by decide +kernel))
    | exact trivial
    | exact ret _ _ _ _ (by k_asm) (by k_asm) ⟨⟨_, congrArg (fun x => Value.int x _) (by decide +kernel)⟩, rfl⟩
    | exact ret _ _ _ all (by k_asm) (fun p hp => (by assumption : News h₀ L _ (_ :: all)) p (.tail _ hp)) ⟨⟨_, congrArg (fun x => Value.int x _) (by decide +kernel)⟩, rfl⟩
theorem kw_rdec15 : True := by
  (k_with "rdec15" => first | (k_here; (with_reducible refine (?_ : wpAny _ _ (call (Value.ref 135) [_, Value.str (Str.ofString "+-") _]) _ _ _)); (try ((fail_if_success (fail_if_success k_fold)); (refine fold1 ?_); intro qk)); k_dflt (refine' Call.use (skip_f ?mr_rdec15 ?off_rdec15 (is1_b_s ?mr2_rdec15 ?off2_rdec15)) ?k1_rdec15 ?k2_rdec15 ?k3_rdec15 ?k4_rdec15 ?k5_rdec15 ?k6_rdec15 ?kd_rdec15 ?ku_rdec15 (Cut.all ?kC_rdec15) ?_; (case k1_rdec15 => k_asm); (case k2_rdec15 => k_asm); (case k3_rdec15 => k_asm); (case k4_rdec15 => k_asm); (case k5_rdec15 => k_asm); (case k6_rdec15 => first | exact rfl | assumption); (case kd_rdec15 => ktr_room); (case ku_rdec15 => ktr_units); (case kC_rdec15 => (repeat' (first | exact Cut.here | refine' Cut.there ?_))); (case mr_rdec15 => k_mem); (case off_rdec15 => k_all); (case mr2_rdec15 => k_mem); (case off2_rdec15 => k_all)); (k_dflt (refine' ret_ted ?_)); intro t9 h9 tk9 F9 N9; (try k_sweep); (try dsimp only); (try k_fold)) | fail)
  (k_with "rdec16" => first | (k_here; (with_reducible refine (?_ : wpAny _ _ (call (Value.ref 135) [_, Value.str (Str.ofString ".") _]) _ _ _)); (try ((fail_if_success (fail_if_success k_fold)); (refine fold1 ?_); intro qk)); k_dflt (refine' Call.use (skip_f ?mr_rdec16 ?off_rdec16 (is1_b_e (z := S ".") ?mr2_rdec16 ?off2_rdec16)) ?k1_rdec16 ?k2_rdec16 ?k3_rdec16 ?k4_rdec16 ?k5_rdec16 ?k6_rdec16 ?kd_rdec16 ?ku_rdec16 (Cut.all ?kC_rdec16) ?_; (case k1_rdec16 => k_asm); (case k2_rdec16 => k_asm); (case k3_rdec16 => k_asm); (case k4_rdec16 => k_asm); (case k5_rdec16 => k_asm); (case k6_rdec16 => first | exact rfl | assumption); (case kd_rdec16 => ktr_room); (case ku_rdec16 => ktr_units); (case kC_rdec16 => (repeat' (first | exact Cut.here | refine' Cut.there ?_))); (case mr_rdec16 => k_mem); (case off_rdec16 => k_all); (case mr2_rdec16 => k_mem); (case off2_rdec16 => k_all)); (k_dflt (refine' ret_ted ?_)); intro t9 h9 tk9 F9 N9; (try k_sweep); (try dsimp only); (try k_fold)) | fail)
  (k_with "rdec18" => first | (k_here; (with_reducible refine (?_ : wpAny _ _ (call (Value.ref 163) _) _ _ _)); (try ((fail_if_success (fail_if_success k_fold)); (refine fold1 ?_); intro qk)); k_dflt (refine' Call.use (expo_b ?mr_rdec18 ?off_rdec18) ?k1_rdec18 ?k2_rdec18 ?k3_rdec18 ?k4_rdec18 ?k5_rdec18 ?k6_rdec18 ?kd_rdec18 ?ku_rdec18 (Cut.all ?kC_rdec18) ?_; (case k1_rdec18 => k_asm); (case k2_rdec18 => k_asm); (case k3_rdec18 => k_asm); (case k4_rdec18 => k_asm); (case k5_rdec18 => k_asm); (case k6_rdec18 => first | exact rfl | assumption); (case kd_rdec18 => ktr_room); (case ku_rdec18 => ktr_units); (case kC_rdec18 => (repeat' (first | exact Cut.here | refine' Cut.there ?_))); (case mr_rdec18 => k_mem); (case off_rdec18 => k_all)); (k_dflt (refine' ret_ted ?_)); intro t9 h9 tk9 F9 N9; (try k_sweep); (try dsimp only); (try k_fold)) | fail)
  (k_with "rdec19" => first | (k_here; (with_reducible refine (?_ : wpAny _ _ (call (Value.ref 156) _) _ _ _)); (try ((fail_if_success (fail_if_success k_fold)); (refine fold1 ?_); intro qk)); k_dflt (refine' Call.use (whole_b) ?k1_rdec19 ?k2_rdec19 ?k3_rdec19 ?k4_rdec19 ?k5_rdec19 ?k6_rdec19 ?kd_rdec19 ?ku_rdec19 (fun _ h => h) ?_; (case k1_rdec19 => k_asm); (case k2_rdec19 => k_asm); (case k3_rdec19 => k_asm); (case k4_rdec19 => k_asm); (case k5_rdec19 => k_asm); (case k6_rdec19 => first | exact rfl | assumption); (case kd_rdec19 => ktr_room); (case ku_rdec19 => ktr_units); skip); (k_dflt (refine' ret_ted ?_)); intro t9 h9 tk9 F9 N9; (try k_sweep); (try dsimp only); (try k_fold)) | fail)
  trivial
theorem rdec_b {w : World} {all : Led} {t : Tok} :
    Call w 14 170 [.str (S "3") t] all fun v D' => ∃ a tl t1 t2 n i, v = .ref a ∧ (a, tupObj #[.int i t1, .int 1 t2] n) ∈ tl ∧ i = (3) ∧ D' = tl ++ all ∧ Fresh all tl := by
  constructor
  intro dp un gd cn cs a ccd cl outer A₀ base h₀ L m sh sg sd st so mean mg mb Q E B F X N T hk hdp hun ret
  skip
  refine wpAny_call ?_
  k_dflt ktr_enter
  (repeat' (first | k_extra "sa" | k_extra "b36" | k_extra "b10" | k_extra "b48" | k_extra "b38" | k_extra "b13" | k_extra "b43" | k_extra "b5" | k_extra "b15" | k_extra "b31" | k_extra "b1" | k_extra "b23" | k_extra "b2" | k_extra "b39" | k_extra "sz"))
  exact ret _ _ _ _ (by k_asm) (by k_asm) ⟨_, [_, _, _, _], _, _, _, _, rfl, .head _, by decide, rfl, by ktr_rel⟩
end
section
theorem kw_rdec20 : True := by
  (k_with "rdec20" => first | (k_here; (rename Fr _ _ _ _ => lF'); (with_unfolding_all refine' For_turns lF' ?_); k_whole) | fail)
  (k_with "rdec21" => first | (k_here; (with_reducible refine (?_ : wpAny _ _ (call (Value.ref 128) [_, Value.str (Str.ofString "0123456789") _]) _ _ _)); (try ((fail_if_success (fail_if_success k_fold)); (refine fold1 ?_); intro qk)); k_dflt (refine' Call.use (is1_c_e (z := S "0123456789") ?mr_rdec21 ?off_rdec21) ?k1_rdec21 ?k2_rdec21 ?k3_rdec21 ?k4_rdec21 ?k5_rdec21 ?k6_rdec21 ?kd_rdec21 ?ku_rdec21 (Cut.all ?kC_rdec21) ?_; (case k1_rdec21 => k_asm); (case k2_rdec21 => k_asm); (case k3_rdec21 => k_asm); (case k4_rdec21 => k_asm); (case k5_rdec21 => k_asm); (case k6_rdec21 => first | exact rfl | assumption); (case kd_rdec21 => ktr_room); (case ku_rdec21 => ktr_units); (case kC_rdec21 => (repeat' (first | exact Cut.here | refine' Cut.there ?_))); (case mr_rdec21 => k_mem); (case off_rdec21 => k_all)); (k_dflt (refine' ret_ed ?_)); intro h9 tk9 F9 N9; (try k_sweep); (try dsimp only); (try k_fold)) | fail)
  (k_with "rdec22" => first | (k_here; (with_reducible refine (?_ : wpAny _ _ (call (Value.ref 128) [_, Value.str (Str.ofString "0123456789") _]) _ _ _)); (try ((fail_if_success (fail_if_success k_fold)); (refine fold1 ?_); intro qk)); k_dflt (refine' Call.use (is1_c_d ?mr_rdec22 ?off_rdec22) ?k1_rdec22 ?k2_rdec22 ?k3_rdec22 ?k4_rdec22 ?k5_rdec22 ?k6_rdec22 ?kd_rdec22 ?ku_rdec22 (Cut.all ?kC_rdec22) ?_; (case k1_rdec22 => k_asm); (case k2_rdec22 => k_asm); (case k3_rdec22 => k_asm); (case k4_rdec22 => k_asm); (case k5_rdec22 => k_asm); (case k6_rdec22 => first | exact rfl | assumption); (case kd_rdec22 => ktr_room); (case ku_rdec22 => ktr_units); (case kC_rdec22 => (repeat' (first | exact Cut.here | refine' Cut.there ?_))); (case mr_rdec22 => k_mem); (case off_rdec22 => k_all)); (k_dflt (refine' ret_ed ?_)); intro h9 tk9 F9 N9; (try k_sweep); (try dsimp only); (try k_fold)) | fail)
  trivial
theorem digits_c {w : World} {all : Led} {r rd : Addr} {h1 h2 : Int} {k1 k2 ty ti t : Tok} (mr : (r, instObj 145 rd) ∈ all) (off : ∀ p ∈ all, @Ne Nat p.1 rd) :
    Call w 7 142 [.ref r] ((rd, dictOf [⟨h1, .str (S "text") k1, .str (S "7") ty⟩, ⟨h2, .str (S "at") k2, .int 0 ti⟩] 2) :: all) fun v D' => ∃ t u, v = .str (S "7") t ∧ D' = (rd, dictOf [⟨h1, .str (S "text") k1, .str (S "7") ty⟩, ⟨h2, .str (S "at") k2, .int 1 u⟩] 2) :: all := by
  constructor
  intro dp un gd cn cs a ccd cl outer A₀ base h₀ L m sh sg sd st so mean mg mb Q E B F X N T hk hdp hun ret
  skip
  refine wpAny_call ?_
  k_dflt ktr_enter
  (repeat' (first | k_extra "sa" | k_extra "b36" | k_extra "b10" | k_extra "b49" | k_extra "b38" | k_extra "b15" | k_extra "b31" | k_extra "b1" | k_extra "b23" | k_extra "b39" | k_extra "sz"))
  exact ret _ _ _ _ (by k_asm) (by k_asm) ⟨_, _, congrArg (fun x => Value.str x _) (by decide +kernel), rfl⟩
theorem kw_rdec23 : True := by
  (k_with "rdec23" => first | (k_here; (with_reducible refine (?_ : wpAny _ _ (call (Value.ref 135) [_, Value.str (Str.ofString "eE") _]) _ _ _)); (try ((fail_if_success (fail_if_success k_fold)); (refine fold1 ?_); intro qk)); k_dflt (refine' Call.use (skip_f ?mr_rdec23 ?off_rdec23 (is1_c_e (z := S "eE") ?mr2_rdec23 ?off2_rdec23)) ?k1_rdec23 ?k2_rdec23 ?k3_rdec23 ?k4_rdec23 ?k5_rdec23 ?k6_rdec23 ?kd_rdec23 ?ku_rdec23 (Cut.all ?kC_rdec23) ?_; (case k1_rdec23 => k_asm); (case k2_rdec23 => k_asm); (case k3_rdec23 => k_asm); (case k4_rdec23 => k_asm); (case k5_rdec23 => k_asm); (case k6_rdec23 => first | exact rfl | assumption); (case kd_rdec23 => ktr_room); (case ku_rdec23 => ktr_units); (case kC_rdec23 => (repeat' (first | exact Cut.here | refine' Cut.there ?_))); (case mr_rdec23 => k_mem); (case off_rdec23 => k_all); (case mr2_rdec23 => k_mem); (case off2_rdec23 => k_all)); (k_dflt (refine' ret_ted ?_)); intro t9 h9 tk9 F9 N9; (try k_sweep); (try dsimp only); (try k_fold)) | fail)
  trivial
theorem expo_c {w : World} {all : Led} {r rd : Addr} {h1 h2 : Int} {k1 k2 ty ti : Tok} (mr : (r, instObj 145 rd) ∈ all) (off : ∀ p ∈ all, @Ne Nat p.1 rd) :
    Call w 11 163 [.ref r] ((rd, dictOf [⟨h1, .str (S "text") k1, .str (S "7") ty⟩, ⟨h2, .str (S "at") k2, .int 1 ti⟩] 2) :: all) fun v D' => (∃ t, v = .int 0 t) ∧ D' = (rd, dictOf [⟨h1, .str (S "text") k1, .str (S "7") ty⟩, ⟨h2, .str (S "at") k2, .int 1 ti⟩] 2) :: all := by
  constructor
  intro dp un gd cn cs a ccd cl outer A₀ base h₀ L m sh sg sd st so mean mg mb Q E B F X N T hk hdp hun ret
  skip
  refine wpAny_call ?_
  k_dflt ktr_enter
  (repeat' (first | k_extra "sa" | k_extra "b0" | k_extra "b50" | k_extra "b1" | k_extra "b23" | k_extra "b24" | k_extra "sz"))
  exact ret _ _ _ _ (by k_asm) (by k_asm) ⟨⟨_, rfl⟩, rfl⟩
theorem whole_c {w : World} {all : Led} {t : Tok} :
    Call w 3 156 [.str (S "7") t] all fun v D' => (∃ t, v = .int 7 t) ∧ D' = all := by
  constructor
  intro dp un gd cn cs a ccd cl outer A₀ base h₀ L m sh sg sd st so mean mg mb Q E B F X N T hk hdp hun ret
  skip
  refine wpAny_call ?_
  k_dflt ktr_enter
  (repeat' (first | k_extra "sa" | k_extra "b51" | k_extra "b0" | k_extra "b42" | k_extra "b38" | k_extra "b43" | k_extra "b1" | k_extra "b22" | k_extra "b2" | k_extra "b25" | k_extra "sz"))
  all_goals first
    | (exact absurd (by assumption : Txt.find _ _ = -1) (by decide +kernel))
    | exact trivial
    | exact ret _ _ _ _ (by k_asm) (by k_asm) ⟨⟨_, congrArg (fun x => Value.int x _) (by decide +kernel)⟩, rfl⟩
    | exact ret _ _ _ all (by k_asm) (fun p hp => (by assumption : News h₀ L _ (_ :: all)) p (.tail _ hp)) ⟨⟨_, congrArg (fun x => Value.int x _) (by decide +kernel)⟩, rfl⟩
theorem kw_rdec24 : True := by
  (k_with "rdec24" => first | (k_here; (with_reducible refine (?_ : wpAny _ _ (call (Value.ref 135) [_, Value.str (Str.ofString "+-") _]) _ _ _)); (try ((fail_if_success (fail_if_success k_fold)); (refine fold1 ?_); intro qk)); k_dflt (refine' Call.use (skip_f ?mr_rdec24 ?off_rdec24 (is1_c_s ?mr2_rdec24 ?off2_rdec24)) ?k1_rdec24 ?k2_rdec24 ?k3_rdec24 ?k4_rdec24 ?k5_rdec24 ?k6_rdec24 ?kd_rdec24 ?ku_rdec24 (Cut.all ?kC_rdec24) ?_; (case k1_rdec24 => k_asm); (case k2_rdec24 => k_asm); (case k3_rdec24 => k_asm); (case k4_rdec24 => k_asm); (case k5_rdec24 => k_asm); (case k6_rdec24 => first | exact rfl | assumption); (case kd_rdec24 => ktr_room); (case ku_rdec24 => ktr_units); (case kC_rdec24 => (repeat' (first | exact Cut.here | refine' Cut.there ?_))); (case mr_rdec24 => k_mem); (case off_rdec24 => k_all); (case mr2_rdec24 => k_mem); (case off2_rdec24 => k_all)); (k_dflt (refine' ret_ted ?_)); intro t9 h9 tk9 F9 N9; (try k_sweep); (try dsimp only); (try k_fold)) | fail)
  (k_with "rdec25" => first | (k_here; (with_reducible refine (?_ : wpAny _ _ (call (Value.ref 135) [_, Value.str (Str.ofString ".") _]) _ _ _)); (try ((fail_if_success (fail_if_success k_fold)); (refine fold1 ?_); intro qk)); k_dflt (refine' Call.use (skip_f ?mr_rdec25 ?off_rdec25 (is1_c_e (z := S ".") ?mr2_rdec25 ?off2_rdec25)) ?k1_rdec25 ?k2_rdec25 ?k3_rdec25 ?k4_rdec25 ?k5_rdec25 ?k6_rdec25 ?kd_rdec25 ?ku_rdec25 (Cut.all ?kC_rdec25) ?_; (case k1_rdec25 => k_asm); (case k2_rdec25 => k_asm); (case k3_rdec25 => k_asm); (case k4_rdec25 => k_asm); (case k5_rdec25 => k_asm); (case k6_rdec25 => first | exact rfl | assumption); (case kd_rdec25 => ktr_room); (case ku_rdec25 => ktr_units); (case kC_rdec25 => (repeat' (first | exact Cut.here | refine' Cut.there ?_))); (case mr_rdec25 => k_mem); (case off_rdec25 => k_all); (case mr2_rdec25 => k_mem); (case off2_rdec25 => k_all)); (k_dflt (refine' ret_ted ?_)); intro t9 h9 tk9 F9 N9; (try k_sweep); (try dsimp only); (try k_fold)) | fail)
  (k_with "rdec27" => first | (k_here; (with_reducible refine (?_ : wpAny _ _ (call (Value.ref 163) _) _ _ _)); (try ((fail_if_success (fail_if_success k_fold)); (refine fold1 ?_); intro qk)); k_dflt (refine' Call.use (expo_c ?mr_rdec27 ?off_rdec27) ?k1_rdec27 ?k2_rdec27 ?k3_rdec27 ?k4_rdec27 ?k5_rdec27 ?k6_rdec27 ?kd_rdec27 ?ku_rdec27 (Cut.all ?kC_rdec27) ?_; (case k1_rdec27 => k_asm); (case k2_rdec27 => k_asm); (case k3_rdec27 => k_asm); (case k4_rdec27 => k_asm); (case k5_rdec27 => k_asm); (case k6_rdec27 => first | exact rfl | assumption); (case kd_rdec27 => ktr_room); (case ku_rdec27 => ktr_units); (case kC_rdec27 => (repeat' (first | exact Cut.here | refine' Cut.there ?_))); (case mr_rdec27 => k_mem); (case off_rdec27 => k_all)); (k_dflt (refine' ret_ted ?_)); intro t9 h9 tk9 F9 N9; (try k_sweep); (try dsimp only); (try k_fold)) | fail)
  (k_with "rdec28" => first | (k_here; (with_reducible refine (?_ : wpAny _ _ (call (Value.ref 156) _) _ _ _)); (try ((fail_if_success (fail_if_success k_fold)); (refine fold1 ?_); intro qk)); k_dflt (refine' Call.use (whole_c) ?k1_rdec28 ?k2_rdec28 ?k3_rdec28 ?k4_rdec28 ?k5_rdec28 ?k6_rdec28 ?kd_rdec28 ?ku_rdec28 (fun _ h => h) ?_; (case k1_rdec28 => k_asm); (case k2_rdec28 => k_asm); (case k3_rdec28 => k_asm); (case k4_rdec28 => k_asm); (case k5_rdec28 => k_asm); (case k6_rdec28 => first | exact rfl | assumption); (case kd_rdec28 => ktr_room); (case ku_rdec28 => ktr_units); skip); (k_dflt (refine' ret_ted ?_)); intro t9 h9 tk9 F9 N9; (try k_sweep); (try dsimp only); (try k_fold)) | fail)
  trivial
theorem rdec_c {w : World} {all : Led} {t : Tok} :
    Call w 14 170 [.str (S "7") t] all fun v D' => ∃ a tl t1 t2 n i, v = .ref a ∧ (a, tupObj #[.int i t1, .int 1 t2] n) ∈ tl ∧ i = (7) ∧ D' = tl ++ all ∧ Fresh all tl := by
  constructor
  intro dp un gd cn cs a ccd cl outer A₀ base h₀ L m sh sg sd st so mean mg mb Q E B F X N T hk hdp hun ret
  skip
  refine wpAny_call ?_
  k_dflt ktr_enter
  (repeat' (first | k_extra "sa" | k_extra "b36" | k_extra "b10" | k_extra "b52" | k_extra "b38" | k_extra "b13" | k_extra "b43" | k_extra "b5" | k_extra "b15" | k_extra "b31" | k_extra "b1" | k_extra "b23" | k_extra "b2" | k_extra "b39" | k_extra "sz"))
  exact ret _ _ _ _ (by k_asm) (by k_asm) ⟨_, [_, _, _, _], _, _, _, _, rfl, .head _, by decide, rfl, by ktr_rel⟩
end
section
theorem kw_rdec29 : True := by
  (k_with "rdec29" => first | (k_here; (rename Fr _ _ _ _ => lF'); (with_unfolding_all refine' For_turns lF' ?_); k_whole) | fail)
  (k_with "rdec30" => first | (k_here; (with_reducible refine (?_ : wpAny _ _ (call (Value.ref 128) [_, Value.str (Str.ofString "0123456789") _]) _ _ _)); (try ((fail_if_success (fail_if_success k_fold)); (refine fold1 ?_); intro qk)); k_dflt (refine' Call.use (is1_m_e (z := S "0123456789") ?mr_rdec30 ?off_rdec30) ?k1_rdec30 ?k2_rdec30 ?k3_rdec30 ?k4_rdec30 ?k5_rdec30 ?k6_rdec30 ?kd_rdec30 ?ku_rdec30 (Cut.all ?kC_rdec30) ?_; (case k1_rdec30 => k_asm); (case k2_rdec30 => k_asm); (case k3_rdec30 => k_asm); (case k4_rdec30 => k_asm); (case k5_rdec30 => k_asm); (case k6_rdec30 => first | exact rfl | assumption); (case kd_rdec30 => ktr_room); (case ku_rdec30 => ktr_units); (case kC_rdec30 => (repeat' (first | exact Cut.here | refine' Cut.there ?_))); (case mr_rdec30 => k_mem); (case off_rdec30 => k_all)); (k_dflt (refine' ret_ed ?_)); intro h9 tk9 F9 N9; (try k_sweep); (try dsimp only); (try k_fold)) | fail)
  (k_with "rdec31" => first | (k_here; (with_reducible refine (?_ : wpAny _ _ (call (Value.ref 128) [_, Value.str (Str.ofString "0123456789") _]) _ _ _)); (try ((fail_if_success (fail_if_success k_fold)); (refine fold1 ?_); intro qk)); k_dflt (refine' Call.use (is1_m_d ?mr_rdec31 ?off_rdec31) ?k1_rdec31 ?k2_rdec31 ?k3_rdec31 ?k4_rdec31 ?k5_rdec31 ?k6_rdec31 ?kd_rdec31 ?ku_rdec31 (Cut.all ?kC_rdec31) ?_; (case k1_rdec31 => k_asm); (case k2_rdec31 => k_asm); (case k3_rdec31 => k_asm); (case k4_rdec31 => k_asm); (case k5_rdec31 => k_asm); (case k6_rdec31 => first | exact rfl | assumption); (case kd_rdec31 => ktr_room); (case ku_rdec31 => ktr_units); (case kC_rdec31 => (repeat' (first | exact Cut.here | refine' Cut.there ?_))); (case mr_rdec31 => k_mem); (case off_rdec31 => k_all)); (k_dflt (refine' ret_ed ?_)); intro h9 tk9 F9 N9; (try k_sweep); (try dsimp only); (try k_fold)) | fail)
  trivial
theorem digits_m {w : World} {all : Led} {r rd : Addr} {h1 h2 : Int} {k1 k2 ty ti t : Tok} (mr : (r, instObj 145 rd) ∈ all) (off : ∀ p ∈ all, @Ne Nat p.1 rd) :
    Call w 7 142 [.ref r] ((rd, dictOf [⟨h1, .str (S "text") k1, .str (S "-2") ty⟩, ⟨h2, .str (S "at") k2, .int 1 ti⟩] 2) :: all) fun v D' => ∃ t u, v = .str (S "2") t ∧ D' = (rd, dictOf [⟨h1, .str (S "text") k1, .str (S "-2") ty⟩, ⟨h2, .str (S "at") k2, .int 2 u⟩] 2) :: all := by
  constructor
  intro dp un gd cn cs a ccd cl outer A₀ base h₀ L m sh sg sd st so mean mg mb Q E B F X N T hk hdp hun ret
  skip
  refine wpAny_call ?_
  k_dflt ktr_enter
  (repeat' (first | k_extra "sa" | k_extra "b36" | k_extra "b10" | k_extra "b53" | k_extra "b38" | k_extra "b15" | k_extra "b31" | k_extra "b1" | k_extra "b23" | k_extra "b39" | k_extra "sz"))
  exact ret _ _ _ _ (by k_asm) (by k_asm) ⟨_, _, congrArg (fun x => Value.str x _) (by decide +kernel), rfl⟩
section
theorem kw_rdec32 : True := by
  (k_with "rdec32" => first | (k_here; (with_reducible refine (?_ : wpAny _ _ (call (Value.ref 128) _) _ _ _)); (try ((fail_if_success (fail_if_success k_fold)); (refine fold1 ?_); intro qk)); k_dflt (refine' Call.use (is1_m_s ?mr_rdec32 ?off_rdec32) ?k1_rdec32 ?k2_rdec32 ?k3_rdec32 ?k4_rdec32 ?k5_rdec32 ?k6_rdec32 ?kd_rdec32 ?ku_rdec32 (Cut.all ?kC_rdec32) ?_; (case k1_rdec32 => k_asm); (case k2_rdec32 => k_asm); (case k3_rdec32 => k_asm); (case k4_rdec32 => k_asm); (case k5_rdec32 => k_asm); (case k6_rdec32 => first | exact rfl | assumption); (case kd_rdec32 => ktr_room); (case ku_rdec32 => ktr_units); (case kC_rdec32 => (repeat' (first | exact Cut.here | refine' Cut.there ?_))); (case mr_rdec32 => k_mem); (case off_rdec32 => k_all)); (k_dflt (refine' ret_ed ?_)); intro h9 tk9 F9 N9; (try k_sweep); (try dsimp only); (try k_fold)) | fail)
  trivial
theorem skip_t_m {w : World} {all : Led} {r rd : Addr} {h1 h2 : Int} {k1 k2 ty ti t : Tok} (mr : (r, instObj 145 rd) ∈ all) (off : ∀ p ∈ all, @Ne Nat p.1 rd) :
    Call w 7 135 [.ref r, .str (S "+-") t] ((rd, dictOf [⟨h1, .str (S "text") k1, .str (S "-2") ty⟩, ⟨h2, .str (S "at") k2, .int 0 ti⟩] 2) :: all) fun v D' => ∃ t u, v = .str (S "-") t ∧ D' = (rd, dictOf [⟨h1, .str (S "text") k1, .str (S "-2") ty⟩, ⟨h2, .str (S "at") k2, .int 1 u⟩] 2) :: all := by
  constructor
  intro dp un gd cn cs a ccd cl outer A₀ base h₀ L m sh sg sd st so mean mg mb Q E B F X N T hk hdp hun ret
  skip
  refine wpAny_call ?_
  k_dflt ktr_enter
  (repeat' (first | k_extra "sa" | k_extra "b10" | k_extra "b54" | k_extra "b43" | k_extra "b15" | k_extra "b31" | k_extra "b1" | k_extra "b23" | k_extra "b24" | k_extra "sz"))
  exact ret _ _ _ _ (by k_asm) (by k_asm) ⟨_, _, congrArg (fun x => Value.str x _) (by decide +kernel), rfl⟩
end
theorem kw_rdec33 : True := by
  (k_with "rdec33" => first | (k_here; (with_reducible refine (?_ : wpAny _ _ (call (Value.ref 135) [_, Value.str (Str.ofString "eE") _]) _ _ _)); (try ((fail_if_success (fail_if_success k_fold)); (refine fold1 ?_); intro qk)); k_dflt (refine' Call.use (skip_f ?mr_rdec33 ?off_rdec33 (is1_m_e (z := S "eE") ?mr2_rdec33 ?off2_rdec33)) ?k1_rdec33 ?k2_rdec33 ?k3_rdec33 ?k4_rdec33 ?k5_rdec33 ?k6_rdec33 ?kd_rdec33 ?ku_rdec33 (Cut.all ?kC_rdec33) ?_; (case k1_rdec33 => k_asm); (case k2_rdec33 => k_asm); (case k3_rdec33 => k_asm); (case k4_rdec33 => k_asm); (case k5_rdec33 => k_asm); (case k6_rdec33 => first | exact rfl | assumption); (case kd_rdec33 => ktr_room); (case ku_rdec33 => ktr_units); (case kC_rdec33 => (repeat' (first | exact Cut.here | refine' Cut.there ?_))); (case mr_rdec33 => k_mem); (case off_rdec33 => k_all); (case mr2_rdec33 => k_mem); (case off2_rdec33 => k_all)); (k_dflt (refine' ret_ted ?_)); intro t9 h9 tk9 F9 N9; (try k_sweep); (try dsimp only); (try k_fold)) | fail)
  trivial
theorem expo_m {w : World} {all : Led} {r rd : Addr} {h1 h2 : Int} {k1 k2 ty ti : Tok} (mr : (r, instObj 145 rd) ∈ all) (off : ∀ p ∈ all, @Ne Nat p.1 rd) :
    Call w 11 163 [.ref r] ((rd, dictOf [⟨h1, .str (S "text") k1, .str (S "-2") ty⟩, ⟨h2, .str (S "at") k2, .int 2 ti⟩] 2) :: all) fun v D' => (∃ t, v = .int 0 t) ∧ D' = (rd, dictOf [⟨h1, .str (S "text") k1, .str (S "-2") ty⟩, ⟨h2, .str (S "at") k2, .int 2 ti⟩] 2) :: all := by
  constructor
  intro dp un gd cn cs a ccd cl outer A₀ base h₀ L m sh sg sd st so mean mg mb Q E B F X N T hk hdp hun ret
  skip
  refine wpAny_call ?_
  k_dflt ktr_enter
  (repeat' (first | k_extra "sa" | k_extra "b0" | k_extra "b55" | k_extra "b1" | k_extra "b23" | k_extra "b24" | k_extra "sz"))
  exact ret _ _ _ _ (by k_asm) (by k_asm) ⟨⟨_, rfl⟩, rfl⟩
theorem whole_m {w : World} {all : Led} {t : Tok} :
    Call w 3 156 [.str (S "2") t] all fun v D' => (∃ t, v = .int 2 t) ∧ D' = all := by
  constructor
  intro dp un gd cn cs a ccd cl outer A₀ base h₀ L m sh sg sd st so mean mg mb Q E B F X N T hk hdp hun ret
  skip
  refine wpAny_call ?_
  k_dflt ktr_enter
  (repeat' (first | k_extra "sa" | k_extra "b56" | k_extra "b0" | k_extra "b42" | k_extra "b38" | k_extra "b43" | k_extra "b1" | k_extra "b22" | k_extra "b2" | k_extra "b25" | k_extra "sz"))
  all_goals first
    | (exact absurd (by assumption : Txt.find _ _ = -1) (by decide +kernel))
    | exact trivial
    | exact ret _ _ _ _ (by k_asm) (by k_asm) ⟨⟨_, congrArg (fun x => Value.int x _) (by decide +kernel)⟩, rfl⟩
    | exact ret _ _ _ all (by k_asm) (fun p hp => (by assumption : News h₀ L _ (_ :: all)) p (.tail _ hp)) ⟨⟨_, congrArg (fun x => Value.int x _) (by decide +kernel)⟩, rfl⟩
theorem kw_rdec34 : True := by
  (k_with "rdec34" => first | (k_here; (with_reducible refine (?_ : wpAny _ _ (call (Value.ref 135) [_, Value.str (Str.ofString "+-") _]) _ _ _)); (try ((fail_if_success (fail_if_success k_fold)); (refine fold1 ?_); intro qk)); k_dflt (refine' Call.use (skip_t_m ?mr_rdec34 ?off_rdec34) ?k1_rdec34 ?k2_rdec34 ?k3_rdec34 ?k4_rdec34 ?k5_rdec34 ?k6_rdec34 ?kd_rdec34 ?ku_rdec34 (Cut.all ?kC_rdec34) ?_; (case k1_rdec34 => k_asm); (case k2_rdec34 => k_asm); (case k3_rdec34 => k_asm); (case k4_rdec34 => k_asm); (case k5_rdec34 => k_asm); (case k6_rdec34 => first | exact rfl | assumption); (case kd_rdec34 => ktr_room); (case ku_rdec34 => ktr_units); (case kC_rdec34 => (repeat' (first | exact Cut.here | refine' Cut.there ?_))); (case mr_rdec34 => k_mem); (case off_rdec34 => k_all)); (k_dflt (refine' ret_tued ?_)); intro t9 u9 h9 tk9 F9 N9; (try k_sweep); (try dsimp only); (try k_fold)) | fail)
  (k_with "rdec35" => first | (k_here; (with_reducible refine (?_ : wpAny _ _ (call (Value.ref 135) [_, Value.str (Str.ofString ".") _]) _ _ _)); (try ((fail_if_success (fail_if_success k_fold)); (refine fold1 ?_); intro qk)); k_dflt (refine' Call.use (skip_f ?mr_rdec35 ?off_rdec35 (is1_m_e (z := S ".") ?mr2_rdec35 ?off2_rdec35)) ?k1_rdec35 ?k2_rdec35 ?k3_rdec35 ?k4_rdec35 ?k5_rdec35 ?k6_rdec35 ?kd_rdec35 ?ku_rdec35 (Cut.all ?kC_rdec35) ?_; (case k1_rdec35 => k_asm); (case k2_rdec35 => k_asm); (case k3_rdec35 => k_asm); (case k4_rdec35 => k_asm); (case k5_rdec35 => k_asm); (case k6_rdec35 => first | exact rfl | assumption); (case kd_rdec35 => ktr_room); (case ku_rdec35 => ktr_units); (case kC_rdec35 => (repeat' (first | exact Cut.here | refine' Cut.there ?_))); (case mr_rdec35 => k_mem); (case off_rdec35 => k_all); (case mr2_rdec35 => k_mem); (case off2_rdec35 => k_all)); (k_dflt (refine' ret_ted ?_)); intro t9 h9 tk9 F9 N9; (try k_sweep); (try dsimp only); (try k_fold)) | fail)
  (k_with "rdec37" => first | (k_here; (with_reducible refine (?_ : wpAny _ _ (call (Value.ref 163) _) _ _ _)); (try ((fail_if_success (fail_if_success k_fold)); (refine fold1 ?_); intro qk)); k_dflt (refine' Call.use (expo_m ?mr_rdec37 ?off_rdec37) ?k1_rdec37 ?k2_rdec37 ?k3_rdec37 ?k4_rdec37 ?k5_rdec37 ?k6_rdec37 ?kd_rdec37 ?ku_rdec37 (Cut.all ?kC_rdec37) ?_; (case k1_rdec37 => k_asm); (case k2_rdec37 => k_asm); (case k3_rdec37 => k_asm); (case k4_rdec37 => k_asm); (case k5_rdec37 => k_asm); (case k6_rdec37 => first | exact rfl | assumption); (case kd_rdec37 => ktr_room); (case ku_rdec37 => ktr_units); (case kC_rdec37 => (repeat' (first | exact Cut.here | refine' Cut.there ?_))); (case mr_rdec37 => k_mem); (case off_rdec37 => k_all)); (k_dflt (refine' ret_ted ?_)); intro t9 h9 tk9 F9 N9; (try k_sweep); (try dsimp only); (try k_fold)) | fail)
  (k_with "rdec38" => first | (k_here; (with_reducible refine (?_ : wpAny _ _ (call (Value.ref 156) _) _ _ _)); (try ((fail_if_success (fail_if_success k_fold)); (refine fold1 ?_); intro qk)); k_dflt (refine' Call.use (whole_m) ?k1_rdec38 ?k2_rdec38 ?k3_rdec38 ?k4_rdec38 ?k5_rdec38 ?k6_rdec38 ?kd_rdec38 ?ku_rdec38 (fun _ h => h) ?_; (case k1_rdec38 => k_asm); (case k2_rdec38 => k_asm); (case k3_rdec38 => k_asm); (case k4_rdec38 => k_asm); (case k5_rdec38 => k_asm); (case k6_rdec38 => first | exact rfl | assumption); (case kd_rdec38 => ktr_room); (case ku_rdec38 => ktr_units); skip); (k_dflt (refine' ret_ted ?_)); intro t9 h9 tk9 F9 N9; (try k_sweep); (try dsimp only); (try k_fold)) | fail)
  trivial
theorem rdec_m {w : World} {all : Led} {t : Tok} :
    Call w 14 170 [.str (S "-2") t] all fun v D' => ∃ a tl t1 t2 n i, v = .ref a ∧ (a, tupObj #[.int i t1, .int 1 t2] n) ∈ tl ∧ i = (-2) ∧ D' = tl ++ all ∧ Fresh all tl := by
  constructor
  intro dp un gd cn cs a ccd cl outer A₀ base h₀ L m sh sg sd st so mean mg mb Q E B F X N T hk hdp hun ret
  skip
  refine wpAny_call ?_
  k_dflt ktr_enter
  (repeat' (first | k_extra "sa" | k_extra "b36" | k_extra "b10" | k_extra "b57" | k_extra "b38" | k_extra "b13" | k_extra "b43" | k_extra "b5" | k_extra "b15" | k_extra "b31" | k_extra "b1" | k_extra "b23" | k_extra "b2" | k_extra "b39" | k_extra "sz"))
  exact ret _ _ _ _ (by k_asm) (by k_asm) ⟨_, [_, _, _, _], _, _, _, _, rfl, .head _, by decide, rfl, by ktr_rel⟩
end
end

theorem reset_tup : True := by
  (w_top off)
  trivial
section
-- part tup
section
variable {prog : Program} {w : World} {A : Around} {E : Value → Shared → Prop} {s : Shared}
noncomputable def isS (k : Str) : Value → Bool
  | .str n _ => n == k
  | _ => false
theorem strsV_mem : ∀ {vs : List Value} {ns : List Str} {v : Value}, StrsV vs ns → v ∈ vs → ∃ n t, v = .str n t
  | [], [], _, _, h => nomatch h
  | [], _ :: _, _, x, _ => x.elim
  | _ :: _, [], _, x, _ => x.elim
  | a :: r, b :: q, v, x, h => by
    rcases List.mem_cons.mp h with rfl | h
    · obtain ⟨t, e⟩ := x.1; exact ⟨_, t, e⟩
    · exact strsV_mem x.2 h
theorem strsV_any {k : Str} : ∀ {vs : List Value} {ns : List Str}, StrsV vs ns → vs.any (isS k) = ns.any (· == k)
  | [], [], _ => rfl
  | [], _ :: _, x => x.elim
  | _ :: _, [], x => x.elim
  | a :: r, b :: q, x => by
    obtain ⟨⟨t, rfl⟩, h⟩ := x
    rw [List.any_cons, List.any_cons, strsV_any h]
    rfl
theorem strsV_len : ∀ {vs : List Value} {ns : List Str}, StrsV vs ns → vs.length = ns.length
  | [], [], _ => rfl
  | [], _ :: _, x => x.elim
  | _ :: _, [], x => x.elim
  | a :: r, b :: q, x => by rw [List.length_cons, List.length_cons, strsV_len x.2]
theorem strsV_snoc {n : Str} {t : Tok} : ∀ {vs : List Value} {ns : List Str}, StrsV vs ns → StrsV (vs ++ [.str n t]) (ns ++ [n])
  | [], [], _ => ⟨⟨t, rfl⟩, trivial⟩
  | [], _ :: _, x => x.elim
  | _ :: _, [], x => x.elim
  | a :: r, b :: q, x => ⟨x.1, strsV_snoc x.2⟩
theorem tup_eq {vs : Array Value} {ns : List Str} {k : Str} {t : Tok} (h : StrsV vs.toList ns) : ∀ y, y ∈ vs → SeqAt.EqAt A.in1 s y (.str k t) (isS k y) := fun y hy => by
  obtain ⟨n, u, rfl⟩ := strsV_mem h (Array.mem_toList_iff.mpr hy)
  exact SeqAt.EqAt.str_str n u k t
theorem tup_in {x : Addr} {vs : Array Value} {ns : List Str} {k : Str} {t : Tok} {Q : Value → Shared → Prop} (hx : IsTup s.heap x vs) (h : StrsV vs.toList ns) {b : Bool} (hb : ns.any (· == k) = b) (q : Q (.bool b) s) :
    wpAny (model prog w) A (compareOp .In (.str k t) (.ref x)) Q E s := by
  refine SeqAt.in_tupleAt (isS k) hx (tup_eq h) ?_
  rw [← Array.any_toList, strsV_any h, hb]; exact q
theorem tup_notin {x : Addr} {vs : Array Value} {ns : List Str} {k : Str} {t : Tok} {Q : Value → Shared → Prop} (hx : IsTup s.heap x vs) (h : StrsV vs.toList ns) {b : Bool} (hb : ns.any (· == k) = b) (q : Q (.bool (!b)) s) :
    wpAny (model prog w) A (compareOp .NotIn (.str k t) (.ref x)) Q E s := by
  refine SeqAt.notIn_tupleAt (isS k) hx (tup_eq h) ?_
  rw [← Array.any_toList, strsV_any h, hb]; exact q
end
end

theorem reset_itm : True := by
  (w_top off)
  trivial
section
-- part itm
section
variable {prog : Program} {w : World} {A : Around} {E : Value → Shared → Prop} {s : Shared} {env : Env} {h₀ : Heap} {target : Expr} {body : List Stmt} {Q : Flow → Shared → Prop}
theorem allObj_mono : ∀ {ws : List (Addr × String)} {k k' : Led → Prop}, AllObj ws k → (∀ its, k its → k' its) → AllObj ws k'
  | [], _, _, h, f => f _ h
  | _ :: _, _, _, h, f => fun o ho => allObj_mono (h o ho) fun its hi => f _ hi
theorem items_ind {ws : List (Addr × String)} {keep : Led} (Inv : List Itm → (Str → Option Value) → Led → Prop)
    (hstep : ∀ a r m news, Inv (a :: r) m news → ∀ v h tk, a.Is v h → Fr h₀ env.locals h m → AllObj ws (fun its => News h₀ env.locals h (its ++ news) →
      wpAny (model prog w) A (assign target env v) (fun _ s₂ => wpAny (model prog w) A (execs body env) (UnrPostW h₀ env.locals { s with heap := h, toks := tk } its (fun m' n' => SubL keep n' ∧ Inv r m' n') Q) E s₂) E { s with heap := h, toks := tk }))
    (hdone : ∀ m news, Inv [] m news → ∀ h tk, Fr h₀ env.locals h m → News h₀ env.locals h news → Q .next { s with heap := h, toks := tk }) :
    ∀ {xs : List Itm} {m : Str → Option Value} {news : Led}, Inv xs m news → ItemsRest prog w A E h₀ env target body Q s ws keep xs m news := by
  intro xs
  induction xs with
  | nil => intro m news hI h tk F N; exact hdone m news hI h tk F N
  | cons a r ih =>
    intro m news hI v h tk hv F
    refine allObj_mono (hstep a r m news hI v h tk hv F) fun its hw N => ?_
    refine wpAny_mono (hw N) (fun _ s₂ h₂ => wpAny_mono h₂ (fun f s₃ h₃ => ?_) fun _ _ e => e) fun _ _ e => e
    cases f with
    | ret v => exact h₃
    | brk => exact h₃
    | next => obtain ⟨h', tk', m', n', e, F', N', off, sk, hI'⟩ := h₃; exact ⟨h', tk', m', n', e, F', N', off, sk, ih hI'⟩
    | cont => obtain ⟨h', tk', m', n', e, F', N', off, sk, hI'⟩ := h₃; exact ⟨h', tk', m', n', e, F', N', off, sk, ih hI'⟩
theorem items_ind1 {I : Addr} {ty : String} {keep : Led} (Inv : Addr → List Itm → (Str → Option Value) → Led → Prop)
    (hstep : ∀ a r m news, Inv I (a :: r) m news → ∀ v h tk oI, a.Is v h → oI.cls = .type ty → Fr h₀ env.locals h m → News h₀ env.locals h ((I, oI) :: news) →
      wpAny (model prog w) A (assign target env v) (fun _ s₂ => wpAny (model prog w) A (execs body env) (UnrPostW h₀ env.locals { s with heap := h, toks := tk } [(I, oI)] (fun m' n' => SubL keep n' ∧ Inv I r m' n') Q) E s₂) E { s with heap := h, toks := tk })
    (hdone : ∀ m news, Inv I [] m news → ∀ h tk, Fr h₀ env.locals h m → News h₀ env.locals h news → Q .next { s with heap := h, toks := tk })
    {xs : List Itm} {m : Str → Option Value} {news : Led} (h : Inv I xs m news) : ItemsRest prog w A E h₀ env target body Q s [(I, ty)] keep xs m news :=
  by
  refine items_ind (Inv I) (fun a r m news hI v h tk hv F => ?_) hdone h
  refine AllObj.cons fun oI hc => AllObj.nil fun N => ?_
  exact hstep a r m news hI v h tk oI hv hc F N
end
end

theorem reset_frac : True := by
  (w_top off)
  (k_with "b58" => first | ((with_reducible refine (?_ : wpAny _ _ (exec (Stmt.While _ _ _ _) _) _ _ _)); first | (with_reducible (k_extra "whl:2")) | fail) | fail)
  (k_with "b59" => first | ((with_reducible refine (?_ : wpAny _ _ (call (Value.ref _) _) _ _ _)); first | (with_reducible (k_extra "frac1")) | fail) | fail)
  (k_with "b60" => first | ((with_reducible refine (?_ : wpAny _ _ (call (Value.ref _) _) _ _ _)); first | (with_reducible (k_extra "frac2")) | fail) | fail)
  trivial
section
-- part frac
noncomputable def NumT (all : Led) (n : Int) (v : Value) (D' : Led) : Prop := ∃ a tl i j t1 t2 k, v = .ref a ∧ (a, tupObj #[.int i t1, .int j t2] k) ∈ tl ∧ i = n ∧ j = 1 ∧ D' = tl ++ all ∧ Fresh all tl
noncomputable def StrT (all : Led) (y : Str) (v : Value) (D' : Led) : Prop := (∃ t, v = .str y t) ∧ ∃ tl, D' = tl ++ all ∧ Fresh all tl
theorem StrT.elim {all : Led} {y : Str} {v : Value} {D' : Led} (h : StrT all y v D') : ∃ t tl, v = .str y t ∧ D' = tl ++ all ∧ Fresh all tl := let ⟨⟨t, a⟩, tl, b⟩ := h; ⟨t, tl, a, b⟩
theorem NumT.elim {all : Led} {n : Int} {v : Value} {D' : Led} (h : NumT all n v D') : ∃ a tl t1 t2 k, v = .ref a ∧ (a, tupObj #[.int n t1, .int 1 t2] k) ∈ tl ∧ D' = tl ++ all ∧ Fresh all tl := by
  refine exC7 h ?_; (try clear h); intro a tl i j t1 t2 k hR; refine anC6 hR ?_; clear hR; intro h1 h2 hO9 hO10 h3 h4; subst hO9; subst hO10
  exact exI5 a tl t1 t2 k ⟨h1, h2, h3, h4⟩
theorem ret_NumT {n : Int} {h₀ : Heap} {L : Addr} {m : Str → Option Value} {sg : Array GenState} {sd : Drawn} {so : OsState} {Q : Value → Shared → Prop} {all : Led} (kk : ∀ a tl t u k h' tk', Fr h₀ L h' m → News h₀ L h' (tl ++ all) → (a, tupObj #[.int n t, .int 1 u] k) ∈ tl → Fresh all tl → Q (.ref a) ⟨h', sg, sd, tk', so⟩) :
    ∀ v h' tk' D', Fr h₀ L h' m → News h₀ L h' D' → NumT all n v D' → Q v ⟨h', sg, sd, tk', so⟩ := fun v h' tk' D' F N p => by
  refine exC5 (p.elim) ?_; intro a tl t u k hR; refine anC4 hR ?_; clear hR; intro e9 m9 d9 f9
  subst e9; subst d9
  exact kk _ _ _ _ _ _ _ F N m9 f9
theorem c_gcd {w : World} {all : Led} {n : Int} {t1 t2 : Tok} (h0 : -1000 ≤ n) (h1 : n ≤ 1000) :
    Call w 3 85 [.int n t1, .int 1 t2] all fun v D' => (∃ t, v = .int 1 t) ∧ ∃ tl, D' = tl ++ all ∧ Fresh all tl := by
  constructor
  intro dp un gd cn cs a ccd cl outer A₀ base h₀ L m sh sg sd st so mean mg mb Q E B F X N T hk hdp hun ret
  skip
  refine wpAny_call ?_
  k_dflt ktr_enter
  (repeat' (first | k_extra "sa" | k_extra "b58" | k_extra "b0" | k_extra "b13" | k_extra "b43" | k_extra "b5" | k_extra "b1" | k_extra "b23" | k_extra "b2" | k_extra "b39" | k_extra "sz"))
  exact ret _ _ _ _ (by k_asm) (by k_asm) ⟨⟨_, rfl⟩, [_, _], rfl, by ktr_rel⟩
section
theorem kw_frac1 : True := by
  (k_with "frac1" => first | (k_here; (with_reducible refine (?_ : wpAny _ _ (call (Value.ref 85) [_, Value.int 1 _]) _ _ _)); (try ((fail_if_success (fail_if_success k_fold)); (refine fold1 ?_); intro qk)); k_dflt (refine' Call.use (c_gcd ?z0_frac1 ?z1_frac1) ?k1_frac1 ?k2_frac1 ?k3_frac1 ?k4_frac1 ?k5_frac1 ?k6_frac1 ?kd_frac1 ?ku_frac1 (fun _ h => h) ?_; (case k1_frac1 => k_asm); (case k2_frac1 => k_asm); (case k3_frac1 => k_asm); (case k4_frac1 => k_asm); (case k5_frac1 => k_asm); (case k6_frac1 => first | exact rfl | assumption); (case kd_frac1 => ktr_room); (case ku_frac1 => ktr_units); (case z0_frac1 => assumption); (case z1_frac1 => assumption); k_whole); (k_dflt (refine' ret_str ?_)); intro t9 tl9 h9 tk9 F9 N9 g09; (try k_sweep); (try dsimp only); (try k_fold)) | fail)
  trivial
theorem c_frac {w : World} {all : Led} {n : Int} {t1 t2 : Tok} (h0 : -1000 ≤ n) (h1 : n ≤ 1000) :
    Call w 6 93 [.int n t1, .int 1 t2] all (NumT all n) := by
  constructor
  intro dp un gd cn cs a ccd cl outer A₀ base h₀ L m sh sg sd st so mean mg mb Q E B F X N T hk hdp hun ret
  skip
  refine wpAny_call ?_
  k_dflt ktr_enter
  (repeat' (first | k_extra "sa" | k_extra "b59" | k_extra "b13" | k_extra "b43" | k_extra "b5" | k_extra "b2" | k_extra "b24" | k_extra "sz"))
  exact ret _ _ _ ((_ :: _) ++ all) (by k_asm) (by k_asm) ⟨_, _, _, _, _, _, _, rfl, .head _, Int.fdiv_one _, by decide, rfl, by ktr_rel⟩
end
section
theorem kw_frac2 : True := by
  (k_with "frac2" => first | (k_here; (with_reducible refine (?_ : wpAny _ _ (call (Value.ref 93) _) _ _ _)); (try ((fail_if_success (fail_if_success k_fold)); (refine fold1 ?_); intro qk)); k_dflt (refine' Call.use (c_frac ?z0_frac2 ?z1_frac2) ?k1_frac2 ?k2_frac2 ?k3_frac2 ?k4_frac2 ?k5_frac2 ?k6_frac2 ?kd_frac2 ?ku_frac2 (fun _ h => h) ?_; (case k1_frac2 => k_asm); (case k2_frac2 => k_asm); (case k3_frac2 => k_asm); (case k4_frac2 => k_asm); (case k5_frac2 => k_asm); (case k6_frac2 => first | exact rfl | assumption); (case kd_frac2 => ktr_room); (case ku_frac2 => ktr_units); (case z0_frac2 => first | assumption | omega); (case z1_frac2 => first | assumption | omega); k_whole); (k_dflt (refine' ret_NumT ?_)); intro a9 tl9 t9 u9 k9 h9 tk9 F9 N9 g09 g19; (try k_sweep); (try dsimp only); (try k_fold)) | fail)
  trivial
theorem c_times {w : World} {all : Led} {n : Int} {a b : Addr} {t1 t2 t3 t4 : Tok} {k1 k2 : Nat} (ma : (a, tupObj #[.int n t1, .int 1 t2] k1) ∈ all) (mb : (b, tupObj #[.int 1 t3, .int 1 t4] k2) ∈ all) (h0 : -1000 ≤ n) (h1 : n ≤ 1000) :
    Call w 9 100 [.ref a, .ref b] all (NumT all n) := by
  constructor
  intro dp un gd cn cs a ccd cl outer A₀ base h₀ L m sh sg sd st so mean mg mb Q E B F X N T hk hdp hun ret
  skip
  refine wpAny_call ?_
  k_dflt ktr_enter
  (repeat' (first | k_extra "sa" | k_extra "b60" | k_extra "b43" | k_extra "b1" | k_extra "sz"))
  exact ret _ _ _ _ (by k_asm) (by k_asm) ⟨_, _, _, _, _, _, _, rfl, by assumption, Int.mul_one n, rfl, rfl, by assumption⟩
end
end

end
theorem kw_frac_1 : True := by
  (k_with "frac:1" => first | (k_here; (with_reducible refine (?_ : wpAny _ _ (call (Value.ref 100) _) _ _ _)); (try ((fail_if_success (fail_if_success k_fold)); (refine fold1 ?_); intro qk)); k_dflt (refine' Call.use (c_times ?ma_frac1 ?mb_frac1 ?z0_frac1 ?z1_frac1) ?k1_frac1 ?k2_frac1 ?k3_frac1 ?k4_frac1 ?k5_frac1 ?k6_frac1 ?kd_frac1 ?ku_frac1 (fun _ h => h) ?_; (case k1_frac1 => k_asm); (case k2_frac1 => k_asm); (case k3_frac1 => k_asm); (case k4_frac1 => k_asm); (case k5_frac1 => k_asm); (case k6_frac1 => first | exact rfl | assumption); (case kd_frac1 => ktr_room); (case ku_frac1 => ktr_units); (case ma_frac1 => k_mem); (case mb_frac1 => k_mem); (case z0_frac1 => first | assumption | omega | decide); (case z1_frac1 => first | assumption | omega | decide); k_whole); (k_dflt (refine' ret_NumT ?_)); intro a9 tl9 t9 u9 k9 h9 tk9 F9 N9 g09 g19; (try k_sweep); (try dsimp only); (try k_fold)) | fail)
  trivial
section
theorem reset_len : True := by
  (w_top off)
  (k_with "b61" => first | ((with_reducible refine (?_ : wpAny _ _ (newTuple _) _ _ _)); first | (with_reducible (k_extra "len1")) | fail) | fail)
  (k_with "b62" => first | ((with_reducible refine (?_ : wpAny _ _ (binaryOp Operator.Mod (Value.int _ _) (Value.int _ _)) _ _ _)); first | (with_reducible (k_extra "len6")) | fail) | fail)
  (k_with "b63" => first | ((with_reducible refine (?_ : wpAny _ _ (binaryOp Operator.Pow (Value.int _ _) (Value.int _ _)) _ _ _)); first | (with_reducible (k_extra "len5")) | fail) | fail)
  (k_with "b64" => first | ((with_reducible refine (?_ : wpAny _ _ (binaryOp Operator.FloorDiv (Value.int _ _) (Value.int _ _)) _ _ _)); first | (with_reducible (k_extra "len4")) | fail) | fail)
  (k_with "b65" => first | ((with_reducible refine (?_ : wpAny _ _ (eval (Expr.Subscript _ _ _) _) _ _ _)); first | (with_reducible (k_extra "call:12")) | fail) | fail)
  (k_with "b66" => first | ((with_reducible refine (?_ : wpAny _ _ (binaryOp Operator.Mod (Value.int _ _) (Value.int _ _)) _ _ _)); first | (with_reducible (k_extra "len9")) | fail) | fail)
  (k_with "b67" => first | ((with_reducible refine (?_ : wpAny _ _ (binaryOp Operator.Pow (Value.int _ _) (Value.int _ _)) _ _ _)); first | (with_reducible (k_extra "len8")) | fail) | fail)
  (k_with "b68" => first | ((with_reducible refine (?_ : wpAny _ _ (binaryOp Operator.FloorDiv (Value.int _ _) (Value.int _ _)) _ _ _)); first | (with_reducible (k_extra "len7")) | fail) | fail)
  (k_with "b69" => first | ((with_reducible refine (?_ : wpAny _ _ (binaryOp Operator.Mod (Value.int _ _) (Value.int _ _)) _ _ _)); first | (with_reducible (k_extra "len12")) | fail) | fail)
  (k_with "b70" => first | ((with_reducible refine (?_ : wpAny _ _ (binaryOp Operator.Pow (Value.int _ _) (Value.int _ _)) _ _ _)); first | (with_reducible (k_extra "len11")) | fail) | fail)
  (k_with "b71" => first | ((with_reducible refine (?_ : wpAny _ _ (binaryOp Operator.FloorDiv (Value.int _ _) (Value.int _ _)) _ _ _)); first | (with_reducible (k_extra "len10")) | fail) | fail)
  (k_with "b72" => first | ((with_reducible refine (?_ : wpAny _ _ (binaryOp Operator.Mod (Value.int _ _) (Value.int _ _)) _ _ _)); first | (with_reducible (k_extra "len15")) | fail) | fail)
  (k_with "b73" => first | ((with_reducible refine (?_ : wpAny _ _ (binaryOp Operator.Pow (Value.int _ _) (Value.int _ _)) _ _ _)); first | (with_reducible (k_extra "len14")) | fail) | fail)
  (k_with "b74" => first | ((with_reducible refine (?_ : wpAny _ _ (binaryOp Operator.FloorDiv (Value.int _ _) (Value.int _ _)) _ _ _)); first | (with_reducible (k_extra "len13")) | fail) | fail)
  (k_with "b75" => first | ((with_reducible refine (?_ : wpAny _ _ (call (Value.ref _) _) _ _ _)); first | (with_reducible (k_extra "len17")) | (with_reducible (k_extra "len16")) | (with_reducible (k_extra "frac:1")) | fail) | fail)
  (k_with "b76" => first | ((with_reducible refine (?_ : wpAny _ _ (eval (Expr.Dict _ _ _) _) _ _ _)); first | (with_reducible (k_extra "len2")) | fail) | fail)
  (k_with "b77" => first | ((fail_if_success (with_reducible refine (?_ : wpAny _ _ _ _ _ _))); first | ((with_reducible refine (?_ : KdnMade ..)); first | (with_reducible (k_extra "len3")) | fail) | ((with_reducible refine (?_ : (@ite _ _ (_) _ _))); first | (with_reducible (k_extra "call:3")) | fail) | fail) | fail)
  trivial
section
-- part len
theorem news_sub5 {h₀ h : Heap} {L : Addr} {D D' : Led} (N : News h₀ L h D) (s : ∀ p ∈ D', p ∈ D) : News h₀ L h D' := fun p hp => N p (s p hp)
theorem sub_consN {a l : Led} {x : Addr × Obj} (h : ∀ p ∈ a, p ∈ l) : ∀ p ∈ a, p ∈ x :: l := fun p hp => .tail _ (h p hp)
theorem sub_appN {a l b : Led} (h : ∀ p ∈ a, p ∈ l) : ∀ p ∈ a, p ∈ b ++ l := fun p hp => List.mem_append_right _ (h p hp)
theorem sub_l2 {a b l : Led} (h : ∀ p ∈ a, p ∈ b) : ∀ p ∈ l ++ a, p ∈ l ++ b := fun p hp => (List.mem_append.mp hp).elim (List.mem_append_left _) fun q => List.mem_append_right _ (h p q)
theorem fd_lit {prog : Program} {w : World} {A : Around} {E : Value → Shared → Prop} {s : Shared} {a b c : Int} {t u : Tok} {Q : Value → Shared → Prop} (hc : a.fdiv b = c) (hb : b ≠ 0) (h : Q (.int c s.toks) { s with toks := s.toks + 1 }) (hp : Builtin.divisionGoesByPylong a b = false) :
    wpAny (model prog w) A (binaryOp .FloorDiv (.int a t) (.int b u)) Q E s := floordiv_int hb (hc ▸ h) (.inl hp)
theorem pw_lit {prog : Program} {w : World} {A : Around} {E : Value → Shared → Prop} {s : Shared} {a n c : Int} {t u : Tok} {Q : Value → Shared → Prop} (hc : a ^ n.toNat = c) (hn : 0 ≤ n) (hn2 : n ≤ 1000000) (ha : a.natAbs < 2 ^ 64) (h : Q (.int c s.toks) { s with toks := s.toks + 1 }) :
    wpAny (model prog w) A (binaryOp .Pow (.int a t) (.int n u)) Q E s := pow_int_small hn hn2 ha (hc ▸ h)
theorem fm_lit {prog : Program} {w : World} {A : Around} {E : Value → Shared → Prop} {s : Shared} {a b c : Int} {t u : Tok} {Q : Value → Shared → Prop} (hc : a.fmod b = c) (hb : b ≠ 0) (h : Q (.int c s.toks) { s with toks := s.toks + 1 }) (_ : Builtin.divisionGoesByPylong a b = false) :
    wpAny (model prog w) A (binaryOp .Mod (.int a t) (.int b u)) Q E s := mod_int' hb (hc ▸ h)
theorem kw_lenw13 : True := by
  (k_with "len;13" => first | (exact Fresh.sub (by assumption) sub_app) | fail)
  trivial
local macro_rules | `(tactic| ktr_rel) => `(tactic| k_extra "len;13")
theorem kw_len1 : True := by
  (k_with "len1" => first | (k_here; k_dflt (refine' kup_newTuple ?F_len1 ?N_len1 ?_ ?z_len1; (case F_len1 => k_asm); (case N_len1 => k_asm); (case z_len1 => kmk_size)); intro D' h' F' N' l1; (try k_lt l1); (try k_sweep); (try dsimp only)) | fail)
  (k_with "len2" => first | (k_here; k_dflt (refine' kdn_str ?q_len2 ?F_len2 ?N_len2 ?b_len2 ?a_len2 ?l_len2 ?e_len2 ?n_len2 ?_; (case q_len2 => rfl); (case F_len2 => k_asm); (case N_len2 => k_asm); (case b_len2 => exact Top.nolimit (by k_asm)); (case a_len2 => rfl); (case l_len2 => rfl); (case e_len2 => exact List.cons_ne_nil _ _); (case n_len2 => exact Nat.le_of_ble_eq_true rfl)); intro d' h' o' F' N' l1 lo' hd'; (try k_lt l1); (try dsimp only)) | fail)
  (k_with "len3" => first | (k_here; k_dflt (refine' kdn_made_str ?F_len3 ?N_len3 ?U_len3 ?d_len3 ?k_len3 ?n_len3 ?_; (case F_len3 => k_asm); (case N_len3 => k_asm); (case U_len3 => k_updF); (case d_len3 => k_asm); (case k_len3 => rfl); (case n_len3 => exact of_decide_eq_true (by first | rfl | kernel_rfl!))); intro h' o' F' N' hd'; (try dsimp only at N'); (try dsimp only)) | fail)
  trivial
section
theorem unit_a {w : World} {all : Led} {t : Tok} :
    Call w 4 215 [.str (S "0") t] all fun v D' => ∃ a tl t1 t2 n, v = .ref a ∧ (a, tupObj #[.str (S "0") t1, .str (S "") t2] n) ∈ tl ∧ D' = tl ++ all ∧ Fresh all tl := by
  constructor
  intro dp un gd cn cs a ccd cl outer A₀ base h₀ L m sh sg sd st so mean mg mb Q E B F X N T hk hdp hun ret
  skip
  refine wpAny_call ?_
  k_dflt ktr_enter
  (repeat' (first | k_extra "sa" | k_extra "b18" | k_extra "b1" | k_extra "b21" | k_extra "b61" | k_extra "b22" | k_extra "b23" | k_extra "b2" | k_extra "b24" | k_extra "b25" | k_extra "sz"))
  all_goals first | exact ⟨.head _, trivial⟩ | exact ret _ _ _ ([_, _] ++ all) (by k_asm) (by k_asm) ⟨_, _, _, _, _, rfl, .head _, rfl, by ktr_rel⟩
theorem kw_len4 : True := by
  (k_with "len4" => first | (k_here; k_dflt (first | (refine' fd_lit (c := 0) (by decide +kernel) (by decide) ?_ (by decide +kernel)) | (refine' fd_lit (c := 0) (by decide +kernel) (by decide) ?_ (by decide +kernel))); (try dsimp only)) | fail)
  (k_with "len5" => first | (k_here; k_dflt (refine' pw_lit (c := 1000000) (by decide +kernel) (by decide) (by decide) (by decide) ?_); (try dsimp only)) | fail)
  (k_with "len6" => first | (k_here; k_dflt (refine' fm_lit (c := 0) (by decide +kernel) (by decide) ?_ (by decide +kernel)); (try dsimp only)) | fail)
  trivial
theorem wdec_a {w : World} {all : Led} {a : Addr} {t1 t2 : Tok} {k : Nat} (ma : (a, tupObj #[.int (0) t1, .int 1 t2] k) ∈ all) :
    Call w 4 178 [.ref a] all fun v D' => (∃ t, v = .str (S "0") t) ∧ ∃ tl, D' = tl ++ all ∧ Fresh all tl := by
  constructor
  intro dp un gd cn cs a ccd cl outer A₀ base h₀ L m sh sg sd st so mean mg mb Q E B F X N T hk hdp hun ret
  skip
  refine wpAny_call ?_
  k_dflt ktr_enter
  (repeat' (first | k_extra "sa" | k_extra "b62" | k_extra "b63" | k_extra "b64" | k_extra "b13" | k_extra "b43" | k_extra "b5" | k_extra "b65" | k_extra "b1" | k_extra "b61" | k_extra "b2" | k_extra "b24" | k_extra "sz"))
  exact ret _ _ _ _ (by k_asm) (by k_asm) ⟨⟨_, congrArg (fun x => Value.str x _) (by first | decide +kernel | rfl)⟩, [_], rfl, by ktr_rel⟩
end
section
theorem unit_b {w : World} {all : Led} {t : Tok} :
    Call w 4 215 [.str (S "3") t] all fun v D' => ∃ a tl t1 t2 n, v = .ref a ∧ (a, tupObj #[.str (S "3") t1, .str (S "") t2] n) ∈ tl ∧ D' = tl ++ all ∧ Fresh all tl := by
  constructor
  intro dp un gd cn cs a ccd cl outer A₀ base h₀ L m sh sg sd st so mean mg mb Q E B F X N T hk hdp hun ret
  skip
  refine wpAny_call ?_
  k_dflt ktr_enter
  (repeat' (first | k_extra "sa" | k_extra "b18" | k_extra "b1" | k_extra "b21" | k_extra "b61" | k_extra "b22" | k_extra "b23" | k_extra "b2" | k_extra "b24" | k_extra "b25" | k_extra "sz"))
  all_goals first | exact ⟨.head _, trivial⟩ | exact ret _ _ _ ([_, _] ++ all) (by k_asm) (by k_asm) ⟨_, _, _, _, _, rfl, .head _, rfl, by ktr_rel⟩
theorem kw_len7 : True := by
  (k_with "len7" => first | (k_here; k_dflt (first | (refine' fd_lit (c := 3000000) (by decide +kernel) (by decide) ?_ (by decide +kernel)) | (refine' fd_lit (c := 3) (by decide +kernel) (by decide) ?_ (by decide +kernel))); (try dsimp only)) | fail)
  (k_with "len8" => first | (k_here; k_dflt (refine' pw_lit (c := 1000000) (by decide +kernel) (by decide) (by decide) (by decide) ?_); (try dsimp only)) | fail)
  (k_with "len9" => first | (k_here; k_dflt (refine' fm_lit (c := 0) (by decide +kernel) (by decide) ?_ (by decide +kernel)); (try dsimp only)) | fail)
  trivial
theorem wdec_b {w : World} {all : Led} {a : Addr} {t1 t2 : Tok} {k : Nat} (ma : (a, tupObj #[.int (3) t1, .int 1 t2] k) ∈ all) :
    Call w 4 178 [.ref a] all fun v D' => (∃ t, v = .str (S "3") t) ∧ ∃ tl, D' = tl ++ all ∧ Fresh all tl := by
  constructor
  intro dp un gd cn cs a ccd cl outer A₀ base h₀ L m sh sg sd st so mean mg mb Q E B F X N T hk hdp hun ret
  skip
  refine wpAny_call ?_
  k_dflt ktr_enter
  (repeat' (first | k_extra "sa" | k_extra "b66" | k_extra "b67" | k_extra "b68" | k_extra "b13" | k_extra "b43" | k_extra "b5" | k_extra "b65" | k_extra "b1" | k_extra "b61" | k_extra "b2" | k_extra "b24" | k_extra "sz"))
  exact ret _ _ _ _ (by k_asm) (by k_asm) ⟨⟨_, congrArg (fun x => Value.str x _) (by first | decide +kernel | rfl)⟩, [_], rfl, by ktr_rel⟩
end
section
theorem unit_c {w : World} {all : Led} {t : Tok} :
    Call w 4 215 [.str (S "7") t] all fun v D' => ∃ a tl t1 t2 n, v = .ref a ∧ (a, tupObj #[.str (S "7") t1, .str (S "") t2] n) ∈ tl ∧ D' = tl ++ all ∧ Fresh all tl := by
  constructor
  intro dp un gd cn cs a ccd cl outer A₀ base h₀ L m sh sg sd st so mean mg mb Q E B F X N T hk hdp hun ret
  skip
  refine wpAny_call ?_
  k_dflt ktr_enter
  (repeat' (first | k_extra "sa" | k_extra "b18" | k_extra "b1" | k_extra "b21" | k_extra "b61" | k_extra "b22" | k_extra "b23" | k_extra "b2" | k_extra "b24" | k_extra "b25" | k_extra "sz"))
  all_goals first | exact ⟨.head _, trivial⟩ | exact ret _ _ _ ([_, _] ++ all) (by k_asm) (by k_asm) ⟨_, _, _, _, _, rfl, .head _, rfl, by ktr_rel⟩
theorem kw_len10 : True := by
  (k_with "len10" => first | (k_here; k_dflt (first | (refine' fd_lit (c := 7000000) (by decide +kernel) (by decide) ?_ (by decide +kernel)) | (refine' fd_lit (c := 7) (by decide +kernel) (by decide) ?_ (by decide +kernel))); (try dsimp only)) | fail)
  (k_with "len11" => first | (k_here; k_dflt (refine' pw_lit (c := 1000000) (by decide +kernel) (by decide) (by decide) (by decide) ?_); (try dsimp only)) | fail)
  (k_with "len12" => first | (k_here; k_dflt (refine' fm_lit (c := 0) (by decide +kernel) (by decide) ?_ (by decide +kernel)); (try dsimp only)) | fail)
  trivial
theorem wdec_c {w : World} {all : Led} {a : Addr} {t1 t2 : Tok} {k : Nat} (ma : (a, tupObj #[.int (7) t1, .int 1 t2] k) ∈ all) :
    Call w 4 178 [.ref a] all fun v D' => (∃ t, v = .str (S "7") t) ∧ ∃ tl, D' = tl ++ all ∧ Fresh all tl := by
  constructor
  intro dp un gd cn cs a ccd cl outer A₀ base h₀ L m sh sg sd st so mean mg mb Q E B F X N T hk hdp hun ret
  skip
  refine wpAny_call ?_
  k_dflt ktr_enter
  (repeat' (first | k_extra "sa" | k_extra "b69" | k_extra "b70" | k_extra "b71" | k_extra "b13" | k_extra "b43" | k_extra "b5" | k_extra "b65" | k_extra "b1" | k_extra "b61" | k_extra "b2" | k_extra "b24" | k_extra "sz"))
  exact ret _ _ _ _ (by k_asm) (by k_asm) ⟨⟨_, congrArg (fun x => Value.str x _) (by first | decide +kernel | rfl)⟩, [_], rfl, by ktr_rel⟩
end
section
theorem unit_m {w : World} {all : Led} {t : Tok} :
    Call w 4 215 [.str (S "-2") t] all fun v D' => ∃ a tl t1 t2 n, v = .ref a ∧ (a, tupObj #[.str (S "-2") t1, .str (S "") t2] n) ∈ tl ∧ D' = tl ++ all ∧ Fresh all tl := by
  constructor
  intro dp un gd cn cs a ccd cl outer A₀ base h₀ L m sh sg sd st so mean mg mb Q E B F X N T hk hdp hun ret
  skip
  refine wpAny_call ?_
  k_dflt ktr_enter
  (repeat' (first | k_extra "sa" | k_extra "b18" | k_extra "b1" | k_extra "b21" | k_extra "b61" | k_extra "b22" | k_extra "b23" | k_extra "b2" | k_extra "b24" | k_extra "b25" | k_extra "sz"))
  all_goals first | exact ⟨.head _, trivial⟩ | exact ret _ _ _ ([_, _] ++ all) (by k_asm) (by k_asm) ⟨_, _, _, _, _, rfl, .head _, rfl, by ktr_rel⟩
theorem kw_len13 : True := by
  (k_with "len13" => first | (k_here; k_dflt (first | (refine' fd_lit (c := 2000000) (by decide +kernel) (by decide) ?_ (by decide +kernel)) | (refine' fd_lit (c := 2) (by decide +kernel) (by decide) ?_ (by decide +kernel))); (try dsimp only)) | fail)
  (k_with "len14" => first | (k_here; k_dflt (refine' pw_lit (c := 1000000) (by decide +kernel) (by decide) (by decide) (by decide) ?_); (try dsimp only)) | fail)
  (k_with "len15" => first | (k_here; k_dflt (refine' fm_lit (c := 0) (by decide +kernel) (by decide) ?_ (by decide +kernel)); (try dsimp only)) | fail)
  trivial
theorem wdec_m {w : World} {all : Led} {a : Addr} {t1 t2 : Tok} {k : Nat} (ma : (a, tupObj #[.int (-2) t1, .int 1 t2] k) ∈ all) :
    Call w 4 178 [.ref a] all fun v D' => (∃ t, v = .str (S "-2") t) ∧ ∃ tl, D' = tl ++ all ∧ Fresh all tl := by
  constructor
  intro dp un gd cn cs a ccd cl outer A₀ base h₀ L m sh sg sd st so mean mg mb Q E B F X N T hk hdp hun ret
  skip
  refine wpAny_call ?_
  k_dflt ktr_enter
  (repeat' (first | k_extra "sa" | k_extra "b72" | k_extra "b73" | k_extra "b74" | k_extra "b13" | k_extra "b43" | k_extra "b5" | k_extra "b65" | k_extra "b1" | k_extra "b61" | k_extra "b2" | k_extra "b24" | k_extra "sz"))
  exact ret _ _ _ _ (by k_asm) (by k_asm) ⟨⟨_, congrArg (fun x => Value.str x _) (by first | decide +kernel | rfl)⟩, [_], rfl, by ktr_rel⟩
end
noncomputable def UnitOk (w : World) (y : Str) : Prop := ∀ (all : Led) (t : Tok), Call w 4 215 [.str y t] all fun v D' => ∃ a tl t1 t2 n, v = .ref a ∧ (a, tupObj #[.str y t1, .str (S "") t2] n) ∈ tl ∧ D' = tl ++ all ∧ Fresh all tl
noncomputable def DecOk (w : World) (y : Str) (n : Int) : Prop := ∀ (all : Led) (t : Tok), Call w 14 170 [.str y t] all fun v D' => ∃ a tl t1 t2 k i, v = .ref a ∧ (a, tupObj #[.int i t1, .int 1 t2] k) ∈ tl ∧ i = n ∧ D' = tl ++ all ∧ Fresh all tl
theorem UnitOk.out {w : World} {y : Str} {all : Led} {t : Tok} (h : UnitOk w y) : Call w 4 215 [.str y t] all fun v D' => ∃ a tl t1 t2 n, v = .ref a ∧ (a, tupObj #[.str y t1, .str (S "") t2] n) ∈ tl ∧ D' = tl ++ all ∧ Fresh all tl := h all t
theorem DecOk.out {w : World} {y : Str} {n : Int} {all : Led} {t : Tok} (h : DecOk w y n) : Call w 14 170 [.str y t] all fun v D' => ∃ a tl t1 t2 k i, v = .ref a ∧ (a, tupObj #[.int i t1, .int 1 t2] k) ∈ tl ∧ i = n ∧ D' = tl ++ all ∧ Fresh all tl := h all t
section
theorem kw_len16 : True := by
  (k_with "len16" => first | (k_here; (with_reducible refine (?_ : wpAny _ _ (call (Value.ref 215) _) _ _ _)); (try ((fail_if_success (fail_if_success k_fold)); (refine fold1 ?_); intro qk)); k_dflt (refine' Call.use (UnitOk.out (by assumption)) ?k1_len16 ?k2_len16 ?k3_len16 ?k4_len16 ?k5_len16 ?k6_len16 ?kd_len16 ?ku_len16 (fun _ h => h) ?_; (case k1_len16 => k_asm); (case k2_len16 => k_asm); (case k3_len16 => k_asm); (case k4_len16 => k_asm); (case k5_len16 => k_asm); (case k6_len16 => first | exact rfl | assumption); (case kd_len16 => ktr_room); (case ku_len16 => ktr_units)); (k_dflt (refine' ret_num ?_)); intro a9 tl9 t9 u9 k9 h9 tk9 F9 N9 g09 g19; (try k_sweep); (try dsimp only); (try k_fold)) | fail)
  (k_with "len17" => first | (k_here; (with_reducible refine (?_ : wpAny _ _ (call (Value.ref 170) _) _ _ _)); k_dflt (refine' Call.use (DecOk.out (by assumption)) ?k1_len17 ?k2_len17 ?k3_len17 ?k4_len17 ?k5_len17 ?k6_len17 ?kd_len17 ?ku_len17 (fun _ h => h) ?_; (case k1_len17 => k_asm); (case k2_len17 => k_asm); (case k3_len17 => k_asm); (case k4_len17 => k_asm); (case k5_len17 => k_asm); (case k6_len17 => first | exact rfl | assumption); (case kd_len17 => ktr_room); (case ku_len17 => ktr_units)); intro v9 h9 tk9 D9 F9 N9 p9; (with_reducible refine (?_ : (let lG : Prop := _; lG))); intro lG; obtain ⟨a9, tl9, t9, u9, n9, i9, e9, m9, i9', d9, f9⟩ := p9; subst e9; subst d9; (try k_unfold); subst i9'; (try k_sweep); (try dsimp only); (try k_fold)) | fail)
  trivial
theorem len_g {w : World} {y : Str} {n : Int} (h0 : -1000 ≤ n) (h1 : n ≤ 1000)
    (hU : UnitOk w y) (hR : DecOk w y n) {all : Led} {b : Addr} {t : Tok} :
    Call w 24 224 [.str y t, .ref b] all (NumT all n) := by
  constructor
  intro dp un gd cn cs a ccd cl outer A₀ base h₀ L m sh sg sd st so mean mg mb Q E B F X N T hk hdp hun ret
  skip
  refine wpAny_call ?_
  k_dflt ktr_enter
  (repeat' (first | k_extra "sa" | k_extra "b75" | k_extra "b76" | k_extra "b13" | k_extra "b5" | k_extra "b1" | k_extra "b61" | k_extra "b23" | k_extra "b2" | k_extra "b77" | k_extra "sz"))
  refine' ret _ _ _ (_ ++ all) ?zF (news_sub5 ?zN ?zS) ⟨_, _, _, _, _, _, _, rfl, ?zm, rfl, rfl, rfl, Fresh.sub ?zf ?zs⟩
  (case zF => k_asm)
  (case zN => assumption)
  (case zm => assumption)
  (case zf => assumption)
  (case zs => ((repeat' (first | exact (fun _ h => h) | assumption | refine sub_consN ?_ | refine sub_appN ?_))))
  (case zS => (refine sub_l2 ?_; ((repeat' (first | exact (fun _ h => h) | assumption | refine sub_consN ?_ | refine sub_appN ?_)))))
end
theorem len_a {w : World} {all : Led} {b : Addr} {t : Tok} :
    Call w 24 224 [.str (S "0") t, .ref b] all (NumT all (0)) := len_g (by decide) (by decide) (fun _ _ => unit_a) fun _ _ => rdec_a
theorem len_b {w : World} {all : Led} {b : Addr} {t : Tok} :
    Call w 24 224 [.str (S "3") t, .ref b] all (NumT all (3)) := len_g (by decide) (by decide) (fun _ _ => unit_b) fun _ _ => rdec_b
theorem len_c {w : World} {all : Led} {b : Addr} {t : Tok} :
    Call w 24 224 [.str (S "7") t, .ref b] all (NumT all (7)) := len_g (by decide) (by decide) (fun _ _ => unit_c) fun _ _ => rdec_c
theorem len_m {w : World} {all : Led} {b : Addr} {t : Tok} :
    Call w 24 224 [.str (S "-2") t, .ref b] all (NumT all (-2)) := len_g (by decide) (by decide) (fun _ _ => unit_m) fun _ _ => rdec_m
end

theorem reset_place : True := by
  (w_top off)
  (k_with "b78" => first | ((with_reducible refine (?_ : wpAny _ _ (call (Value.ref _) _) _ _ _)); first | (with_reducible (k_extra "place3")) | (with_reducible (k_extra "place2")) | (with_reducible (k_extra "call:1")) | fail) | fail)
  (k_with "b79" => first | ((with_reducible refine (?_ : wpAny _ _ (call (Value.ref _) _) _ _ _)); first | (with_reducible (k_extra "place5")) | (with_reducible (k_extra "place4")) | (with_reducible (k_extra "call:1")) | fail) | fail)
  (k_with "b80" => first | ((with_reducible refine (?_ : wpAny _ _ (call (Value.ref _) _) _ _ _)); first | (with_reducible (k_extra "place7")) | (with_reducible (k_extra "place6")) | (with_reducible (k_extra "call:1")) | fail) | fail)
  (k_with "b81" => first | ((with_reducible refine (?_ : wpAny _ _ (call (Value.ref _) _) _ _ _)); first | (with_reducible (k_extra "place9")) | (with_reducible (k_extra "place8")) | (with_reducible (k_extra "call:1")) | fail) | fail)
  (k_with "b82" => first | ((with_reducible refine (?_ : wpAny _ _ (call (Value.ref _) _) _ _ _)); first | (with_reducible (k_extra "comp:3")) | (with_reducible (k_extra "call:1")) | fail) | fail)
  trivial
section
-- part place
theorem StrT.of {y : Str} {v : Value} {D' l a b all : Led} (hD : D' = l ++ (a ++ (b ++ all))) (m : ∃ t, v = .str y t) (f : Fresh all (l ++ (a ++ b))) : StrT all y v D' :=
  ⟨m, l ++ (a ++ b), by rw [hD]; simp only [List.append_assoc], f⟩
section
theorem kw_placew6 : True := by
  (k_with "place;6" => first | (exact Fresh.sub (by assumption) sub_app) | fail)
  trivial
local macro_rules | `(tactic| ktr_rel) => `(tactic| k_extra "place;6")
theorem kw_place2 : True := by
  (k_with "place2" => first | (k_here; (with_reducible refine (?_ : wpAny _ _ (call (Value.ref 224) [Value.str (Str.ofString "0") _, _]) _ _ _)); (try ((fail_if_success (fail_if_success k_fold)); (refine fold1 ?_); intro qk)); k_dflt (refine' Call.use (len_a) ?k1_place2 ?k2_place2 ?k3_place2 ?k4_place2 ?k5_place2 ?k6_place2 ?kd_place2 ?ku_place2 (fun _ h => h) ?_; (case k1_place2 => k_asm); (case k2_place2 => k_asm); (case k3_place2 => k_asm); (case k4_place2 => k_asm); (case k5_place2 => k_asm); (case k6_place2 => first | exact rfl | assumption); (case kd_place2 => ktr_room); (case ku_place2 => ktr_units); k_whole); (k_dflt (refine' ret_NumT ?_)); intro a9 tl9 t9 u9 k9 h9 tk9 F9 N9 g09 g19; (try k_sweep); (try dsimp only); (try k_fold)) | fail)
  (k_with "place3" => first | (k_here; (with_reducible refine (?_ : wpAny _ _ (call (Value.ref 178) _) _ _ _)); (try ((fail_if_success (fail_if_success k_fold)); (refine fold1 ?_); intro qk)); k_dflt (refine' Call.use (wdec_a ?ma_place3) ?k1_place3 ?k2_place3 ?k3_place3 ?k4_place3 ?k5_place3 ?k6_place3 ?kd_place3 ?ku_place3 (fun _ h => h) ?_; (case k1_place3 => k_asm); (case k2_place3 => k_asm); (case k3_place3 => k_asm); (case k4_place3 => k_asm); (case k5_place3 => k_asm); (case k6_place3 => first | exact rfl | assumption); (case kd_place3 => ktr_room); (case ku_place3 => ktr_units); (case ma_place3 => k_mem); k_whole); (k_dflt (refine' ret_str ?_)); intro t9 tl9 h9 tk9 F9 N9 g09; (try k_sweep); (try dsimp only); (try k_fold)) | fail)
  (k_with "place4" => first | (k_here; (with_reducible refine (?_ : wpAny _ _ (call (Value.ref 224) [Value.str (Str.ofString "3") _, _]) _ _ _)); (try ((fail_if_success (fail_if_success k_fold)); (refine fold1 ?_); intro qk)); k_dflt (refine' Call.use (len_b) ?k1_place4 ?k2_place4 ?k3_place4 ?k4_place4 ?k5_place4 ?k6_place4 ?kd_place4 ?ku_place4 (fun _ h => h) ?_; (case k1_place4 => k_asm); (case k2_place4 => k_asm); (case k3_place4 => k_asm); (case k4_place4 => k_asm); (case k5_place4 => k_asm); (case k6_place4 => first | exact rfl | assumption); (case kd_place4 => ktr_room); (case ku_place4 => ktr_units); k_whole); (k_dflt (refine' ret_NumT ?_)); intro a9 tl9 t9 u9 k9 h9 tk9 F9 N9 g09 g19; (try k_sweep); (try dsimp only); (try k_fold)) | fail)
  (k_with "place5" => first | (k_here; (with_reducible refine (?_ : wpAny _ _ (call (Value.ref 178) _) _ _ _)); (try ((fail_if_success (fail_if_success k_fold)); (refine fold1 ?_); intro qk)); k_dflt (refine' Call.use (wdec_b ?ma_place5) ?k1_place5 ?k2_place5 ?k3_place5 ?k4_place5 ?k5_place5 ?k6_place5 ?kd_place5 ?ku_place5 (fun _ h => h) ?_; (case k1_place5 => k_asm); (case k2_place5 => k_asm); (case k3_place5 => k_asm); (case k4_place5 => k_asm); (case k5_place5 => k_asm); (case k6_place5 => first | exact rfl | assumption); (case kd_place5 => ktr_room); (case ku_place5 => ktr_units); (case ma_place5 => k_mem); k_whole); (k_dflt (refine' ret_str ?_)); intro t9 tl9 h9 tk9 F9 N9 g09; (try k_sweep); (try dsimp only); (try k_fold)) | fail)
  (k_with "place6" => first | (k_here; (with_reducible refine (?_ : wpAny _ _ (call (Value.ref 224) [Value.str (Str.ofString "7") _, _]) _ _ _)); (try ((fail_if_success (fail_if_success k_fold)); (refine fold1 ?_); intro qk)); k_dflt (refine' Call.use (len_c) ?k1_place6 ?k2_place6 ?k3_place6 ?k4_place6 ?k5_place6 ?k6_place6 ?kd_place6 ?ku_place6 (fun _ h => h) ?_; (case k1_place6 => k_asm); (case k2_place6 => k_asm); (case k3_place6 => k_asm); (case k4_place6 => k_asm); (case k5_place6 => k_asm); (case k6_place6 => first | exact rfl | assumption); (case kd_place6 => ktr_room); (case ku_place6 => ktr_units); k_whole); (k_dflt (refine' ret_NumT ?_)); intro a9 tl9 t9 u9 k9 h9 tk9 F9 N9 g09 g19; (try k_sweep); (try dsimp only); (try k_fold)) | fail)
  (k_with "place7" => first | (k_here; (with_reducible refine (?_ : wpAny _ _ (call (Value.ref 178) _) _ _ _)); (try ((fail_if_success (fail_if_success k_fold)); (refine fold1 ?_); intro qk)); k_dflt (refine' Call.use (wdec_c ?ma_place7) ?k1_place7 ?k2_place7 ?k3_place7 ?k4_place7 ?k5_place7 ?k6_place7 ?kd_place7 ?ku_place7 (fun _ h => h) ?_; (case k1_place7 => k_asm); (case k2_place7 => k_asm); (case k3_place7 => k_asm); (case k4_place7 => k_asm); (case k5_place7 => k_asm); (case k6_place7 => first | exact rfl | assumption); (case kd_place7 => ktr_room); (case ku_place7 => ktr_units); (case ma_place7 => k_mem); k_whole); (k_dflt (refine' ret_str ?_)); intro t9 tl9 h9 tk9 F9 N9 g09; (try k_sweep); (try dsimp only); (try k_fold)) | fail)
  (k_with "place8" => first | (k_here; (with_reducible refine (?_ : wpAny _ _ (call (Value.ref 224) [Value.str (Str.ofString "-2") _, _]) _ _ _)); (try ((fail_if_success (fail_if_success k_fold)); (refine fold1 ?_); intro qk)); k_dflt (refine' Call.use (len_m) ?k1_place8 ?k2_place8 ?k3_place8 ?k4_place8 ?k5_place8 ?k6_place8 ?kd_place8 ?ku_place8 (fun _ h => h) ?_; (case k1_place8 => k_asm); (case k2_place8 => k_asm); (case k3_place8 => k_asm); (case k4_place8 => k_asm); (case k5_place8 => k_asm); (case k6_place8 => first | exact rfl | assumption); (case kd_place8 => ktr_room); (case ku_place8 => ktr_units); k_whole); (k_dflt (refine' ret_NumT ?_)); intro a9 tl9 t9 u9 k9 h9 tk9 F9 N9 g09 g19; (try k_sweep); (try dsimp only); (try k_fold)) | fail)
  (k_with "place9" => first | (k_here; (with_reducible refine (?_ : wpAny _ _ (call (Value.ref 178) _) _ _ _)); (try ((fail_if_success (fail_if_success k_fold)); (refine fold1 ?_); intro qk)); k_dflt (refine' Call.use (wdec_m ?ma_place9) ?k1_place9 ?k2_place9 ?k3_place9 ?k4_place9 ?k5_place9 ?k6_place9 ?kd_place9 ?ku_place9 (fun _ h => h) ?_; (case k1_place9 => k_asm); (case k2_place9 => k_asm); (case k3_place9 => k_asm); (case k4_place9 => k_asm); (case k5_place9 => k_asm); (case k6_place9 => first | exact rfl | assumption); (case kd_place9 => ktr_room); (case ku_place9 => ktr_units); (case ma_place9 => k_mem); k_whole); (k_dflt (refine' ret_str ?_)); intro t9 tl9 h9 tk9 F9 N9 g09; (try k_sweep); (try dsimp only); (try k_fold)) | fail)
  trivial
theorem place_a {w : World} {all : Led} {x dx d l : Addr} {nn : Nat} {o : Obj} {kvs : List (Str × Value)} {name text k : Str} {h1 h2 h3 h4 : Int} {t t1 t2 t3 t4 tn tt tk : Tok}
    (mx : (x, instObj 203 dx) ∈ all) (mdx : (dx, dictOf [⟨h1, .str (S "name") t1, .str name tn⟩, ⟨h2, .str (S "attributes") t2, .ref d⟩, ⟨h3, .str (S "children") t3, .ref l⟩, ⟨h4, .str (S "text") t4, .str text tt⟩] nn) ∈ all)
    (md : (d, o) ∈ all) (hd : o.IsDictOf (strKind prg w) kvs) (hlo : (d == sysModules) = false) (hv : valueAt kvs k = some (.str (S "0") t)) :
    Call w 34 282 [.ref x, .str k tk] all (StrT all (S "0")) := by
  constructor
  intro dp un gd cn cs a ccd cl outer A₀ base h₀ L m sh sg sd st so mean mg mb Q E B F X N T hk hdp hun ret
  skip
  refine wpAny_call ?_
  k_dflt ktr_enter
  (repeat' (first | k_extra "sa" | k_extra "b10" | k_extra "b78" | k_extra "b5" | k_extra "b1" | k_extra "b19" | k_extra "b20" | k_extra "b22" | k_extra "b23" | k_extra "b2" | k_extra "b24" | k_extra "sz"))
  refine' ret _ _ _ _ ?zF ?zN ?zP
  (case zF => k_asm)
  (case zN => k_asm)
  exact StrT.of (l := []) rfl ⟨_, rfl⟩ (by ktr_rel)
theorem place_a0 {w : World} {all : Led} {x dx d l : Addr} {nn : Nat} {o : Obj} {kvs : List (Str × Value)} {name text k : Str} {h1 h2 h3 h4 : Int} {t t1 t2 t3 t4 tn tt tk : Tok}
    (mx : (x, instObj 203 dx) ∈ all) (mdx : (dx, dictOf [⟨h1, .str (S "name") t1, .str name tn⟩, ⟨h2, .str (S "attributes") t2, .ref d⟩, ⟨h3, .str (S "children") t3, .ref l⟩, ⟨h4, .str (S "text") t4, .str text tt⟩] nn) ∈ all)
    (md : (d, o) ∈ all) (hd : o.IsDictOf (strKind prg w) kvs) (hlo : (d == sysModules) = false) (hv : valueAt kvs k = none) :
    Call w 34 282 [.ref x, .str k tk] all (StrT all (S "0")) := by
  constructor
  intro dp un gd cn cs a ccd cl outer A₀ base h₀ L m sh sg sd st so mean mg mb Q E B F X N T hk hdp hun ret
  skip
  refine wpAny_call ?_
  k_dflt ktr_enter
  (repeat' (first | k_extra "sa" | k_extra "b10" | k_extra "b78" | k_extra "b5" | k_extra "b1" | k_extra "b19" | k_extra "b20" | k_extra "b22" | k_extra "b23" | k_extra "b2" | k_extra "b24" | k_extra "sz"))
  refine' ret _ _ _ _ ?zF ?zN ?zP
  (case zF => k_asm)
  (case zN => k_asm)
  exact StrT.of (l := []) rfl ⟨_, rfl⟩ (by ktr_rel)
theorem place_b {w : World} {all : Led} {x dx d l : Addr} {nn : Nat} {o : Obj} {kvs : List (Str × Value)} {name text k : Str} {h1 h2 h3 h4 : Int} {t t1 t2 t3 t4 tn tt tk : Tok}
    (mx : (x, instObj 203 dx) ∈ all) (mdx : (dx, dictOf [⟨h1, .str (S "name") t1, .str name tn⟩, ⟨h2, .str (S "attributes") t2, .ref d⟩, ⟨h3, .str (S "children") t3, .ref l⟩, ⟨h4, .str (S "text") t4, .str text tt⟩] nn) ∈ all)
    (md : (d, o) ∈ all) (hd : o.IsDictOf (strKind prg w) kvs) (hlo : (d == sysModules) = false) (hv : valueAt kvs k = some (.str (S "3") t)) :
    Call w 34 282 [.ref x, .str k tk] all (StrT all (S "3")) := by
  constructor
  intro dp un gd cn cs a ccd cl outer A₀ base h₀ L m sh sg sd st so mean mg mb Q E B F X N T hk hdp hun ret
  skip
  refine wpAny_call ?_
  k_dflt ktr_enter
  (repeat' (first | k_extra "sa" | k_extra "b10" | k_extra "b79" | k_extra "b5" | k_extra "b1" | k_extra "b19" | k_extra "b20" | k_extra "b22" | k_extra "b23" | k_extra "b2" | k_extra "b24" | k_extra "sz"))
  refine' ret _ _ _ _ ?zF ?zN ?zP
  (case zF => k_asm)
  (case zN => k_asm)
  exact StrT.of (l := []) rfl ⟨_, rfl⟩ (by ktr_rel)
theorem place_c {w : World} {all : Led} {x dx d l : Addr} {nn : Nat} {o : Obj} {kvs : List (Str × Value)} {name text k : Str} {h1 h2 h3 h4 : Int} {t t1 t2 t3 t4 tn tt tk : Tok}
    (mx : (x, instObj 203 dx) ∈ all) (mdx : (dx, dictOf [⟨h1, .str (S "name") t1, .str name tn⟩, ⟨h2, .str (S "attributes") t2, .ref d⟩, ⟨h3, .str (S "children") t3, .ref l⟩, ⟨h4, .str (S "text") t4, .str text tt⟩] nn) ∈ all)
    (md : (d, o) ∈ all) (hd : o.IsDictOf (strKind prg w) kvs) (hlo : (d == sysModules) = false) (hv : valueAt kvs k = some (.str (S "7") t)) :
    Call w 34 282 [.ref x, .str k tk] all (StrT all (S "7")) := by
  constructor
  intro dp un gd cn cs a ccd cl outer A₀ base h₀ L m sh sg sd st so mean mg mb Q E B F X N T hk hdp hun ret
  skip
  refine wpAny_call ?_
  k_dflt ktr_enter
  (repeat' (first | k_extra "sa" | k_extra "b10" | k_extra "b80" | k_extra "b5" | k_extra "b1" | k_extra "b19" | k_extra "b20" | k_extra "b22" | k_extra "b23" | k_extra "b2" | k_extra "b24" | k_extra "sz"))
  refine' ret _ _ _ _ ?zF ?zN ?zP
  (case zF => k_asm)
  (case zN => k_asm)
  exact StrT.of (l := []) rfl ⟨_, rfl⟩ (by ktr_rel)
theorem place_m {w : World} {all : Led} {x dx d l : Addr} {nn : Nat} {o : Obj} {kvs : List (Str × Value)} {name text k : Str} {h1 h2 h3 h4 : Int} {t t1 t2 t3 t4 tn tt tk : Tok}
    (mx : (x, instObj 203 dx) ∈ all) (mdx : (dx, dictOf [⟨h1, .str (S "name") t1, .str name tn⟩, ⟨h2, .str (S "attributes") t2, .ref d⟩, ⟨h3, .str (S "children") t3, .ref l⟩, ⟨h4, .str (S "text") t4, .str text tt⟩] nn) ∈ all)
    (md : (d, o) ∈ all) (hd : o.IsDictOf (strKind prg w) kvs) (hlo : (d == sysModules) = false) (hv : valueAt kvs k = some (.str (S "-2") t)) :
    Call w 34 282 [.ref x, .str k tk] all (StrT all (S "-2")) := by
  constructor
  intro dp un gd cn cs a ccd cl outer A₀ base h₀ L m sh sg sd st so mean mg mb Q E B F X N T hk hdp hun ret
  skip
  refine wpAny_call ?_
  k_dflt ktr_enter
  (repeat' (first | k_extra "sa" | k_extra "b10" | k_extra "b81" | k_extra "b5" | k_extra "b1" | k_extra "b19" | k_extra "b20" | k_extra "b22" | k_extra "b23" | k_extra "b2" | k_extra "b24" | k_extra "sz"))
  refine' ret _ _ _ _ ?zF ?zN ?zP
  (case zF => k_asm)
  (case zN => k_asm)
  exact StrT.of (l := []) rfl ⟨_, rfl⟩ (by ktr_rel)
theorem place_p {w : World} {all : Led} {x dx d l : Addr} {nn : Nat} {o : Obj} {kvs : List (Str × Value)} {name text k : Str} {h1 h2 h3 h4 : Int} {t t1 t2 t3 t4 tn tt tk : Tok}
    (mx : (x, instObj 203 dx) ∈ all) (mdx : (dx, dictOf [⟨h1, .str (S "name") t1, .str name tn⟩, ⟨h2, .str (S "attributes") t2, .ref d⟩, ⟨h3, .str (S "children") t3, .ref l⟩, ⟨h4, .str (S "text") t4, .str text tt⟩] nn) ∈ all)
    (md : (d, o) ∈ all) (hd : o.IsDictOf (strKind prg w) kvs) (hlo : (d == sysModules) = false) (hv : valueAt kvs k = some (.str (S "50%") t)) :
    CallX w 34 282 [.ref x, .str k tk] all all (fun _ _ => False) (fun C => C = 63) := by
  constructor
  intro dp un gd cn cs a ccd cl outer A₀ base h₀ L m sh sg sd st so mean mg mb Q E B F X N T hk hdp hun ret exc
  skip
  refine wpAny_call ?_
  k_dflt ktr_enter
  (repeat' (first | k_extra "sa" | k_extra "b9" | k_extra "b10" | k_extra "b11" | k_extra "b82" | k_extra "b5" | k_extra "b1" | k_extra "b19" | k_extra "b20" | k_extra "b22" | k_extra "b23" | k_extra "b2" | k_extra "b24" | k_extra "sz"))
  refine exc _ _ _ _ _ _ _ (by assumption) (by assumption) (raisedS_sub (by assumption) (fun p hp => hp)) rfl
end
theorem c_place {w : World} {all : Led} {x dx d l : Addr} {nn : Nat} {o : Obj} {kvs : List (Str × Value)} {ws : Ws} {name text k y : Str} {h1 h2 h3 h4 : Int} {t1 t2 t3 t4 tn tt tk : Tok}
    (mx : (x, instObj 203 dx) ∈ all) (mdx : (dx, dictOf [⟨h1, .str (S "name") t1, .str name tn⟩, ⟨h2, .str (S "attributes") t2, .ref d⟩, ⟨h3, .str (S "children") t3, .ref l⟩, ⟨h4, .str (S "text") t4, .str text tt⟩] nn) ∈ all)
    (md : (d, o) ∈ all) (hd : o.IsDictOf (strKind prg w) kvs) (hw : WsAre kvs ws) (hlo : (d == sysModules) = false) (hy : getOr ws k (S "0") = y) (hyl : y = S "0" ∨ y = S "3" ∨ y = S "7" ∨ y = S "-2") :
    Call w 34 282 [.ref x, .str k tk] all (StrT all y) := by
  unfold getOr at hy
  cases hg : wsGet ws k with
  | none =>
    rw [hg] at hy
    dsimp only [Option.getD] at hy
    subst hy
    exact place_a0 (t := 0) mx mdx md hd hlo (hw.none hg)
  | some v =>
    rw [hg] at hy
    dsimp only [Option.getD] at hy
    subst hy
    obtain ⟨t, ht⟩ := hw.some hg
    rcases hyl with rfl | rfl | rfl | rfl
    · exact place_a mx mdx md hd hlo ht
    · exact place_b mx mdx md hd hlo ht
    · exact place_c mx mdx md hd hlo ht
    · exact place_m mx mdx md hd hlo ht
end

theorem reset_gw : True := by
  (w_top off)
  (k_with "b83" => first | ((with_reducible refine (?_ : wpAny _ _ (exec (Stmt.For (Expr.Name _ _) (Expr.Attribute _ _ _) _ [] _) _) _ _ _)); first | (with_reducible (k_extra "gw1")) | fail) | fail)
  (k_with "b84" => first | ((with_reducible refine (?_ : wpAny _ _ (eval (Expr.Dict [] [] _) _) _ _ _)); first | (with_reducible (k_extra "dict:5")) | fail) | fail)
  (k_with "b85" => first | ((with_reducible refine (?_ : wpAny _ _ (pyIter (Value.ref _)) _ _ _)); first | (with_reducible (k_extra "gw2")) | fail) | fail)
  (k_with "b86" => first | ((with_reducible refine (?_ : wpAny _ _ (compareOp CmpOp.NotIn (Value.str _ _) (Value.ref _)) _ _ _)); first | (with_reducible (k_extra "gw4")) | fail) | fail)
  (k_with "b87" => first | ((fail_if_success (with_reducible refine (?_ : wpAny _ _ _ _ _ _))); first | ((with_reducible refine (?_ : SubL ..)); first | (k_extra "gw3") | fail) | ((with_reducible refine (?_ : UnrEndW ..)); first | (k_extra "lem:2") | fail) | fail) | fail)
  (k_with "b88" => first | ((with_reducible refine (?_ : wpAny _ _ (binaryOp Operator.Add (Value.str _ _) (Value.str _ _)) _ _ _)); first | (with_reducible (k_extra "gw7")) | fail) | fail)
  (k_with "b89" => first | ((with_reducible refine (?_ : wpAny _ _ (call (Value.builtin "str.strip") _) _ _ _)); first | (with_reducible (k_extra "gw8")) | fail) | fail)
  (k_with "b90" => first | ((with_reducible refine (?_ : wpAny _ _ (call (Value.ref _) _) _ _ _)); first | (with_reducible (k_extra "gw5")) | (with_reducible (k_extra "call:1")) | fail) | fail)
  (k_with "b91" => first | ((with_reducible refine (?_ : wpAny _ _ (call (Value.ref _) _) _ _ _)); first | (with_reducible (k_extra "gw6")) | (with_reducible (k_extra "gw5")) | fail) | fail)
  trivial
section
-- part gw
noncomputable def isFill (p : Str × Str) : Bool := p.1 = S "fill"
theorem fill_step {dn r : Ws} {v : Str} (nd : ((dn ++ (S "fill", v) :: r).map (·.1)).Nodup) :
    wsGet (dn ++ (S "fill", v) :: r) (S "fill") = some v ∧ wsPut (dn.filter isFill) (S "fill") v = (dn ++ [(S "fill", v)]).filter isFill := by
  have hno : ∀ p ∈ dn, ¬ p.1 = S "fill" := fun p hp e => by
    rw [List.map_append, List.map_cons, List.nodup_append] at nd
    exact nd.2.2 _ (List.mem_map_of_mem hp) _ (.head _) e
  have hf : dn.filter isFill = [] := List.filter_eq_nil_iff.mpr fun p hp => by unfold isFill; simpa using hno p hp
  refine ⟨?_, ?_⟩
  · unfold wsGet
    rw [List.find?_append, List.find?_eq_none.mpr fun p hp => by simpa using hno p hp, List.find?_cons]
    simp
  · rw [List.filter_append, hf]
    simp [wsPut, isFill]
theorem isDictOf_nodup {prog : Program} {w : World} {o : Obj} {kvs : List (Str × Value)} (h : o.IsDictOf (strKind prog w) kvs) : (kvs.map (·.1)).Nodup := by
  refine exC2 h ?_; (try clear h); intro es ep hR; refine anC5 hR ?_; clear hR; intro a b c d e
  exact e
theorem WsAre.keys : ∀ {kvs : List (Str × Value)} {ws : Ws}, WsAre kvs ws → kvs.map (·.1) = ws.map (·.1)
  | [], [], _ => rfl
  | [], _ :: _, h => h.elim
  | _ :: _, [], h => h.elim
  | _ :: _, _ :: _, h => by rw [List.map_cons, List.map_cons, h.1.1, WsAre.keys h.2]
inductive GwInv (w : World) (ws : Ws) (f : Addr) (m₀ : Str → Option Value) (base : Led) (xs : List Itm) (m : Str → Option Value) (news : Led) : Prop
  | mk (kv2 : List (Str × Value)) (ws2 dn : Ws) (kva : List (Str × Value)) (of' : Obj) (x : Option Value) (q1 : xs = kv2.map (fun p => Itm.tok (kyVal (PyData.str p.1)))) (q2 : WsAre kv2 ws2) (q3 : ws = dn ++ ws2) (q4 : of'.IsDictOf (strKind prg w) kva) (q5 : WsAre kva (dn.filter isFill)) (q6 : news = (f, of') :: base) (q7 : m = (fun z => if z = S "name" then x else m₀ z))
theorem gw_init {w : World} {ws : Ws} {kvs : List (Str × Value)} {f : Addr} {o : Obj} {m : Str → Option Value} {base : Led} (h : WsAre kvs ws) (hd : o.IsDictOf (strKind prg w) []) :
    GwInv w ws f m base (kvs.map (fun p => Itm.tok (kyVal (PyData.str p.1)))) m ((f, o) :: base) :=
  ⟨kvs, ws, [], [], o, m (S "name"), rfl, h, rfl, hd, trivial, rfl, by funext z; by_cases hz : z = S "name" <;> simp [hz]⟩
section
theorem kw_gw1 : True := by
  (k_with "gw1" => first | (k_here; (rename Fr _ _ _ _ => lF'); (with_unfolding_all refine' For_turns lF' ?_); k_whole) | fail)
  (k_with "gw2" => first | (k_here; (with_reducible refine (?_ : wpAny _ _ (pyIter (Value.ref _)) (fun it s₂ => TurnsAt _ _ _ _ _ _ _ _ _ it s₂) _ _)); (rename Fr _ _ _ _ => lF'); (rename News _ _ _ _ => lN'); k_dflt (refine' kta_keys (knd := PySem.strKind _ _) (enc := PyData.str) rfl lF' lN' ?km_gw2 ?kd_gw2 ?lo_gw2 (fun _ _ h => Value.isStrOf_shape h) rfl ?_; (case km_gw2 => k_mem); (case kd_gw2 => k_asm); (case lo_gw2 => k_asm)); clear lF' lN'; intro i' l1; (try k_lt l1)) | fail)
  (k_with "gw3" => first | (exact ⟨by k_mem, trivial⟩) | fail)
  (k_with "gw4" => first | (k_here; (with_reducible refine (?_ : wpAny _ _ (compareOp _ _ (Value.ref 225)) _ _ _)); k_dflt (first | (refine' tup_notin (ns := [S "x", S "y", S "width", S "height", S "href", S "xlink:href", S "transform", S "id"]) (b := true) ?hx_gw4 ?hs_gw4 ?hb_gw4 ?_; (case hx_gw4 => exact kun_topT (by k_asm) (by k_asm) (by k_is)); (case hs_gw4 => (repeat' (first | exact trivial | refine And.intro ⟨_, rfl⟩ ?_))); (case hb_gw4 => assumption)) | (refine' tup_notin (ns := [S "x", S "y", S "width", S "height", S "href", S "xlink:href", S "transform", S "id"]) (b := false) ?hx_gw4 ?hs_gw4 ?hb_gw4 ?_; (case hx_gw4 => exact kun_topT (by k_asm) (by k_asm) (by k_is)); (case hs_gw4 => (repeat' (first | exact trivial | refine And.intro ⟨_, rfl⟩ ?_))); (case hb_gw4 => decide +kernel))); (try dsimp only [Bool.not_true, Bool.not_false])) | fail)
  (k_with "gw5" => first | (k_here; (with_reducible refine (?_ : wpAny _ _ (call (Value.ref 282) _) _ _ _)); (try ((fail_if_success (fail_if_success k_fold)); (refine fold1 ?_); intro qk)); k_dflt (refine' Call.use (c_place ?mx_gw5 ?mdx_gw5 ?md_gw5 ?hd_gw5 ?hw_gw5 ?hlo_gw5 ?hy_gw5 ?hyl_gw5) ?k1_gw5 ?k2_gw5 ?k3_gw5 ?k4_gw5 ?k5_gw5 ?k6_gw5 ?kd_gw5 ?ku_gw5 (fun _ h => h) ?_; (case k1_gw5 => k_asm); (case k2_gw5 => k_asm); (case k3_gw5 => k_asm); (case k4_gw5 => k_asm); (case k5_gw5 => k_asm); (case k6_gw5 => first | exact rfl | assumption); (case kd_gw5 => ktr_room); (case ku_gw5 => ktr_units); (case mx_gw5 => k_mem); (case mdx_gw5 => k_mem); (case md_gw5 => k_mem); (case hd_gw5 => assumption); (case hw_gw5 => assumption); (case hlo_gw5 => assumption); (case hy_gw5 => assumption); (case hyl_gw5 => assumption); k_whole); (k_dflt (refine' ret_str ?_)); intro t9 tl9 h9 tk9 F9 N9 g09; (try k_sweep); (try dsimp only); (try k_fold)) | fail)
  (k_with "gw6" => first | (k_here; (with_reducible refine (?_ : wpAny _ _ (call (Value.ref 282) [_, Value.str (Str.ofString "y") _]) _ _ _)); k_dflt (refine' CallX.use (place_p ?mx_gw6 ?mdx_gw6 ?md_gw6 ?hd_gw6 ?hlo_gw6 ?hv_gw6) ?k1_gw6 ?k2_gw6 ?k3_gw6 ?k4_gw6 ?k5_gw6 ?k6_gw6 ?kd_gw6 ?ku_gw6 (fun _ h => h) ?r1_gw6 ?r2_gw6; (case hv_gw6 => assumption); (case k1_gw6 => k_asm); (case k2_gw6 => k_asm); (case k3_gw6 => k_asm); (case k4_gw6 => k_asm); (case k5_gw6 => k_asm); (case k6_gw6 => first | exact rfl | assumption); (case kd_gw6 => ktr_room); (case ku_gw6 => ktr_units); (case mx_gw6 => k_mem); (case mdx_gw6 => k_mem); (case md_gw6 => k_mem); (case hd_gw6 => assumption); (case hlo_gw6 => assumption); (case r1_gw6 => exact fun _ _ _ _ _ _ h => h.elim); k_whole); intro ea9 C9 t9 vs9 h9 tk9 G9 F9 U9 R9 b9; subst b9; (try k_sweep); (try dsimp only)) | fail)
  (k_with "gw7" => first | (k_here; (refine' KXadd.add (K := 200) (L := 200) ?kxaa_gw7 ?kxab_gw7 ?kxac_gw7 ?_; (case kxaa_gw7 => (first | (refine' len_le ?lh_gw7 ?lb_gw7; (case lh_gw7 => k_extra "ll"); (case lb_gw7 => first | rfl | decide +kernel)) | ((try simp only [PySem.Str.length_append]); omega))); (case kxab_gw7 => (first | (refine' len_le ?lh_gw7 ?lb_gw7; (case lh_gw7 => k_extra "ll"); (case lb_gw7 => first | rfl | decide +kernel)) | ((try simp only [PySem.Str.length_append]); omega))); (case kxac_gw7 => exact Nat.le_of_ble_eq_true rfl)); intro _ _ _; (try dsimp only)) | fail)
  (k_with "gw8" => first | (k_here; (refine' KXw.strip ?e_gw8 ?z_gw8 ?_; (case e_gw8 => assumption); (case z_gw8 => refine Nat.le_trans (m := 200) ?_ (by decide); (first | (refine' len_le ?lh_gw8 ?lb_gw8; (case lh_gw8 => k_extra "ll"); (case lb_gw8 => first | rfl | decide +kernel)) | ((try simp only [PySem.Str.length_append]); omega)))); intro _ _; (try dsimp only)) | fail)
  trivial
theorem gw_fin {w : World} {h₀ h : Heap} {L f : Addr} {all a b : Led} {o of' : Obj} {kvs : List (Str × Value)} {ws : Ws} {z : Str}
    (N : News h₀ L h (b ++ (a ++ (f, o) :: all))) (q : AllLt f all) (fa : Fresh ((f, of') :: all) a) (fb : Fresh (a ++ (f, of') :: all) b) (hd : o.IsDictOf (strKind prg w) kvs) (hw : WsAre kvs (wsPut (ws.filter isFill) (S "transform") z)) (lo : (f == sysModules) = false) (hz : turnS ws = z) :
    ∃ D', News h₀ L h D' ∧ ∃ f' tl, Value.ref f = .ref f' ∧ D' = tl ++ all ∧ Fresh all tl ∧ DictIn w tl f' (groupWs ws) := by
  refine ⟨(b ++ (a ++ [(f, o)])) ++ all, by simpa only [List.append_assoc, List.cons_append, List.nil_append] using N, f, _, rfl, rfl, ?_, o, kvs, ?_, hd, ?_, lo⟩
  · exact fresh_app (fb.sub fun p hp => List.mem_append_right _ (.tail _ hp)) (fresh_app (fa.sub sub_cons) (fresh_cons q fresh_nil))
  · exact List.mem_append_right _ (List.mem_append_right _ (.head _))
  · have e : wsPut (ws.filter isFill) (S "transform") z = groupWs ws := by
      unfold wsPut groupWs
      rw [if_neg, hz]
      · rfl
      · intro hh
        obtain ⟨p, hp, e⟩ := List.any_eq_true.mp hh
        have e1 : p.1 = S "transform" := by simpa using e
        have e2 : p.1 = S "fill" := by have := (List.mem_filter.mp hp).2; unfold isFill at this; simpa using this
        rw [e1] at e2
        exact absurd e2 (by decide)
    exact e ▸ hw
theorem gw_ok {w : World} {all : Led} {x dx d l : Addr} {nn : Nat} {o : Obj} {kvs : List (Str × Value)} {ws : Ws} {name text px py z : Str} {h1 h2 h3 h4 : Int} {t1 t2 t3 t4 tn tt : Tok} {tr : Option Str}
    (mx : (x, instObj 203 dx) ∈ all) (mdx : (dx, dictOf [⟨h1, .str (S "name") t1, .str name tn⟩, ⟨h2, .str (S "attributes") t2, .ref d⟩, ⟨h3, .str (S "children") t3, .ref l⟩, ⟨h4, .str (S "text") t4, .str text tt⟩] nn) ∈ all)
    (md : (d, o) ∈ all) (hd : o.IsDictOf (strKind prg w) kvs) (hw : WsAre kvs ws) (hlo : (d == sysModules) = false) (ok : WsOk ws)
    (hyx : getOr ws (S "x") (S "0") = px) (hxl : px = S "0" ∨ px = S "3" ∨ px = S "7" ∨ px = S "-2") (hyy : getOr ws (S "y") (S "0") = py) (hyl : py = S "0" ∨ py = S "3" ∨ py = S "7" ∨ py = S "-2") (htr : wsGet ws (S "transform") = tr) (hz : ws.length ≤ 16)
    (hst : Txt.strip ((tr.getD (S "") ++ S " ") ++ ((((S "translate(" ++ px) ++ S " ") ++ py) ++ S ")")) = z) (hlt : (tr.getD (S "")).length ≤ 20) (hlx : px.length ≤ 4) (hly : py.length ≤ 4) (hzz : turnS ws = z) :
    Call w 44 275 [.ref x] all fun v D' => ∃ f tl, v = .ref f ∧ D' = tl ++ all ∧ Fresh all tl ∧ DictIn w tl f (groupWs ws) := by
  constructor
  intro dp un gd cn cs a ccd cl outer A₀ base h₀ L m sh sg sd st so mean mg mb Q E B F X N T hk hdp hun ret
  skip
  refine wpAny_call ?_
  k_dflt ktr_enter
  (repeat' (first | k_extra "sa" | k_extra "b83" | k_extra "b84" | k_extra "b10" | k_extra "b85" | k_extra "b2" | k_extra "sz"))
  refine' items_ind (GwInv w ws _ _ _) ?zs ?zd ?zi
  case zi => exact gw_init hw (by assumption)
  case zs =>
    intro a r m1 news hI9 v h tk hv F3; (with_reducible refine (?_ : (let lG : Prop := _; lG))); intro lG; obtain ⟨kv2, ws2, dn, kva, of', x0, hxs, hw2, hws, hdf, hwa, rfl, rfl⟩ := hI9; k_unfold; clear lG
    cases kv2 with
    | nil => cases hxs
    | cons p kr =>
    cases ws2 with
    | nil => exact hw2.elim
    | cons q wr =>
    obtain ⟨⟨hk1, tv, hv2⟩, hw3⟩ := hw2
    rw [List.map_cons, List.cons.injEq] at hxs
    obtain ⟨rfl, rfl⟩ := hxs
    obtain ⟨t, rfl⟩ := hv
    obtain ⟨pk, pv⟩ := p
    obtain ⟨qk, qv⟩ := q
    dsimp only at hk1 hv2
    subst hk1 hv2
    intro oI hI N3
    simp only [List.cons_append, List.nil_append] at N3
    dsimp only [kyVal]
    have hent : EntOk pk qv := ok (pk, qv) (hws ▸ List.mem_append_right _ (.head _))
    by_cases hfill : pk = S "fill"
    · subst hfill
      have nd : (ws.map (·.1)).Nodup := hw.keys ▸ isDictOf_nodup hd
      obtain ⟨g1, g2⟩ := fill_step (hws ▸ nd)
      have hz1 : (dn.filter isFill).length ≤ 100 := by have a1 := List.length_filter_le isFill dn; have a2 := congrArg List.length hws; rw [List.length_append] at a2; omega
      have hget : wsGet ws (S "fill") = some qv := by rw [hws]; exact g1
      (repeat' (first | k_extra "sa" | k_extra "b86" | k_extra "b28" | k_extra "b10" | k_extra "b13" | k_extra "b31" | k_extra "b1" | k_extra "b32" | k_extra "b2" | k_extra "b24" | k_extra "b87" | k_extra "sz"))
      exact ⟨kr, wr, dn ++ [(S "fill", qv)], _, _, some (.str (S "fill") t), rfl, hw3, by rw [hws, List.append_assoc]; rfl, by assumption, by rw [← g2]; assumption, rfl, by funext z; by_cases hz : z = S "name" <;> simp +zetaDelta [hz] <;> rfl⟩
    · have hany : ([S "x", S "y", S "width", S "height", S "href", S "xlink:href", S "transform", S "id"].any fun z => z == pk) = true := by
        rcases hent with ⟨rfl, _⟩ | ⟨rfl, _⟩ | ⟨rfl, _⟩ | ⟨rfl, _⟩ | ⟨rfl, _⟩ | rfl | rfl | rfl | rfl <;> first | rfl | exact absurd rfl hfill
      (repeat' (first | k_extra "sa" | k_extra "b86" | k_extra "b13" | k_extra "b2" | k_extra "b24" | k_extra "b87" | k_extra "sz"))
      have hfil : (dn ++ [(pk, qv)]).filter isFill = dn.filter isFill := by
        rw [List.filter_append, List.filter_cons_of_neg (by unfold isFill; simpa using hfill), List.filter_nil, List.append_nil]
      exact ⟨kr, wr, dn ++ [(pk, qv)], kva, of', some (.str pk t), rfl, hw3, by rw [hws, List.append_assoc]; rfl, hdf, hfil.symm ▸ hwa, rfl, by funext z; by_cases hz : z = S "name" <;> simp +zetaDelta [hz] <;> rfl⟩
  case zd =>
    intro m1 news hI9 h tk F3 N3; (with_reducible refine (?_ : (let lG : Prop := _; lG))); intro lG; obtain ⟨kv2, ws2, dn, kva, of', x0, hxs, hw2, hws, hdf, hwa, rfl, rfl⟩ := hI9; k_unfold; clear lG
    have hk2 : kv2 = [] := List.map_eq_nil_iff.mp hxs.symm
    subst hk2
    have hw0 : ws2 = [] := by cases ws2 with
      | nil => rfl
      | cons => exact hw2.elim
    subst hw0
    rw [List.append_nil] at hws
    subst hws
    have hl1 : (Str.ofString "translate(").length = 10 := by decide +kernel
    have hl2 : (Str.ofString " ").length = 1 := by decide +kernel
    have hl3 : (Str.ofString ")").length = 1 := by decide +kernel
    have hl4 : (Str.ofString "").length = 0 := by decide +kernel
    have hz1 : (ws.filter isFill).length ≤ 100 := by have a1 := List.length_filter_le isFill ws; omega
    cases tr with
    | none =>
      have hvt := hw.none htr
      dsimp only [Option.getD] at hst hlt
      (repeat' (first | k_extra "sa" | k_extra "b88" | k_extra "b28" | k_extra "b0" | k_extra "b10" | k_extra "b89" | k_extra "b90" | k_extra "b5" | k_extra "b1" | k_extra "b19" | k_extra "b20" | k_extra "b22" | k_extra "b23" | k_extra "b2" | k_extra "sz"))
      obtain ⟨D', hN, hP⟩ := gw_fin (by assumption) (by ktr_rel) (by assumption) (by assumption) (by assumption) (by assumption) (by assumption) hzz
      exact ret _ _ _ D' (by k_asm) hN hP
    | some v =>
      obtain ⟨tvt, hvt⟩ := hw.some htr
      dsimp only [Option.getD] at hst hlt
      (repeat' (first | k_extra "sa" | k_extra "b88" | k_extra "b28" | k_extra "b0" | k_extra "b10" | k_extra "b89" | k_extra "b90" | k_extra "b5" | k_extra "b1" | k_extra "b19" | k_extra "b20" | k_extra "b22" | k_extra "b23" | k_extra "b2" | k_extra "sz"))
      obtain ⟨D', hN, hP⟩ := gw_fin (by assumption) (by ktr_rel) (by assumption) (by assumption) (by assumption) (by assumption) (by assumption) hzz
      exact ret _ _ _ D' (by k_asm) hN hP
theorem gw_bad {w : World} {all : Led} {x dx d l : Addr} {nn : Nat} {o : Obj} {kvs : List (Str × Value)} {ws : Ws} {name text px : Str} {h1 h2 h3 h4 : Int} {t1 t2 t3 t4 tn tt : Tok}
    (mx : (x, instObj 203 dx) ∈ all) (mdx : (dx, dictOf [⟨h1, .str (S "name") t1, .str name tn⟩, ⟨h2, .str (S "attributes") t2, .ref d⟩, ⟨h3, .str (S "children") t3, .ref l⟩, ⟨h4, .str (S "text") t4, .str text tt⟩] nn) ∈ all)
    (md : (d, o) ∈ all) (hd : o.IsDictOf (strKind prg w) kvs) (hw : WsAre kvs ws) (hlo : (d == sysModules) = false) (ok : WsOk ws)
    (hyx : getOr ws (S "x") (S "0") = px) (hxl : px = S "0" ∨ px = S "3" ∨ px = S "7" ∨ px = S "-2") {tv : Tok} (hv : valueAt kvs (S "y") = some (.str (S "50%") tv)) (hz : ws.length ≤ 16) (hlx : px.length ≤ 4) :
    CallX w 44 275 [.ref x] all all (fun _ _ => False) (fun C => C = 63) := by
  constructor
  intro dp un gd cn cs a ccd cl outer A₀ base h₀ L m sh sg sd st so mean mg mb Q E B F X N T hk hdp hun ret exc
  skip
  refine wpAny_call ?_
  k_dflt ktr_enter
  (repeat' (first | k_extra "sa" | k_extra "b83" | k_extra "b84" | k_extra "b10" | k_extra "b85" | k_extra "b2" | k_extra "sz"))
  refine' items_ind (GwInv w ws _ _ _) ?zs ?zd ?zi
  case zi => exact gw_init hw (by assumption)
  case zs =>
    intro a r m1 news hI9 v h tk hv F3; (with_reducible refine (?_ : (let lG : Prop := _; lG))); intro lG; obtain ⟨kv2, ws2, dn, kva, of', x0, hxs, hw2, hws, hdf, hwa, rfl, rfl⟩ := hI9; k_unfold; clear lG
    cases kv2 with
    | nil => cases hxs
    | cons p kr =>
    cases ws2 with
    | nil => exact hw2.elim
    | cons q wr =>
    obtain ⟨⟨hk1, tv, hv2⟩, hw3⟩ := hw2
    rw [List.map_cons, List.cons.injEq] at hxs
    obtain ⟨rfl, rfl⟩ := hxs
    obtain ⟨t, rfl⟩ := hv
    obtain ⟨pk, pv⟩ := p
    obtain ⟨qk, qv⟩ := q
    dsimp only at hk1 hv2
    subst hk1 hv2
    intro oI hI N3
    simp only [List.cons_append, List.nil_append] at N3
    dsimp only [kyVal]
    have hent : EntOk pk qv := ok (pk, qv) (hws ▸ List.mem_append_right _ (.head _))
    by_cases hfill : pk = S "fill"
    · subst hfill
      have nd : (ws.map (·.1)).Nodup := hw.keys ▸ isDictOf_nodup hd
      obtain ⟨g1, g2⟩ := fill_step (hws ▸ nd)
      have hz1 : (dn.filter isFill).length ≤ 100 := by have a1 := List.length_filter_le isFill dn; have a2 := congrArg List.length hws; rw [List.length_append] at a2; omega
      have hget : wsGet ws (S "fill") = some qv := by rw [hws]; exact g1
      (repeat' (first | k_extra "sa" | k_extra "b86" | k_extra "b28" | k_extra "b10" | k_extra "b13" | k_extra "b31" | k_extra "b1" | k_extra "b32" | k_extra "b2" | k_extra "b24" | k_extra "b87" | k_extra "sz"))
      exact ⟨kr, wr, dn ++ [(S "fill", qv)], _, _, some (.str (S "fill") t), rfl, hw3, by rw [hws, List.append_assoc]; rfl, by assumption, by rw [← g2]; assumption, rfl, by funext z; by_cases hz : z = S "name" <;> simp +zetaDelta [hz] <;> rfl⟩
    · have hany : ([S "x", S "y", S "width", S "height", S "href", S "xlink:href", S "transform", S "id"].any fun z => z == pk) = true := by
        rcases hent with ⟨rfl, _⟩ | ⟨rfl, _⟩ | ⟨rfl, _⟩ | ⟨rfl, _⟩ | ⟨rfl, _⟩ | rfl | rfl | rfl | rfl <;> first | rfl | exact absurd rfl hfill
      (repeat' (first | k_extra "sa" | k_extra "b86" | k_extra "b13" | k_extra "b2" | k_extra "b24" | k_extra "b87" | k_extra "sz"))
      have hfil : (dn ++ [(pk, qv)]).filter isFill = dn.filter isFill := by
        rw [List.filter_append, List.filter_cons_of_neg (by unfold isFill; simpa using hfill), List.filter_nil, List.append_nil]
      exact ⟨kr, wr, dn ++ [(pk, qv)], kva, of', some (.str pk t), rfl, hw3, by rw [hws, List.append_assoc]; rfl, hdf, hfil.symm ▸ hwa, rfl, by funext z; by_cases hz : z = S "name" <;> simp +zetaDelta [hz] <;> rfl⟩
  case zd =>
    intro m1 news hI9 h tk F3 N3; (with_reducible refine (?_ : (let lG : Prop := _; lG))); intro lG; obtain ⟨kv2, ws2, dn, kva, of', x0, hxs, hw2, hws, hdf, hwa, rfl, rfl⟩ := hI9; k_unfold; clear lG
    have hk2 : kv2 = [] := List.map_eq_nil_iff.mp hxs.symm
    subst hk2
    have hw0 : ws2 = [] := by cases ws2 with
      | nil => rfl
      | cons => exact hw2.elim
    subst hw0
    rw [List.append_nil] at hws
    subst hws
    have hl1 : (Str.ofString "translate(").length = 10 := by decide +kernel
    have hl2 : (Str.ofString " ").length = 1 := by decide +kernel
    (repeat' (first | k_extra "sa" | k_extra "b88" | k_extra "b91" | k_extra "b11" | k_extra "b5" | k_extra "sz"))
    refine exc _ _ _ _ _ _ _ (by assumption) (by assumption) (raisedS_sub (by assumption) (fun p hp => ?_)) rfl
    exact List.mem_append_right _ (.tail _ hp)
end
theorem WsOk.look {ws : Ws} {k v : Str} (ok : WsOk ws) (h : wsGet ws k = some v) : EntOk k v := by
  unfold wsGet at h
  cases hf : ws.find? (fun p => p.1 = k) with
  | none => rw [hf] at h; cases h
  | some p =>
    rw [hf] at h
    cases h
    have h1 := List.find?_some hf
    have h2 := ok p (List.mem_of_find?_eq_some hf)
    have h3 : p.1 = k := by simpa using h1
    rw [h3] at h2
    exact h2
theorem ent_x {v : Str} (h : EntOk (S "x") v) : v = S "3" ∨ v = S "-2" ∨ v = S "0" := by
  rcases h with ⟨e, _⟩ | ⟨e, _⟩ | ⟨_, h⟩ | ⟨e, _⟩ | ⟨e, _⟩ | e | e | e | e
  · exact absurd e (by decide)
  · exact absurd e (by decide)
  · exact h
  all_goals exact absurd e (by decide)
theorem ent_y {v : Str} (h : EntOk (S "y") v) : v = S "7" ∨ v = S "50%" := by
  rcases h with ⟨e, _⟩ | ⟨e, _⟩ | ⟨e, _⟩ | ⟨_, h⟩ | ⟨e, _⟩ | e | e | e | e
  · exact absurd e (by decide)
  · exact absurd e (by decide)
  · exact absurd e (by decide)
  · exact h
  all_goals exact absurd e (by decide)
theorem ent_t {v : Str} (h : EntOk (S "transform") v) : v = S "scale(2)" := by
  rcases h with ⟨e, _⟩ | ⟨e, _⟩ | ⟨e, _⟩ | ⟨e, _⟩ | ⟨_, h⟩ | e | e | e | e
  · exact absurd e (by decide)
  · exact absurd e (by decide)
  · exact absurd e (by decide)
  · exact absurd e (by decide)
  · exact h
  all_goals exact absurd e (by decide)
theorem c_gw {w : World} {all : Led} {x dx d l : Addr} {nn : Nat} {ws : Ws} {name text : Str} {h1 h2 h3 h4 : Int} {t1 t2 t3 t4 tn tt : Tok}
    (mx : (x, instObj 203 dx) ∈ all) (mdx : (dx, dictOf [⟨h1, .str (S "name") t1, .str name tn⟩, ⟨h2, .str (S "attributes") t2, .ref d⟩, ⟨h3, .str (S "children") t3, .ref l⟩, ⟨h4, .str (S "text") t4, .str text tt⟩] nn) ∈ all)
    (md : DictIn w all d ws) (ok : WsOk ws) (hz : ws.length ≤ 16) :
    CallX w 44 275 [.ref x] all all (fun v D' => bad50 ws = false ∧ ∃ f tl, v = .ref f ∧ D' = tl ++ all ∧ Fresh all tl ∧ DictIn w tl f (groupWs ws)) (fun C => C = 63 ∧ bad50 ws = true) := by
  (with_reducible refine (?_ : (let lG : Prop := _; lG))); intro lG; obtain ⟨o, kvs, mo, hd, hw, hlo⟩ := md; k_unfold; clear lG
  have hx : ∃ px, getOr ws (S "x") (S "0") = px ∧ (px = S "3" ∨ px = S "-2" ∨ px = S "0") := by
    unfold getOr
    cases hg : wsGet ws (S "x") with
    | none => exact ⟨_, rfl, .inr (.inr rfl)⟩
    | some v => exact ⟨v, rfl, ent_x (ok.look hg)⟩
  obtain ⟨px, hpx, hxl⟩ := hx
  have hxl' : px = S "0" ∨ px = S "3" ∨ px = S "7" ∨ px = S "-2" := by
    rcases hxl with h | h | h
    · exact .inr (.inl h)
    · exact .inr (.inr (.inr h))
    · exact .inl h
  by_cases hb : wsGet ws (S "y") = some (S "50%")
  · obtain ⟨tv, hv⟩ := hw.some hb
    have C := gw_bad mx mdx mo hd hw hlo ok hpx hxl' hv hz (by rcases hxl with rfl | rfl | rfl <;> decide +kernel)
    constructor
    intro dp un gd cn cs a ccd cl outer A₀ base h₀ L m sh sg sd st so mean mg mb Q E B F X N T hk hdp hun ret exc
    exact C.run B F X N T hk hdp hun (fun _ _ _ _ _ _ h => h.elim) fun ea C t vs h' tk' G FG U R hC => exc ea C t vs h' tk' G FG U R ⟨hC, by unfold bad50; rw [hb]; decide +kernel⟩
  · have hy : ∃ py, getOr ws (S "y") (S "0") = py ∧ (py = S "7" ∨ py = S "0") := by
      unfold getOr
      cases hg : wsGet ws (S "y") with
      | none => exact ⟨_, rfl, .inr rfl⟩
      | some v =>
        rcases ent_y (ok.look hg) with h | h
        · exact ⟨v, rfl, .inl h⟩
        · exact absurd (h ▸ hg) hb
    obtain ⟨py, hpy, hyl⟩ := hy
    have hyl' : py = S "0" ∨ py = S "3" ∨ py = S "7" ∨ py = S "-2" := by
      rcases hyl with h | h
      · exact .inr (.inr (.inl h))
      · exact .inl h
    have htr : ∃ tr, wsGet ws (S "transform") = tr ∧ (tr = none ∨ tr = some (S "scale(2)")) := by
      cases hg : wsGet ws (S "transform") with
      | none => exact ⟨_, rfl, .inl rfl⟩
      | some v => exact ⟨_, rfl, .inr (by rw [ent_t (ok.look hg)])⟩
    obtain ⟨tr, htr, htl⟩ := htr
    have hst : Txt.strip ((tr.getD (S "") ++ S " ") ++ ((((S "translate(" ++ px) ++ S " ") ++ py) ++ S ")")) = turnS ws := by
      unfold turnS placeS
      rw [hpx, hpy, htr]
      rcases htl with rfl | rfl <;> rcases hxl with rfl | rfl | rfl <;> rcases hyl with rfl | rfl <;> decide +kernel
    have C := gw_ok mx mdx mo hd hw hlo ok hpx hxl' hpy hyl' htr hz hst (by rcases htl with rfl | rfl <;> decide +kernel) (by rcases hxl with rfl | rfl | rfl <;> decide +kernel) (by rcases hyl with rfl | rfl <;> decide +kernel) rfl
    constructor
    intro dp un gd cn cs a ccd cl outer A₀ base h₀ L m sh sg sd st so mean mg mb Q E B F X N T hk hdp hun ret exc
    exact C.run B F X N T hk hdp hun fun v h' tk' D' F' N' h => ret v h' tk' D' F' N' ⟨by unfold bad50; simpa using hb, h⟩
end

theorem reset_grp : True := by
  (w_top off)
  (k_with "b92" => first | ((with_reducible refine (?_ : wpAny _ _ (call (Value.ref _) _) _ _ _)); first | (with_reducible (k_extra "grp4")) | (with_reducible (k_extra "comp:3")) | fail) | fail)
  (k_with "b93" => first | ((with_reducible refine (?_ : wpAny _ _ (compareOp CmpOp.NotIn (Value.str _ _) (Value.ref _)) _ _ _)); first | (with_reducible (k_extra "lem:6")) | fail) | fail)
  (k_with "b94" => first | ((with_reducible refine (?_ : wpAny _ _ (call (Value.ref _) _) _ _ _)); first | (with_reducible (k_extra "grp5")) | (with_reducible (k_extra "comp:3")) | fail) | fail)
  (k_with "b95" => first | ((with_reducible refine (?_ : wpAny _ _ (compareOp CmpOp.In (Value.str _ _) (Value.ref _)) _ _ _)); first | (with_reducible (k_extra "grp6")) | fail) | fail)
  (k_with "b96" => first | ((with_reducible refine (?_ : wpAny _ _ (call (Value.ref _) _) _ _ _)); first | (with_reducible (k_extra "grp5")) | (with_reducible (k_extra "comp:2")) | fail) | fail)
  (k_with "b97" => first | ((with_reducible refine (?_ : wpAny _ _ (call (Value.builtin "len") _) _ _ _)); first | (with_reducible (k_extra "grp7")) | fail) | fail)
  trivial
section
-- part grp
noncomputable def goRes (ws : Ws) : Res × Nat → Res × Nat
  | (.ok t', made') => if bad50 ws then (.sheet, made') else (.ok (.mk (S "g") (groupWs ws) [t'] (S "")), made')
  | e => e
noncomputable def grpR (ids : List (Str × T)) (most n : Nat) (ws : Ws) (names : List Str) (made : Nat) : Res × Nat :=
  match linkName ws with
  | none => (.sheet, made)
  | some nm => match lookT ids nm with
    | none => (.sheet, made)
    | some tgt => if nm ∈ names ∨ 12 ≤ names.length then (.limit, made)
      else goRes ws (putF ids most n (framedT ws tgt) (names ++ [nm]) made)
theorem grpR_none {ids : List (Str × T)} {most n : Nat} {ws : Ws} {names : List Str} {made : Nat} (h : linkName ws = none) : grpR ids most n ws names made = (.sheet, made) := by unfold grpR; rw [h]
theorem grpR_miss {ids : List (Str × T)} {most n : Nat} {ws : Ws} {names : List Str} {made : Nat} {nm : Str} (h : linkName ws = some nm) (h2 : lookT ids nm = none) : grpR ids most n ws names made = (.sheet, made) := by unfold grpR; rw [h]; dsimp only; rw [h2]
theorem grpR_lim {ids : List (Str × T)} {most n : Nat} {ws : Ws} {names : List Str} {made : Nat} {nm : Str} {tgt : T} (h : linkName ws = some nm) (h2 : lookT ids nm = some tgt) (h3 : nm ∈ names ∨ 12 ≤ names.length) : grpR ids most n ws names made = (.limit, made) := by unfold grpR; rw [h]; dsimp only; rw [h2]; dsimp only; rw [if_pos h3]
theorem grpR_go {ids : List (Str × T)} {most n : Nat} {ws : Ws} {names : List Str} {made : Nat} {nm : Str} {tgt : T} (h : linkName ws = some nm) (h2 : lookT ids nm = some tgt) (h3 : ¬ (nm ∈ names ∨ 12 ≤ names.length)) :
    grpR ids most n ws names made = goRes ws (putF ids most n (framedT ws tgt) (names ++ [nm]) made) := by unfold grpR; rw [h]; dsimp only; rw [h2]; dsimp only; rw [if_neg h3]
theorem c_linkN {w : World} {all : Led} {x dx d l : Addr} {nn : Nat} {o : Obj} {kvs : List (Str × Value)} {ws : Ws} {name text : Str} {h1 h2 h3 h4 : Int} {t1 t2 t3 t4 tn tt : Tok}
    (mx : (x, instObj 203 dx) ∈ all) (mdx : (dx, dictOf [⟨h1, .str (S "name") t1, .str name tn⟩, ⟨h2, .str (S "attributes") t2, .ref d⟩, ⟨h3, .str (S "children") t3, .ref l⟩, ⟨h4, .str (S "text") t4, .str text tt⟩] nn) ∈ all)
    (md : (d, o) ∈ all) (hd : o.IsDictOf (strKind prg w) kvs) (hw : WsAre kvs ws) (hlo : (d == sysModules) = false) (ok : WsOk ws) (h : linkName ws = none) :
    Call w 4 21 [.ref x] all fun v D' => v = .none ∧ D' = all := by
  have C := c_link mx mdx (fun _ h => h) ⟨o, kvs, md, hd, hw, hlo⟩ ok
  simp only [h] at C
  exact C
theorem c_linkS {w : World} {all : Led} {x dx d l : Addr} {nn : Nat} {o : Obj} {kvs : List (Str × Value)} {ws : Ws} {name text nm : Str} {h1 h2 h3 h4 : Int} {t1 t2 t3 t4 tn tt : Tok}
    (mx : (x, instObj 203 dx) ∈ all) (mdx : (dx, dictOf [⟨h1, .str (S "name") t1, .str name tn⟩, ⟨h2, .str (S "attributes") t2, .ref d⟩, ⟨h3, .str (S "children") t3, .ref l⟩, ⟨h4, .str (S "text") t4, .str text tt⟩] nn) ∈ all)
    (md : (d, o) ∈ all) (hd : o.IsDictOf (strKind prg w) kvs) (hw : WsAre kvs ws) (hlo : (d == sysModules) = false) (ok : WsOk ws) (h : linkName ws = some nm) :
    Call w 4 21 [.ref x] all fun v D' => (∃ t, v = .str nm t) ∧ D' = all := by
  have C := c_link mx mdx (fun _ h => h) ⟨o, kvs, md, hd, hw, hlo⟩ ok
  simp only [h] at C
  exact C
theorem sub_consI {a l : Led} {x : Addr × Obj} (h : ∀ p ∈ a, p ∈ l) : ∀ p ∈ a, p ∈ x :: l := fun p hp => .tail _ (h p hp)
theorem sub_appI {a l b : Led} (h : ∀ p ∈ a, p ∈ l) : ∀ p ∈ a, p ∈ b ++ l := fun p hp => List.mem_append_right _ (h p hp)
section
theorem kw_grp4 : True := by
  (k_with "grp4" => first | (k_here; (with_reducible refine (?_ : wpAny _ _ (call (Value.ref 21) _) _ _ _)); (try ((fail_if_success (fail_if_success k_fold)); (refine fold1 ?_); intro qk)); k_dflt (refine' Call.use (c_linkN ?mx_grp4 ?mdx_grp4 ?md_grp4 ?hd_grp4 ?hw_grp4 ?hlo_grp4 ?ok_grp4 ?h_grp4) ?k1_grp4 ?k2_grp4 ?k3_grp4 ?k4_grp4 ?k5_grp4 ?k6_grp4 ?kd_grp4 ?ku_grp4 (fun _ h => h) ?_; (case k1_grp4 => k_asm); (case k2_grp4 => k_asm); (case k3_grp4 => k_asm); (case k4_grp4 => k_asm); (case k5_grp4 => k_asm); (case k6_grp4 => first | exact rfl | assumption); (case kd_grp4 => ktr_room); (case ku_grp4 => ktr_units); (case mx_grp4 => k_mem); (case mdx_grp4 => k_mem); (case md_grp4 => k_mem); (case hd_grp4 => assumption); (case hw_grp4 => assumption); (case hlo_grp4 => assumption); (case ok_grp4 => assumption); (case h_grp4 => assumption); k_whole); (k_dflt (refine' ret_ed ?_)); intro h9 tk9 F9 N9; (try k_sweep); (try dsimp only); (try k_fold)) | fail)
  (k_with "grp5" => first | (k_here; (with_reducible refine (?_ : wpAny _ _ (call (Value.ref 21) _) _ _ _)); (try ((fail_if_success (fail_if_success k_fold)); (refine fold1 ?_); intro qk)); k_dflt (refine' Call.use (c_linkS ?mx_grp5 ?mdx_grp5 ?md_grp5 ?hd_grp5 ?hw_grp5 ?hlo_grp5 ?ok_grp5 ?h_grp5) ?k1_grp5 ?k2_grp5 ?k3_grp5 ?k4_grp5 ?k5_grp5 ?k6_grp5 ?kd_grp5 ?ku_grp5 (fun _ h => h) ?_; (case k1_grp5 => k_asm); (case k2_grp5 => k_asm); (case k3_grp5 => k_asm); (case k4_grp5 => k_asm); (case k5_grp5 => k_asm); (case k6_grp5 => first | exact rfl | assumption); (case kd_grp5 => ktr_room); (case ku_grp5 => ktr_units); (case mx_grp5 => k_mem); (case mdx_grp5 => k_mem); (case md_grp5 => k_mem); (case hd_grp5 => assumption); (case hw_grp5 => assumption); (case hlo_grp5 => assumption); (case ok_grp5 => assumption); (case h_grp5 => assumption); k_whole); (k_dflt (refine' ret_ted ?_)); intro t9 h9 tk9 F9 N9; (try k_sweep); (try dsimp only); (try k_fold)) | fail)
  (k_with "grp6" => first | (k_here; (rename TupK _ _ _ _ => lT); (rename StrsV _ _ => lS); k_dflt (refine' tup_in (TupK.is lT ?F_grp6 ?X_grp6 ?N_grp6 ?s_grp6) lS ?hb_grp6 ?_; (case F_grp6 => k_asm); (case X_grp6 => k_asm); (case N_grp6 => k_asm); (case s_grp6 => ((repeat' (first | exact (fun _ h => h) | assumption | refine sub_consI ?_ | refine sub_appI ?_)))); (case hb_grp6 => assumption))) | fail)
  (k_with "grp7" => first | (k_here; (with_reducible refine (?_ : wpAny _ _ (call (Value.builtin "len") [Value.ref _]) _ _ _)); (rename TupK _ _ _ _ => lT); k_dflt (refine' kun_lenT (TupK.is lT ?F_grp7 ?X_grp7 ?N_grp7 ?s_grp7) ?hk_grp7 ?hz_grp7 ?_; (case F_grp7 => k_asm); (case X_grp7 => k_asm); (case N_grp7 => k_asm); (case s_grp7 => ((repeat' (first | exact (fun _ h => h) | assumption | refine sub_consI ?_ | refine sub_appI ?_)))); (case hk_grp7 => assumption); (case hz_grp7 => omega); k_whole)) | fail)
  trivial
theorem grp_none {w : World} {ids : List (Str × T)} {most n : Nat} {name text : Str} {ws : Ws} {names : List Str} {made : Nat} {nx : Addr} {D all : Led} {u ud idd x dx d l : Addr} {o od : Obj} {kvs : List (Str × Value)} {g1 g2 g3 g4 : Int} {s1 s2 s3 s4 tn tt : Tok} {nn : Nat}
    (mx : (x, instObj 203 dx) ∈ all) (mdx : (dx, dictOf [⟨g1, .str (S "name") s1, .str name tn⟩, ⟨g2, .str (S "attributes") s2, .ref d⟩, ⟨g3, .str (S "children") s3, .ref l⟩, ⟨g4, .str (S "text") s4, .str text tt⟩] nn) ∈ all)
    (mo : (d, od) ∈ all) (hd : od.IsDictOf (strKind prg w) kvs) (hw : WsAre kvs ws) (hlo : (d == sysModules) = false) (ok : WsOk ws) (hU : UsesOk o idd most made) (mu : (u, instObj 264 ud) ∈ all) (hl : linkName ws = none) :
    CallX w (6 * n + 63) 261 [.ref u, .ref x, .ref nx] ((ud, o) :: all) all (PutPost w ud idd most o D all (grpR ids most n ws names made)) (PutBad (grpR ids most n ws names made)) := by
  (with_reducible refine (?_ : (let lG : Prop := _; lG))); intro lG; obtain ⟨h1, h2, h3, t1, t2, t3, t4, t5, rfl⟩ := id hU; k_unfold; clear lG
  rw [grpR_none hl]
  constructor
  intro dp un gd cn cs a ccd cl outer A₀ base h₀ L m sh sg sd st so mean mg mb Q E B F X N T hk hdp hun ret exc
  skip
  refine wpAny_call ?_
  k_dflt ktr_enter
  (repeat' (first | k_extra "sa" | k_extra "b9" | k_extra "b92" | k_extra "b11" | k_extra "b5" | k_extra "b1" | k_extra "b2" | k_extra "b24" | k_extra "sz"))
  refine exc _ _ _ _ _ _ _ (by assumption) (by assumption) (raisedS_sub (by assumption) (fun p hp => .tail _ hp)) (.inr ⟨rfl, rfl⟩)
theorem grp_miss {w : World} {ids : List (Str × T)} {most n : Nat} {name text nm : Str} {ws : Ws} {names : List Str} {made : Nat} {nx : Addr} {D all : Led} {u ud idd x dx d l : Addr} {o od oi : Obj} {kvs kvi : List (Str × Value)} {g1 g2 g3 g4 : Int} {s1 s2 s3 s4 tn tt : Tok} {nn : Nat}
    (mx : (x, instObj 203 dx) ∈ all) (mdx : (dx, dictOf [⟨g1, .str (S "name") s1, .str name tn⟩, ⟨g2, .str (S "attributes") s2, .ref d⟩, ⟨g3, .str (S "children") s3, .ref l⟩, ⟨g4, .str (S "text") s4, .str text tt⟩] nn) ∈ all)
    (mo : (d, od) ∈ all) (hd : od.IsDictOf (strKind prg w) kvs) (hw : WsAre kvs ws) (hlo : (d == sysModules) = false) (ok : WsOk ws) (hU : UsesOk o idd most made) (mu : (u, instObj 264 ud) ∈ all)
    (mi : (idd, oi) ∈ all) (hi : oi.IsDictOf (strKind prg w) kvi) (hio : (idd == sysModules) = false) (hl : linkName ws = some nm) (hk0 : lookT ids nm = none) (hv : valueAt kvi nm = none) :
    CallX w (6 * n + 63) 261 [.ref u, .ref x, .ref nx] ((ud, o) :: all) all (PutPost w ud idd most o D all (grpR ids most n ws names made)) (PutBad (grpR ids most n ws names made)) := by
  (with_reducible refine (?_ : (let lG : Prop := _; lG))); intro lG; obtain ⟨h1, h2, h3, t1, t2, t3, t4, t5, rfl⟩ := id hU; k_unfold; clear lG
  rw [grpR_miss hl hk0]
  constructor
  intro dp un gd cn cs a ccd cl outer A₀ base h₀ L m sh sg sd st so mean mg mb Q E B F X N T hk hdp hun ret exc
  skip
  refine wpAny_call ?_
  k_dflt ktr_enter
  (repeat' (first | k_extra "sa" | k_extra "b9" | k_extra "b93" | k_extra "b94" | k_extra "b11" | k_extra "b13" | k_extra "b5" | k_extra "b1" | k_extra "b2" | k_extra "b24" | k_extra "sz"))
  refine exc _ _ _ _ _ _ _ (by assumption) (by assumption) (raisedS_sub (by assumption) (fun p hp => .tail _ hp)) (.inr ⟨rfl, rfl⟩)
theorem grp_lim {w : World} {ids : List (Str × T)} {most n : Nat} {name text nm : Str} {tgt : T} {ws : Ws} {names : List Str} {made : Nat} {nx : Addr} {D all : Led} {u ud idd x dx d l : Addr} {o od oi : Obj} {kvs kvi : List (Str × Value)} {g1 g2 g3 g4 : Int} {s1 s2 s3 s4 tn tt : Tok} {nn : Nat} {vs : Array Value} {v : Value} {b : Bool}
    (mx : (x, instObj 203 dx) ∈ all) (mdx : (dx, dictOf [⟨g1, .str (S "name") s1, .str name tn⟩, ⟨g2, .str (S "attributes") s2, .ref d⟩, ⟨g3, .str (S "children") s3, .ref l⟩, ⟨g4, .str (S "text") s4, .str text tt⟩] nn) ∈ all)
    (mo : (d, od) ∈ all) (hd : od.IsDictOf (strKind prg w) kvs) (hw : WsAre kvs ws) (hlo : (d == sysModules) = false) (ok : WsOk ws) (hU : UsesOk o idd most made) (mu : (u, instObj 264 ud) ∈ all)
    (mi : (idd, oi) ∈ all) (hi : oi.IsDictOf (strKind prg w) kvi) (hio : (idd == sysModules) = false) (hl : linkName ws = some nm) (hk0 : lookT ids nm = some tgt) (hv : valueAt kvi nm = some v)
    (hT : TupK w all nx vs) (hS : StrsV vs.toList names) (hb : (names.any (· == nm)) = b) (hn : (vs.size : Int) = (names.length : Int)) (hz : names.length ≤ 12) (hlim : nm ∈ names ∨ 12 ≤ names.length) (hbl : b = false → 12 ≤ names.length) :
    CallX w (6 * n + 63) 261 [.ref u, .ref x, .ref nx] ((ud, o) :: all) all (PutPost w ud idd most o D all (grpR ids most n ws names made)) (PutBad (grpR ids most n ws names made)) := by
  (with_reducible refine (?_ : (let lG : Prop := _; lG))); intro lG; obtain ⟨h1, h2, h3, t1, t2, t3, t4, t5, rfl⟩ := id hU; k_unfold; clear lG
  rw [grpR_lim hl hk0 hlim]
  constructor
  intro dp un gd cn cs a ccd cl outer A₀ base h₀ L m sh sg sd st so mean mg mb Q E B F X N T hk hdp hun ret exc
  skip
  cases b with
  | true =>
    refine wpAny_call ?_
    k_dflt ktr_enter
    (repeat' (first | k_extra "sa" | k_extra "b95" | k_extra "b9" | k_extra "b93" | k_extra "b96" | k_extra "b11" | k_extra "b13" | k_extra "b5" | k_extra "b1" | k_extra "b2" | k_extra "b24" | k_extra "sz"))
    refine exc _ _ _ _ _ _ _ (by assumption) (by assumption) (raisedS_sub (by assumption) (fun p hp => .tail _ hp)) (.inl ⟨rfl, rfl⟩)
  | false =>
    have hge := hbl rfl
    refine wpAny_call ?_
    k_dflt ktr_enter
    (repeat' (first | k_extra "sa" | k_extra "b95" | k_extra "b9" | k_extra "b93" | k_extra "b97" | k_extra "b96" | k_extra "b11" | k_extra "b13" | k_extra "b5" | k_extra "b1" | k_extra "b2" | k_extra "b24" | k_extra "sz"))
    refine exc _ _ _ _ _ _ _ (by assumption) (by assumption) (raisedS_sub (by assumption) (fun p hp => .tail _ hp)) (.inl ⟨rfl, rfl⟩)
end
end

theorem reset_go : True := by
  (w_top off)
  (k_with "b98" => first | ((with_reducible refine (?_ : wpAny _ _ (compareOp CmpOp.In (Value.str _ _) (Value.ref _)) _ _ _)); first | (with_reducible (k_extra "go7")) | fail) | fail)
  (k_with "b99" => first | ((with_reducible refine (?_ : wpAny _ _ (binaryOp Operator.Add (Value.ref _) (Value.ref _)) _ _ _)); first | (with_reducible (k_extra "go5")) | fail) | fail)
  (k_with "b100" => first | ((with_reducible refine (?_ : wpAny _ _ (call (Value.builtin "len") _) _ _ _)); first | (with_reducible (k_extra "go8")) | fail) | fail)
  (k_with "b101" => first | ((with_reducible refine (?_ : wpAny _ _ (call (Value.ref _) _) _ _ _)); first | (with_reducible (k_extra "go6")) | (with_reducible (k_extra "go4")) | (with_reducible (k_extra "go3")) | (with_reducible (k_extra "go2")) | fail) | fail)
  (k_with "b102" => first | ((with_reducible refine (?_ : wpAny _ _ (subscriptTail _ _ _ _) _ _ _)); first | (with_reducible (k_extra "lem:7")) | fail) | fail)
  trivial
section
-- part go
theorem names_add {prog : Program} {w : World} {A : Around} {E : Value → Shared → Prop} {s : Shared} {h₀ : Heap} {L : Addr} {m : Str → Option Value} {all D : Led} {nx b : Addr} {vs : Array Value} {names : List Str} {nm : Str} {t : Tok} {k : Nat} {Q : Value → Shared → Prop}
    (F : Fr h₀ L s.heap m) (X : (hd.heap_1 w.params).In h₀) (N : News h₀ L s.heap all) (hT : TupK w D nx vs) (sub : ∀ p ∈ D, p ∈ all) (hS : StrsV vs.toList names) (mb : (b, tupObj #[Value.str nm t] k) ∈ all) (hz : names.length ≤ 12)
    (h : ∀ x' h' tl vs', Fr h₀ L h' m → News h₀ L h' (tl ++ all) → Fresh all tl → TupK w (tl ++ [(b, tupObj #[Value.str nm t] k)]) x' vs' → StrsV vs'.toList (names ++ [nm]) → Q (.ref x') { s with heap := h' }) :
    wpAny (model prog w) A (binaryOp .Add (.ref nx) (.ref b)) Q E s := by
  have h1 := hT.is F X N sub
  have h2 : IsTup s.heap b #[Value.str nm t] := News.isTup N mb
  have e1 : vs = vs.toList.toArray := by simp
  rw [e1] at h1
  refine add_tuples (ws := [Value.str nm t]) F N h1 h2 (fun e => ?_) (fun _ e => absurd e (by simp)) (fun hv _ h' F' N' => ?_) (by have := strsV_len hS; have z : names.length + 1 ≤ sizeLine := Nat.le_trans (Nat.succ_le_succ hz) (by decide); rw [this]; exact z)
  · have hn : names = [] := by cases names with
      | nil => rfl
      | cons a r => rw [e] at hS; exact hS.elim
    subst hn
    exact h b s.heap [] #[Value.str nm t] F N fresh_nil (.inl ⟨k, .head _⟩) ⟨⟨t, rfl⟩, trivial⟩
  · refine h _ h' [(s.heap.objs.size, _)] (vs.toList ++ [Value.str nm t]).toArray F' N' (fresh_cons (allLt_of fun p hp => Heap.lt_size (N p hp).1) fresh_nil) (.inl ⟨0, .head _⟩) ?_
    rw [List.toList_toArray]
    exact strsV_snoc hS
theorem FramedPost.elim {w : World} {D all : Led} {tgt : T} {v : Value} {D' : Led} (h : FramedPost w D all tgt v D') : ∃ tl, D' = tl ++ all ∧ Fresh all tl ∧ ElemIn w (tl ++ D) v tgt := h
theorem put_call {w : World} {ids : List (Str × T)} {most n : Nat} (ih : PutC w ids most n) {t : T} {names : List Str} {nm : Str} {made : Nat} {D all tl1 tl8 : Led} {u ud idd x8 b : Addr} {o ob : Obj} {v1 : Value} {vs8 : Array Value} {tk : Tok} {k : Nat}
    (hU : UsesOk o idd most made) (sub : ∀ p ∈ D, p ∈ all) (muD : (u, instObj 264 ud) ∈ D) (hids : IdsIn w (ElemIn w) D idd ids) (el : ElemIn w (tl1 ++ D) v1 t) (rk : rank t (names ++ [nm]) ≤ n) (ok : OkT t) (hz : names.length < 12)
    (hT : TupK w (tl8 ++ [(b, tupObj #[Value.str nm tk] k)]) x8 vs8) (hS : StrsV vs8.toList (names ++ [nm])) (hob : ob = tupObj #[Value.str nm tk] k) (off : ∀ p ∈ tl8 ++ (b, ob) :: (tl1 ++ all), @Ne Nat p.1 ud) :
    CallX w (6 * n + 60) 254 [.ref u, v1, .ref x8] ((ud, o) :: (tl8 ++ (b, ob) :: (tl1 ++ all))) (tl8 ++ (b, ob) :: (tl1 ++ all))
      (fun v D' => ∃ t' made' o' tl, putF ids most n t (names ++ [nm]) made = (.ok t', made') ∧ D' = (ud, o') :: (tl ++ (tl8 ++ (b, ob) :: (tl1 ++ all))) ∧ UsesOk o' idd most made' ∧ Fresh ((ud, o) :: (tl8 ++ (b, ob) :: (tl1 ++ all))) tl ∧ ElemIn w (tl ++ (tl8 ++ (b, ob) :: (tl1 ++ D))) v t')
      (PutBad (putF ids most n t (names ++ [nm]) made)) := by
  subst hob
  exact ih (D := tl8 ++ (b, tupObj #[Value.str nm tk] k) :: (tl1 ++ D)) hU
    (fun p hp => by simp only [List.mem_append, List.mem_cons] at hp ⊢; rcases hp with h | h | h | h; exact .inl h; exact .inr (.inl h); exact .inr (.inr (.inl h)); exact .inr (.inr (.inr (sub p h))))
    (el.mono fun p hp => List.mem_append_right _ (.tail _ hp))
    ⟨by rw [List.length_append, List.length_singleton]; exact hz, vs8, hT.mono (fun p hp => by simp only [List.mem_append, List.mem_cons, List.not_mem_nil, or_false] at hp ⊢; rcases hp with h | h; exact .inl h; exact .inr (.inl h)), hS⟩
    (List.mem_append_right _ (.tail _ (List.mem_append_right _ muD))) (idsE_mono hids fun p hp => List.mem_append_right _ (.tail _ (List.mem_append_right _ hp))) off rk ok
theorem go_bad {ws : Ws} {r : Res × Nat} {C : Addr} (h : PutBad r C) : PutBad (goRes ws r) C := by
  obtain ⟨r, k⟩ := r
  rcases h with ⟨hc, h⟩ | ⟨hc, h⟩
  · dsimp only at h; subst h; exact .inl ⟨hc, rfl⟩
  · dsimp only at h; subst h; exact .inr ⟨hc, rfl⟩
theorem go_bad2 {ws : Ws} {r : Res × Nat} {t' : T} {k : Nat} (e : r = (.ok t', k)) (h : bad50 ws = true) : PutBad (goRes ws r) 63 := by
  subst e
  refine .inr ⟨rfl, ?_⟩
  unfold goRes
  dsimp only
  rw [if_pos h]
theorem go_ok {ws : Ws} {r : Res × Nat} {t' : T} {k : Nat} (e : r = (.ok t', k)) (h : bad50 ws = false) : (goRes ws r) = ((.ok (.mk (S "g") (groupWs ws) [t'] (S "")), k) : Res × Nat) := by
  subst e
  unfold goRes
  dsimp only
  rw [if_neg (by rw [h]; exact Bool.false_ne_true)]
theorem go_fin {w : World} {h₀ h : Heap} {L ud idd x9 dx9 l9 f b : Addr} {o o' ob : Obj} {most made' : Nat} {all D tl9 tlG tl3 tl8 tl1 : Led} {t' : T} {v' : Value} {ws : Ws} {v1 v2 v3 v4 : Int} {s1 s2 s3 s4 tn tt : Tok} {res : Res × Nat} {kl : Nat}
    (N : News h₀ L h (tl9 ++ (l9, listOf #[v'] kl) :: (tlG ++ (ud, o') :: (tl3 ++ (tl8 ++ (b, ob) :: (tl1 ++ all))))))
    (f9 : Fresh ((l9, listOf #[v'] kl) :: (tlG ++ (ud, o') :: (tl3 ++ (tl8 ++ (b, ob) :: (tl1 ++ all))))) tl9) (fl : AllLt l9 ((ud, o) :: all)) (fG : Fresh ((ud, o') :: (tl3 ++ (tl8 ++ (b, ob) :: (tl1 ++ all)))) tlG) (f3 : Fresh ((ud, o) :: (tl8 ++ (b, ob) :: (tl1 ++ all))) tl3)
    (f8 : Fresh ((b, ob) :: (tl1 ++ (ud, o) :: all)) tl8) (fb : AllLt b ((ud, o) :: all)) (f1 : Fresh ((ud, o) :: all) tl1)
    (hU : UsesOk o' idd most made') (el : ElemIn w (tl3 ++ (tl8 ++ (b, ob) :: (tl1 ++ D))) v' t') (md : DictIn w tlG f (groupWs ws))
    (m9 : (x9, instObj 203 dx9) ∈ tl9) (n9 : (dx9, dictOf [⟨v1, .str (S "name") s1, .str (S "g") tn⟩, ⟨v2, .str (S "attributes") s2, .ref f⟩, ⟨v3, .str (S "children") s3, .ref l9⟩, ⟨v4, .str (S "text") s4, .str (S "") tt⟩] 4) ∈ tl9)
    (hres : res = (.ok (.mk (S "g") (groupWs ws) [t'] (S "")), made')) :
    ∃ D', News h₀ L h D' ∧ PutPost w ud idd most o D all res (.ref x9) D' := by
  refine ⟨(ud, o') :: ((tl9 ++ ((l9, listOf #[v'] kl) :: (tlG ++ (tl3 ++ (tl8 ++ (b, ob) :: tl1))))) ++ all), fun p hp => N p ?_, _, made', o', _, hres, rfl, hU, ?_, ?_⟩
  · simp only [List.mem_cons, List.mem_append] at hp ⊢
    grind
  · have g9 : Fresh ((ud, o) :: all) tl9 := fun p hp q hq => by
      rcases List.mem_cons.mp hq with rfl | hq
      · exact f9 p hp (ud, o') (.tail _ (List.mem_append_right _ (.head _)))
      · exact f9 p hp q (.tail _ (List.mem_append_right _ (.tail _ (List.mem_append_right _ (List.mem_append_right _ (.tail _ (List.mem_append_right _ hq)))))))
    have gG : Fresh ((ud, o) :: all) tlG := fun p hp q hq => by
      rcases List.mem_cons.mp hq with rfl | hq
      · exact fG p hp (ud, o') (.head _)
      · exact fG p hp q (.tail _ (List.mem_append_right _ (List.mem_append_right _ (.tail _ (List.mem_append_right _ hq)))))
    have g3 : Fresh ((ud, o) :: all) tl3 := fun p hp q hq => by
      rcases List.mem_cons.mp hq with rfl | hq
      · exact f3 p hp (ud, o) (.head _)
      · exact f3 p hp q (.tail _ (List.mem_append_right _ (.tail _ (List.mem_append_right _ hq))))
    have g8 : Fresh ((ud, o) :: all) tl8 := fun p hp q hq => f8 p hp q (.tail _ (List.mem_append_right _ hq))
    exact fresh_app g9 (fresh_cons fl (fresh_app gG (fresh_app g3 (fresh_app g8 (fresh_cons fb f1)))))
  · unfold ElemIn
    refine ⟨x9, dx9, f, l9, 4, kl, #[v'], _, _, _, _, _, _, _, _, _, _, rfl, List.mem_append_left _ (List.mem_append_left _ m9), List.mem_append_left _ (List.mem_append_left _ n9), md.mono (fun p hp => List.mem_append_left _ (List.mem_append_right _ (.tail _ (List.mem_append_left _ hp)))), List.mem_append_left _ (List.mem_append_right _ (.head _)), ?_⟩
    show ElemsIn w _ [v'] [t']
    unfold ElemsIn
    refine ⟨el.mono fun p hp => ?_, by unfold ElemsIn; trivial⟩
    simp only [List.mem_cons, List.mem_append] at hp ⊢
    grind
section
theorem kw_go2 : True := by
  (k_with "go2" => first | (k_here; (with_reducible refine (?_ : wpAny _ _ (call (Value.ref 275) _) _ _ _)); refine Hold.intro ?_) | fail)
  (k_with "go3" => first | (k_here; (with_reducible refine (?_ : wpAny _ _ (call (Value.ref 254) _) _ _ _)); (rename PutC _ _ _ _ => lIH); (rename TupK _ (_ ++ [_]) _ _ => lT8); k_dflt (refine' CallX.use (put_call lIH ?hU_go3 ?sub_go3 ?muD_go3 ?hids_go3 ?el_go3 ?rk_go3 ?ok_go3 ?hz_go3 lT8 ?hS_go3 ?hob_go3 ?off_go3) ?k1_go3 ?k2_go3 ?k3_go3 ?k4_go3 ?k5_go3 ?k6_go3 ?kd_go3 ?ku_go3 (Cut.all ?kC_go3) ?_ ?_; (case k1_go3 => k_asm); (case k2_go3 => k_asm); (case k3_go3 => k_asm); (case k4_go3 => k_asm); (case k5_go3 => k_asm); (case k6_go3 => exact rfl); (case kd_go3 => ktr_room); (case ku_go3 => ktr_units); (case hU_go3 => assumption); (case el_go3 => assumption); (case kC_go3 => (repeat' (first | exact Cut.here | refine' Cut.there ?_ | refine' Cut.app ?_))); (case sub_go3 => assumption); (case muD_go3 => assumption); (case hids_go3 => assumption); (case rk_go3 => assumption); (case ok_go3 => assumption); (case hz_go3 => assumption); (case hS_go3 => assumption); (case hob_go3 => exact rfl); (case off_go3 => k_all); k_whole); intro v9 h9 tk9 D9 F9 N9 p9; (with_reducible refine (?_ : (let lG : Prop := _; lG))); intro lG; obtain ⟨t9, md9, o9, tl9, e9, d9, u9, fr9, el9⟩ := p9; (try k_unfold); subst d9; rotate_left; intro ea9 C9 t9 vs9 h9 tk9 G9 F9 U9 R9 b9; all_goals ((try k_sweep); (try dsimp only); (try k_fold))) | fail)
  (k_with "go4" => first | (k_here; (with_reducible refine (?_ : wpAny _ _ (call (Value.ref 289) _) _ _ _)); (try ((fail_if_success (fail_if_success k_fold)); (refine fold1 ?_); intro qk)); k_dflt (refine' Call.use (c_framed (D := ?D_go4) ?sub_go4 ?hx_go4 ?h2_go4 ?ok_go4) ?k1_go4 ?k2_go4 ?k3_go4 ?k4_go4 ?k5_go4 ?k6_go4 ?kd_go4 ?ku_go4 (fun _ h => h) ?_; (case k1_go4 => k_asm); (case k2_go4 => k_asm); (case k3_go4 => k_asm); (case k4_go4 => k_asm); (case k5_go4 => k_asm); (case k6_go4 => first | exact rfl | assumption); (case kd_go4 => ktr_room); (case ku_go4 => ktr_units); (case hx_go4 => assumption); (case h2_go4 => assumption); (case sub_go4 => ((repeat' (first | exact (fun _ h => h) | assumption | refine sub_consI ?_ | refine sub_appI ?_)))); (case ok_go4 => assumption); k_whole); (k_dflt (refine' ret_tl ?_)); intro v9 tl9 h9 tk9 F9 N9 g09 g19; (try k_sweep); (try dsimp only); (try k_fold)) | fail)
  (k_with "go5" => first | (k_here; (rename StrsV _ _ => lS); (rename TupK _ _ _ _ => lT); k_dflt (refine' names_add ?F_go5 ?X_go5 ?N_go5 lT ?sub_go5 lS ?mb_go5 ?hz_go5 ?_; (case F_go5 => k_asm); (case X_go5 => k_asm); (case N_go5 => k_asm); (case sub_go5 => ((repeat' (first | exact (fun _ h => h) | assumption | refine sub_consI ?_ | refine sub_appI ?_)))); (case mb_go5 => k_mem); (case hz_go5 => omega); k_whole); intro x8 h8 tl8 vs8 F8 N8 fr8 T8 S8; (try k_sweep); (try dsimp only)) | fail)
  (k_with "go6" => first | (k_here; (with_reducible refine (?_ : wpAny _ _ (call (Value.ref 21) _) _ _ _)); (try ((fail_if_success (fail_if_success k_fold)); (refine fold1 ?_); intro qk)); k_dflt (refine' Call.use (c_linkS ?mx_go6 ?mdx_go6 ?md_go6 ?hd_go6 ?hw_go6 ?hlo_go6 ?ok_go6 ?h_go6) ?k1_go6 ?k2_go6 ?k3_go6 ?k4_go6 ?k5_go6 ?k6_go6 ?kd_go6 ?ku_go6 (fun _ h => h) ?_; (case k1_go6 => k_asm); (case k2_go6 => k_asm); (case k3_go6 => k_asm); (case k4_go6 => k_asm); (case k5_go6 => k_asm); (case k6_go6 => first | exact rfl | assumption); (case kd_go6 => ktr_room); (case ku_go6 => ktr_units); (case mx_go6 => k_mem); (case mdx_go6 => k_mem); (case md_go6 => k_mem); (case hd_go6 => assumption); (case hw_go6 => assumption); (case hlo_go6 => assumption); (case ok_go6 => assumption); (case h_go6 => assumption); k_whole); (k_dflt (refine' ret_ted ?_)); intro t9 h9 tk9 F9 N9; (try k_sweep); (try dsimp only); (try k_fold)) | fail)
  (k_with "go7" => first | (k_here; (rename TupK _ _ _ _ => lT); (rename StrsV _ _ => lS); k_dflt (refine' tup_in (TupK.is lT ?F_go7 ?X_go7 ?N_go7 ?s_go7) lS ?hb_go7 ?_; (case F_go7 => k_asm); (case X_go7 => k_asm); (case N_go7 => k_asm); (case s_go7 => ((repeat' (first | exact (fun _ h => h) | assumption | refine sub_consI ?_ | refine sub_appI ?_)))); (case hb_go7 => assumption))) | fail)
  (k_with "go8" => first | (k_here; (with_reducible refine (?_ : wpAny _ _ (call (Value.builtin "len") [Value.ref _]) _ _ _)); (rename TupK _ _ _ _ => lT); k_dflt (refine' kun_lenT (TupK.is lT ?F_go8 ?X_go8 ?N_go8 ?s_go8) ?hk_go8 ?hz_go8 ?_; (case F_go8 => k_asm); (case X_go8 => k_asm); (case N_go8 => k_asm); (case s_go8 => ((repeat' (first | exact (fun _ h => h) | assumption | refine sub_consI ?_ | refine sub_appI ?_)))); (case hk_go8 => assumption); (case hz_go8 => omega); k_whole)) | fail)
  trivial
theorem grp_go {w : World} {ids : List (Str × T)} {most n : Nat} (ih : PutC w ids most n) {name text nm : Str} {tgt : T} {ws : Ws} {names : List Str} {made : Nat} {nx : Addr} {D all : Led} {u ud idd x dx d l : Addr} {o od oi : Obj} {kvs kvi : List (Str × Value)} {g1 g2 g3 g4 : Int} {s1 s2 s3 s4 tn tt : Tok} {nn : Nat} {vs : Array Value} {v : Value}
    (sub : ∀ p ∈ D, p ∈ all) (off : ∀ p ∈ all, @Ne Nat p.1 ud) (hx : ElemIn w D (.ref x) (.mk name ws [] text)) (hvt : ElemIn w D v tgt) (hok : OkT tgt) (hok2 : OkT (framedT ws tgt)) (hrk : rank (framedT ws tgt) (names ++ [nm]) ≤ n) (hwz : ws.length ≤ 16)
    (mx : (x, instObj 203 dx) ∈ all) (mdx : (dx, dictOf [⟨g1, .str (S "name") s1, .str name tn⟩, ⟨g2, .str (S "attributes") s2, .ref d⟩, ⟨g3, .str (S "children") s3, .ref l⟩, ⟨g4, .str (S "text") s4, .str text tt⟩] nn) ∈ all)
    (mo : (d, od) ∈ all) (hd : od.IsDictOf (strKind prg w) kvs) (hw : WsAre kvs ws) (hlo : (d == sysModules) = false) (ok : WsOk ws) (hU : UsesOk o idd most made) (muD : (u, instObj 264 ud) ∈ D) (mu : (u, instObj 264 ud) ∈ all)
    (mi : (idd, oi) ∈ all) (hi : oi.IsDictOf (strKind prg w) kvi) (hio : (idd == sysModules) = false) (hids : IdsIn w (ElemIn w) D idd ids) (hl : linkName ws = some nm) (hk0 : lookT ids nm = some tgt) (hv : valueAt kvi nm = some v)
    (hTD : TupK w D nx vs) (hS : StrsV vs.toList names) (hb : (names.any (· == nm)) = false) (hn : (vs.size : Int) = (names.length : Int)) (hz : names.length < 12) (hlim : ¬ (nm ∈ names ∨ 12 ≤ names.length)) :
    CallX w (6 * n + 63) 261 [.ref u, .ref x, .ref nx] ((ud, o) :: all) all (PutPost w ud idd most o D all (grpR ids most n ws names made)) (PutBad (grpR ids most n ws names made)) := by
  (with_reducible refine (?_ : (let lG : Prop := _; lG))); intro lG; obtain ⟨h1, h2, h3, t1, t2, t3, t4, t5, rfl⟩ := id hU; k_unfold; clear lG
  have hT := hTD.mono sub
  rw [grpR_go hl hk0 hlim]
  constructor
  intro dp un gd cn cs a ccd cl outer A₀ base h₀ L m sh sg sd st so mean mg mb Q E B F X N T hk hdp hun ret exc
  skip
  refine wpAny_call ?_
  k_dflt ktr_enter
  (repeat' (first | k_extra "sa" | k_extra "b98" | k_extra "b99" | k_extra "b93" | k_extra "b10" | k_extra "b100" | k_extra "b101" | k_extra "b11" | k_extra "b13" | k_extra "b5" | k_extra "b31" | k_extra "b1" | k_extra "b23" | k_extra "b2" | k_extra "b102" | k_extra "b24" | k_extra "sz"))
  · refine exc _ _ _ _ _ _ _ (by assumption) (by assumption) (raisedS_sub (by assumption) (by ((repeat' (first | exact (fun _ h => h) | assumption | refine sub_consI ?_ | refine sub_appI ?_))))) (go_bad (by assumption))
  · unfold Hold
    refine' CallX.use (c_gw ?mx ?mdx ?md ?ok ?hz) ?k1 ?k2 ?k3 ?k4 ?k5 ?k6 ?kd ?ku (fun _ h => h) ?r1 ?r2
    (case k1 | k2 | k3 | k4 | k5 => k_asm); (case k6 => exact rfl); 
    (case kd => ktr_room); (case ku => ktr_units); (case mx => k_mem); (case mdx => k_mem); (case md => exact ⟨_, _, by k_mem, by assumption, by assumption, by assumption⟩); (case ok => assumption); (case hz => assumption);
    k_whole
    (case' r1 => intro v9 h9 tk9 D9 F9 N9 p9; obtain ⟨hb9, f9, tl9, e9, d9, fr9, m9⟩ := p9; subst e9; subst d9); (case' r2 => intro ea9 C9 t9 vs9 h9 tk9 G9 F9 U9 R9 b9; obtain ⟨b9, hb9⟩ := b9; subst b9)
    · (repeat' (first | k_extra "sa" | k_extra "b11" | k_extra "sz"))
      refine exc _ _ _ _ _ _ _ (by assumption) (by assumption) (raisedS_sub (by assumption) (by ((repeat' (first | exact (fun _ h => h) | assumption | refine sub_consI ?_ | refine sub_appI ?_))))) (go_bad2 (by assumption) (by assumption))
    · (repeat' (first | k_extra "sa" | k_extra "b17" | k_extra "b23" | k_extra "sz"))
      obtain ⟨D', hN, hP⟩ := go_fin (by assumption) (by assumption) (by ktr_rel) (by assumption) (by assumption) (by assumption) (by ktr_rel) (by assumption) (by assumption) (by assumption) (by assumption) (by assumption) (by assumption) (go_ok (by assumption) (by assumption))
      exact ret _ _ _ D' (by k_asm) hN hP
end
end

theorem reset_use : True := by
  (w_top off)
  (k_with "b103" => first | ((with_reducible refine (?_ : wpAny _ _ (call (Value.ref _) _) _ _ _)); first | (with_reducible (k_extra "use1")) | (with_reducible (k_extra "comp:2")) | fail) | fail)
  trivial
section
-- part use
theorem UsesOk.addr {w : World} {ud idd : Addr} {most : Nat} {o o1 : Obj} {D all : Led} {r : Res × Nat} {v : Value} {D' : Led} (h : PutPost w ud idd most o1 D all r v D') : PutPost w ud idd most o D all r v D' := by
  refine exC4 h ?_; (try clear h); intro t' made' o' tl hR; refine anC5 hR ?_; clear hR; intro a b c d e
  exact ⟨t', made', o', tl, a, b, c, fun p hp q hq => (List.mem_cons.mp hq).elim (fun e => by subst e; exact d p hp (ud, o1) (.head _)) fun h => d p hp q (.tail _ h), e⟩
noncomputable def GrpC (w : World) (n : Nat) (args : List Value) (ud idd : Addr) (most made : Nat) (D all : Led) (R : Res × Nat) : Prop :=
  ∀ {o1}, UsesOk o1 idd most made → CallX w (6 * n + 63) 261 args ((ud, o1) :: all) all (PutPost w ud idd most o1 D all R) (PutBad R)
section
theorem kw_usew9 : True := by
  (k_with "use;9" => first | (refine' code_defC ?k1_usew9 ?k2_usew9 ?k3_usew9 ?k4_usew9 ?k5_usew9 ?kA_usew9 ?kF_usew9 ?kK_usew9 ?k6_usew9 ?k7_usew9 ?k8_usew9 ?k9_usew9 ?kB_usew9 ?kD_usew9 ?_ ?c2_usew9 ?c3_usew9 ?c4_usew9; (case kA_usew9 => exact rfl); (case kF_usew9 => exact rfl); (case kK_usew9 => assumption); (case k1_usew9 => k_asm); (case k2_usew9 => k_asm); (case k3_usew9 => k_asm); (case k4_usew9 => k_asm); (case k5_usew9 => k_asm); (case k6_usew9 => k_is); (case k7_usew9 => k_is); (case k8_usew9 => ktr_room); (case k9_usew9 => first | exact BindsTo.of_eq rfl | exact binds_K (by k_in) rfl (by k_is) rfl rfl rfl); (case kB_usew9 => exact rfl); (case kD_usew9 => decide +kernel); (case c2_usew9 => exact rfl); (case c3_usew9 => exact rfl); (case c4_usew9 => exact rfl); k_whole; intro g' L' h' tk' cells' FG' F' N' Y' B' X' T' l1; (try k_lt l1); k_cells Y'; (try simp only [List.cons_append, List.nil_append] at N'); (try dsimp only); (try k_fold)) | fail)
  trivial
local macro_rules | `(tactic| ktr_enter) => `(tactic| k_extra "use;9")
theorem kw_use1 : True := by
  (k_with "use1" => first | (k_here; (with_reducible refine (?_ : wpAny _ _ (call (Value.ref 261) _) _ _ _)); (rename GrpC _ _ _ _ _ _ _ _ _ _ => lG); k_dflt (refine' CallX.use (lG ?hU_use1) ?k1_use1 ?k2_use1 ?k3_use1 ?k4_use1 ?k5_use1 ?k6_use1 ?kd_use1 ?ku_use1 ?sub_use1 ?_ ?_; (case k1_use1 => k_asm); (case k2_use1 => k_asm); (case k3_use1 => k_asm); (case k4_use1 => k_asm); (case k5_use1 => k_asm); (case k6_use1 => exact rfl); (case kd_use1 => ktr_room); (case ku_use1 => ktr_units); (case sub_use1 => exact fun p hp => .tail _ (.tail _ hp)); (case hU_use1 => exact ⟨_, _, _, _, _, _, _, _, rfl⟩); k_whole); intro v9 h9 tk9 D9 F9 N9 p9; rotate_left; intro ea9 C9 t9 vs9 h9 tk9 G9 F9 U9 R9 b9; all_goals ((try k_sweep); (try dsimp only); (try k_fold))) | fail)
  trivial
theorem put_use {w : World} {ids : List (Str × T)} {most n : Nat} {text : Str} {ws : Ws} {names : List Str} {made : Nat} {nx : Addr} {D all : Led} {u ud idd x dx d l : Addr} {o : Obj} {g1 g2 g3 g4 : Int} {s1 s2 s3 s4 tn tt : Tok} {nn : Nat}
    (hU : UsesOk o idd most made) (amx : (x, instObj 203 dx) ∈ all) (amdx : (dx, dictOf [⟨g1, .str (Str.ofString "name") s1, .str (S "use") tn⟩, ⟨g2, .str (Str.ofString "attributes") s2, .ref d⟩, ⟨g3, .str (Str.ofString "children") s3, .ref l⟩, ⟨g4, .str (Str.ofString "text") s4, .str text tt⟩] nn) ∈ all)
    (amu : (u, instObj 264 ud) ∈ all) (off : ∀ p ∈ all, @Ne Nat p.1 ud)
    (hg : GrpC w n [.ref u, .ref x, .ref nx] ud idd most (made + 1) D all (grpR ids most n ws names (made + 1))) :
    CallX w (6 * (n + 1) + 60) 254 [.ref u, .ref x, .ref nx] ((ud, o) :: all) all
      (PutPost w ud idd most o D all (if made + 1 > most then (.limit, made + 1) else grpR ids most n ws names (made + 1))) (PutBad (if made + 1 > most then (.limit, made + 1) else grpR ids most n ws names (made + 1))) := by
  (with_reducible refine (?_ : (let lG : Prop := _; lG))); intro lG; obtain ⟨h1, h2, h3, t1, t2, t3, t4, t5, rfl⟩ := id hU; k_unfold; clear lG
  constructor
  intro dp un gd cn cs a ccd cl outer A₀ base h₀ L m sh sg sd st so mean mg mb Q E B F X N T hk hdp hun ret exc
  skip
  refine wpAny_call ?_
  k_dflt ktr_enter
  (repeat' (first | k_extra "sa" | k_extra "b9" | k_extra "b103" | k_extra "b11" | k_extra "b13" | k_extra "b5" | k_extra "b14" | k_extra "b15" | k_extra "b23" | k_extra "b24" | k_extra "sz"))
  · rw [if_pos (by omega)] at exc
    exact exc _ _ _ _ _ _ _ (by assumption) (by assumption) (raisedS_sub (by assumption) (fun p hp => .tail _ (.tail _ (.tail _ hp)))) (.inl ⟨rfl, rfl⟩)
  · rw [if_neg (by omega)] at exc
    exact exc _ _ _ _ _ _ _ (by assumption) (by assumption) (by assumption) (by assumption)
  · rw [if_neg (by omega)] at ret
    refine' ret _ _ _ _ ?zF ?zN ?zP
    (case zF => k_asm)
    (case zP => exact UsesOk.addr (by assumption))
    (case zN => assumption)
end
end

theorem reset_putc : True := by
  (w_top off)
  trivial
section
-- part putc
noncomputable def IdsOk (ids : List (Str × T)) : Prop := ∀ p ∈ ids, OkT p.2 ∧ height p.2 ≤ 2 ∧ p.2.ws.length ≤ 12
theorem lookT_mem {ids : List (Str × T)} {nm : Str} {t : T} (h : lookT ids nm = some t) : ∃ p ∈ ids, p.2 = t := by
  unfold lookT at h
  cases hf : ids.find? (fun p => p.1 = nm) with
  | none => rw [hf] at h; cases h
  | some p =>
    rw [hf] at h
    cases h
    exact ⟨p, List.mem_of_find?_eq_some hf, rfl⟩
theorem frW1_len (ws : Ws) (t : T) (k : Str) (acc : Ws) : (frW1 ws t k acc).length ≤ acc.length + 1 := by
  unfold frW1
  split
  · exact wsPut_len _ _ _
  · split
    · exact wsPut_len _ _ _
    · omega
theorem framed_ok {ws : Ws} {t : T} (h : OkT t) (hz : t.ws.length ≤ 12) : OkT (framedT ws t) := by
  unfold framedT
  split
  · cases t with
    | mk name tws kids text =>
      unfold OkT at h ⊢
      refine ⟨?_, h.2.1, fun e => absurd e (by decide), h.2.2.2⟩
      have a := frW1_len ws (.mk name tws kids text) (S "width") (T.mk name tws kids text).ws
      have b := frW1_len ws (.mk name tws kids text) (S "height") (frW1 ws (.mk name tws kids text) (S "width") (T.mk name tws kids text).ws)
      have c : (T.mk name tws kids text).ws.length ≤ 12 := hz
      omega
  · exact h
theorem framed_height {ws : Ws} {t : T} : height (framedT ws t) = height t := by
  unfold framedT
  split
  · cases t with
    | mk name tws kids text => unfold height; rfl
  · rfl
theorem rank_step {ws ws' : Ws} {t : T} {nm nm' text : Str} {kids : List T} {names : List Str} {n : Nat} (h2 : height t ≤ 2) (hr : rank (.mk nm' ws' kids text) names ≤ n + 1) (hlt : names.length < 12) : rank (framedT ws t) (names ++ [nm]) ≤ n := by
  unfold rank at hr ⊢
  rw [framed_height, List.length_append, List.length_singleton]
  unfold height at hr
  omega
theorem grp_all {w : World} {ids : List (Str × T)} {most n : Nat} (hI : IdsOk ids) (ih : PutC w ids most n) {text : Str} {ws : Ws} {names : List Str} {made : Nat} {nx : Addr} {D all : Led} {u ud idd x : Addr}
    (sub : ∀ p ∈ D, p ∈ all) (off : ∀ p ∈ all, @Ne Nat p.1 ud) (hx : ElemIn w D (.ref x) (.mk (S "use") ws [] text)) (mn : NamesIn w D nx names) (mu : (u, instObj 264 ud) ∈ D) (mi : IdsIn w (ElemIn w) D idd ids)
    (hr : rank (.mk (S "use") ws [] text) names ≤ n + 1) (hwz : ws.length ≤ 16) (ok : WsOk ws) :
    GrpC w n [.ref u, .ref x, .ref nx] ud idd most made D all (grpR ids most n ws names made) := by
  intro o1 hU
  have hx0 := hx
  unfold ElemIn at hx
  (with_reducible refine (?_ : (let lG : Prop := _; lG))); intro lG; obtain ⟨x', dx, d, l, nn, k, vs, h1, h2, h3, h4, t1, t2, t3, t4, tn, tt, e, a1, a2, ⟨od, kvs, a3, a4, a5, a6⟩, a7, a8⟩ := hx; k_unfold; clear lG
  cases e
  have mi0 := mi
  refine exC2 mi ?_; (try clear mi); intro oi kvi hR; refine anC4 hR ?_; clear hR; intro mio hi har hio
  (with_reducible refine (?_ : (let lG : Prop := _; lG))); intro lG; obtain ⟨hz, vn, hT, hS⟩ := mn; k_unfold; clear lG
  cases hl : linkName ws with
  | none => exact grp_none (sub _ a1) (sub _ a2) (sub _ a3) a4 a5 a6 ok hU (sub _ mu) hl
  | some nm =>
    cases hk0 : lookT ids nm with
    | none => exact grp_miss (sub _ a1) (sub _ a2) (sub _ a3) a4 a5 a6 ok hU (sub _ mu) (sub _ mio) hi hio hl hk0 (har.none hk0)
    | some tgt =>
      obtain ⟨v, hv, hvt⟩ := har.some hk0
      have hsz : (vn.size : Int) = (names.length : Int) := by have := strsV_len hS; rw [Array.length_toList] at this; omega
      by_cases hlim : nm ∈ names ∨ 12 ≤ names.length
      · refine grp_lim (b := names.any (· == nm)) (sub _ a1) (sub _ a2) (sub _ a3) a4 a5 a6 ok hU (sub _ mu) (sub _ mio) hi hio hl hk0 hv (hT.mono sub) hS rfl hsz hz hlim ?_
        intro hb
        rcases hlim with h | h
        · have : names.any (· == nm) = true := List.any_eq_true.mpr ⟨nm, h, by simp⟩
          rw [this] at hb; cases hb
        · exact h
      · obtain ⟨p, hp, rfl⟩ := lookT_mem hk0
        obtain ⟨b1, b2, b3⟩ := hI p hp
        have hlt : names.length < 12 := Nat.lt_of_not_le fun h => hlim (.inr h)
        have hb : names.any (· == nm) = false := by
          rw [List.any_eq_false]
          intro z hz' e
          exact hlim (.inl (eq_of_beq e ▸ hz'))
        refine grp_go ih sub off hx0 hvt b1 (framed_ok b1 b3) ?_ hwz (sub _ a1) (sub _ a2) (sub _ a3) a4 a5 a6 ok hU mu (sub _ mu) (sub _ mio) hi hio mi0 hl hk0 hv hT hS hb hsz hlt hlim
        exact rank_step b2 hr hlt
theorem putF_use {ids : List (Str × T)} {most n : Nat} {ws : Ws} {kids : List T} {text : Str} {names : List Str} {made : Nat} :
    putF ids most (n + 1) (.mk (S "use") ws kids text) names made = if made + 1 > most then (.limit, made + 1) else grpR ids most n ws names (made + 1) := by
  show (if made + 1 > most then _ else if (T.mk (S "use") ws kids text).name = S "use" then _ else _) = _
  rw [if_pos (show (T.mk (S "use") ws kids text).name = S "use" from rfl)]
  unfold grpR
  by_cases h : made + 1 > most
  · rw [if_pos h, if_pos h]
  · rw [if_neg h, if_neg h]
    show (match linkName ws with | none => _ | some nm => _) = _
    cases linkName ws with
    | none => rfl
    | some nm =>
      dsimp only
      cases lookT ids nm with
      | none => rfl
      | some tgt =>
        dsimp only
        by_cases hh : nm ∈ names ∨ 12 ≤ names.length
        · rw [if_pos hh, if_pos hh]
        · rw [if_neg hh, if_neg hh]
          show (match putF ids most n (framedT ws tgt) (names ++ [nm]) (made + 1) with | (.ok t', made') => _ | e => _) = _
          unfold goRes
          cases putF ids most n (framedT ws tgt) (names ++ [nm]) (made + 1) with
          | mk r k => cases r <;> rfl
theorem putC_zero {w : World} {ids : List (Str × T)} {most : Nat} : PutC w ids most 0 := by
  intro t names made v nx D all u ud idd o hU sub hx mn mu mi off hr ok
  cases t with
  | mk name ws kids text =>
    unfold rank height at hr
    omega
theorem putC_succ {w : World} {ids : List (Str × T)} {most n : Nat} (hI : IdsOk ids) (ih : PutC w ids most n) : PutC w ids most (n + 1) := by
  intro t names made v nx D all u ud idd o hU sub hx mn mu mi off hr ok
  cases t with
  | mk name ws kids text =>
    have hx0 := hx
    unfold ElemIn at hx
    (with_reducible refine (?_ : (let lG : Prop := _; lG))); intro lG; obtain ⟨x, dx, d, l, nn, k, vs, h1, h2, h3, h4, t1, t2, t3, t4, tn, tt, rfl, a1, a2, a3, a4, a5⟩ := hx; k_unfold; clear lG
    by_cases hn : name = S "use"
    · subst hn
      have ok0 := ok
      unfold OkT at ok
      obtain ⟨hk0, hok⟩ := ok.2.2.1 rfl
      subst hk0
      rw [putF_use]
      exact put_use hU (sub _ a1) (sub _ a2) (sub _ mu) off (grp_all hI ih sub off hx0 mn mu mi hr ok.1 hok)
    · exact put_node ih (by simpa using hn) hU sub a1 a2 a3 a4 a5 mn mu mi off hr ok
theorem putC {w : World} {ids : List (Str × T)} {most : Nat} (hI : IdsOk ids) : ∀ n, PutC w ids most n
  | 0 => putC_zero
  | n + 1 => putC_succ hI (putC hI n)
end

theorem reset_put2 : True := by
  (w_top off)
  (k_with "b104" => first | ((with_reducible refine (?_ : wpAny _ _ (call (Value.ref _) _) _ _ _)); first | (with_reducible (k_extra "put21")) | fail) | fail)
  (k_with "b105" => first | ((with_reducible refine (?_ : wpAny _ _ (call (Value.ref _) _) _ _ _)); first | (with_reducible (k_extra "put22")) | (with_reducible (k_extra "comp:2")) | fail) | fail)
  trivial
section
-- part put2
section
theorem kw_put2w4 : True := by
  (k_with "put2;4" => first | (refine' code_defC ?k1_put2w4 ?k2_put2w4 ?k3_put2w4 ?k4_put2w4 ?k5_put2w4 ?kA_put2w4 ?kF_put2w4 ?kK_put2w4 ?k6_put2w4 ?k7_put2w4 ?k8_put2w4 ?k9_put2w4 ?kB_put2w4 ?kD_put2w4 ?_ ?c2_put2w4 ?c3_put2w4 ?c4_put2w4; (case kA_put2w4 => exact rfl); (case kF_put2w4 => exact rfl); (case kK_put2w4 => assumption); (case k1_put2w4 => k_asm); (case k2_put2w4 => k_asm); (case k3_put2w4 => k_asm); (case k4_put2w4 => k_asm); (case k5_put2w4 => k_asm); (case k6_put2w4 => k_is); (case k7_put2w4 => k_is); (case k8_put2w4 => ktr_room); (case k9_put2w4 => first | exact BindsTo.of_eq rfl | exact binds_K (by k_in) rfl (by k_is) rfl rfl rfl); (case kB_put2w4 => exact rfl); (case kD_put2w4 => decide +kernel); (case c2_put2w4 => exact rfl); (case c3_put2w4 => exact rfl); (case c4_put2w4 => exact rfl); k_whole; intro g' L' h' tk' cells' FG' F' N' Y' B' X' T' l1; (try k_lt l1); k_cells Y'; (try simp only [List.cons_append, List.nil_append] at N'); (try dsimp only); (try k_fold)) | fail)
  trivial
local macro_rules | `(tactic| ktr_enter) => `(tactic| k_extra "put2;4")
theorem kw_put21 : True := by
  (k_with "put21" => first | (k_here; (with_reducible refine (?_ : wpAny _ _ (call (Value.ref 254) _) _ _ _)); (rename PutC _ _ _ _ => lIH); k_dflt (refine' CallX.use (lIH ?q1_put21 ?q2_put21 ?q3_put21 ?q4_put21 ?q5_put21 ?q6_put21 ?q7_put21 ?q8_put21 ?q9_put21) ?k1_put21 ?k2_put21 ?k3_put21 ?k4_put21 ?k5_put21 ?k6_put21 ?kd_put21 ?ku_put21 (Cut.all ?kC_put21) ?r1_put21 ?r2_put21; (case k1_put21 => k_asm); (case k2_put21 => k_asm); (case k3_put21 => k_asm); (case k4_put21 => k_asm); (case k5_put21 => k_asm); (case k6_put21 => exact rfl); (case kd_put21 => ktr_room); (case ku_put21 => ktr_units); (case q1_put21 => assumption); (case q5_put21 => assumption); (case kC_put21 => (repeat' (first | exact Cut.here | refine' Cut.there ?_))); (case q3_put21 => assumption); (case q2_put21 => first | assumption | exact sub3 (by assumption)); (case q4_put21 => assumption); (case q6_put21 => assumption); (case q7_put21 => assumption); (case q8_put21 => assumption); (case q9_put21 => assumption); (case r1_put21 => assumption); (case r2_put21 => assumption))) | fail)
  trivial
theorem put_node2 {w : World} {ids : List (Str × T)} {most n : Nat} (ih : PutC w ids most n) {name text : Str} {ws : Ws} {kids : List T} {names : List Str} {made : Nat} {D all : Led} {u ud idd x dx d l : Addr} {vs : Array Value} {o : Obj} {g1 g2 g3 g4 : Int} {s1 s2 s3 s4 tn tt : Tok} {nn kl : Nat}
    (hname : (name == S "use") = false) (hU : UsesOk o idd most made) (sub : ∀ p ∈ D, p ∈ all)
    (mx : (x, instObj 203 dx) ∈ D) (mdx : (dx, dictOf [⟨g1, .str (Str.ofString "name") s1, .str name tn⟩, ⟨g2, .str (Str.ofString "attributes") s2, .ref d⟩, ⟨g3, .str (Str.ofString "children") s3, .ref l⟩, ⟨g4, .str (Str.ofString "text") s4, .str text tt⟩] nn) ∈ D)
    (md : DictIn w D d ws) (ml : (l, listOf vs kl) ∈ D) (mk : ElemsIn w D vs.toList kids) (mn : NamesIn w D 248 names) (mu : (u, instObj 264 ud) ∈ D) (mi : IdsIn w (ElemIn w) D idd ids) (off : ∀ p ∈ all, @Ne Nat p.1 ud)
    (hr : rank (.mk name ws kids text) names ≤ n + 1) (ok : OkT (.mk name ws kids text)) :
    CallX w (6 * (n + 1) + 60) 254 [.ref u, .ref x] ((ud, o) :: all) all
      (PutPost w ud idd most o D all (putF ids most (n + 1) (.mk name ws kids text) names made)) (PutBad (putF ids most (n + 1) (.mk name ws kids text) names made)) := by
  (with_reducible refine (?_ : (let lG : Prop := _; lG))); intro lG; obtain ⟨h1, h2, h3, t1, t2, t3, t4, t5, rfl⟩ := id hU; k_unfold; clear lG
  have amx := sub _ mx
  have amdx := sub _ mdx
  have aml := sub _ ml
  have amu := sub _ mu
  have hne : ¬ name = S "use" := by simpa using hname
  have hput : ¬ made + 1 > most → ∀ r, kidsF (fun c m => putF ids most n c names m) kids (made + 1) = r →
      putF ids most (n + 1) (.mk name ws kids text) names made = match r with | (.inl r, m) => (.ok (.mk name ws r text), m) | (.inr e, m) => (e, m) := fun h r e => by
    show (if made + 1 > most then _ else if (T.mk name ws kids text).name = S "use" then _ else _) = _
    rw [if_neg h, if_neg (show ¬ (T.mk name ws kids text).name = S "use" from hne)]
    show (match kidsF (fun c m => putF ids most n c names m) kids (made + 1) with | (.inl r, m) => _ | (.inr e, m) => _) = _
    rw [e]
    rfl
  unfold OkT at ok
  have hsz : vs.size ≤ 16 := by have := elems_len mk; rw [Array.length_toList] at this; omega
  constructor
  intro dp un gd cn cs a ccd cl outer A₀ base h₀ L m sh sg sd st so mean mg mb Q E B F X N T hk hdp hun ret exc
  skip
  refine wpAny_call ?_
  k_dflt ktr_enter
  (repeat' (first | k_extra "sa" | k_extra "b8" | k_extra "b9" | k_extra "b10" | k_extra "b11" | k_extra "b12" | k_extra "b13" | k_extra "b5" | k_extra "b14" | k_extra "b15" | k_extra "sz"))
  · refine exc _ _ _ _ _ _ _ (by assumption) (by assumption) (raisedS_sub (by assumption) (fun p hp => .tail _ (.tail _ (.tail _ hp)))) (.inl ⟨rfl, ?_⟩)
    unfold putF
    rw [if_pos (by omega)]
  · skip
    refine put_src (ids := ids) (n := n) (names := names) (by k_asm) (by k_asm) rfl ⟨_, _, _, _, _, _, _, _, rfl⟩ sub ml mk hsz ?_ ?_ ?_ ?_
    · exact List.forall_mem_cons.mpr ⟨by k_ne, List.forall_mem_cons.mpr ⟨by k_ne, off⟩⟩
    · intro v ys tl made' o' t I oI C oC Dl m₂ h tk E' QC hU' hte htm hC hx F3 N3 off3 hret hexc
      (with_reducible refine (?_ : (let lG : Prop := _; lG))); intro lG; obtain ⟨p1, p2, p3, p4, p5, p6, p7, p8, rfl⟩ := id hU'; k_unfold; clear lG
      have b1 := ok.2.2.2.mem htm
      have b2 : rank t names ≤ n := by
        have := height_kid htm
        unfold rank height at hr
        unfold rank
        omega
      have b3 := mn.mono (sub_app (a := tl))
      have b4 := idsE_mono mi (sub_app (a := tl))
      have b5 : (u, instObj 264 ud) ∈ tl ++ D := List.mem_append_right _ mu
      have b6 := List.mem_append_right (as := tl) mu
      (repeat' (first | k_extra "sa" | k_extra "b104" | k_extra "sz"))


    · intro ys tl made' o' outs Dl h tk hU' hfr hel heq F3 N3 hDl
      (repeat' (first | k_extra "sa" | k_extra "b17" | k_extra "b5" | k_extra "sz"))
      obtain ⟨D', hN, hP⟩ := put_fin (o := dictOf [⟨h1, .str (S "ids") t1, .ref idd⟩, ⟨h2, .str (S "most") t2, .int (most : Int) t4⟩, ⟨h3, .str (S "made") t3, .int (made : Int) t5⟩] 3) (D := D) (by assumption) (by assumption) hfr hDl (by ktr_rel) (by ktr_rel) hU' hel md (by assumption) (by assumption) (hput (by omega) _ heq)
      exact ret _ _ _ D' (by k_asm) hN hP
    · intro ea C t vs G h' tk' R U FG hb
      (repeat' (first | k_extra "sa" | k_extra "b11" | k_extra "sz"))
      refine exc _ _ _ _ _ _ _ (by assumption) (by assumption) (raisedS_sub (by assumption) (fun p hp => .tail _ (.tail _ hp))) ?_
      have hp := hput (by omega) _ rfl
      rcases hb with ⟨hc, hb⟩ | ⟨hc, hb⟩
      · refine .inl ⟨hc, ?_⟩
        rw [hp]
        cases hq : kidsF (fun c m => putF ids most n c names m) kids (made + 1) with
        | mk a b => rw [hq] at hb; dsimp only at hb; subst hb; rfl
      · refine .inr ⟨hc, ?_⟩
        rw [hp]
        cases hq : kidsF (fun c m => putF ids most n c names m) kids (made + 1) with
        | mk a b => rw [hq] at hb; dsimp only at hb; subst hb; rfl
end
section
theorem kw_put2w74 : True := by
  (k_with "put2;74" => first | (refine' code_defC ?k1_put2w74 ?k2_put2w74 ?k3_put2w74 ?k4_put2w74 ?k5_put2w74 ?kA_put2w74 ?kF_put2w74 ?kK_put2w74 ?k6_put2w74 ?k7_put2w74 ?k8_put2w74 ?k9_put2w74 ?kB_put2w74 ?kD_put2w74 ?_ ?c2_put2w74 ?c3_put2w74 ?c4_put2w74; (case kA_put2w74 => exact rfl); (case kF_put2w74 => exact rfl); (case kK_put2w74 => assumption); (case k1_put2w74 => k_asm); (case k2_put2w74 => k_asm); (case k3_put2w74 => k_asm); (case k4_put2w74 => k_asm); (case k5_put2w74 => k_asm); (case k6_put2w74 => k_is); (case k7_put2w74 => k_is); (case k8_put2w74 => ktr_room); (case k9_put2w74 => first | exact BindsTo.of_eq rfl | exact binds_K (by k_in) rfl (by k_is) rfl rfl rfl); (case kB_put2w74 => exact rfl); (case kD_put2w74 => decide +kernel); (case c2_put2w74 => exact rfl); (case c3_put2w74 => exact rfl); (case c4_put2w74 => exact rfl); k_whole; intro g' L' h' tk' cells' FG' F' N' Y' B' X' T' l1; (try k_lt l1); k_cells Y'; (try simp only [List.cons_append, List.nil_append] at N'); (try dsimp only); (try k_fold)) | fail)
  trivial
local macro_rules | `(tactic| ktr_enter) => `(tactic| k_extra "put2;74")
theorem kw_put22 : True := by
  (k_with "put22" => first | (k_here; (with_reducible refine (?_ : wpAny _ _ (call (Value.ref 261) _) _ _ _)); (rename GrpC _ _ _ _ _ _ _ _ _ _ => lG); k_dflt (refine' CallX.use (lG ?hU_put22) ?k1_put22 ?k2_put22 ?k3_put22 ?k4_put22 ?k5_put22 ?k6_put22 ?kd_put22 ?ku_put22 ?sub_put22 ?_ ?_; (case k1_put22 => k_asm); (case k2_put22 => k_asm); (case k3_put22 => k_asm); (case k4_put22 => k_asm); (case k5_put22 => k_asm); (case k6_put22 => exact rfl); (case kd_put22 => ktr_room); (case ku_put22 => ktr_units); (case sub_put22 => exact fun p hp => .tail _ (.tail _ hp)); (case hU_put22 => exact ⟨_, _, _, _, _, _, _, _, rfl⟩); k_whole); intro v9 h9 tk9 D9 F9 N9 p9; rotate_left; intro ea9 C9 t9 vs9 h9 tk9 G9 F9 U9 R9 b9; all_goals ((try k_sweep); (try dsimp only); (try k_fold))) | fail)
  trivial
theorem put_use2 {w : World} {ids : List (Str × T)} {most n : Nat} {text : Str} {ws : Ws} {names : List Str} {made : Nat} {D all : Led} {u ud idd x dx d l : Addr} {o : Obj} {g1 g2 g3 g4 : Int} {s1 s2 s3 s4 tn tt : Tok} {nn : Nat}
    (hU : UsesOk o idd most made) (amx : (x, instObj 203 dx) ∈ all) (amdx : (dx, dictOf [⟨g1, .str (Str.ofString "name") s1, .str (S "use") tn⟩, ⟨g2, .str (Str.ofString "attributes") s2, .ref d⟩, ⟨g3, .str (Str.ofString "children") s3, .ref l⟩, ⟨g4, .str (Str.ofString "text") s4, .str text tt⟩] nn) ∈ all)
    (amu : (u, instObj 264 ud) ∈ all) (off : ∀ p ∈ all, @Ne Nat p.1 ud)
    (hg : GrpC w n [.ref u, .ref x, .ref 248] ud idd most (made + 1) D all (grpR ids most n ws names (made + 1))) :
    CallX w (6 * (n + 1) + 60) 254 [.ref u, .ref x] ((ud, o) :: all) all
      (PutPost w ud idd most o D all (if made + 1 > most then (.limit, made + 1) else grpR ids most n ws names (made + 1))) (PutBad (if made + 1 > most then (.limit, made + 1) else grpR ids most n ws names (made + 1))) := by
  (with_reducible refine (?_ : (let lG : Prop := _; lG))); intro lG; obtain ⟨h1, h2, h3, t1, t2, t3, t4, t5, rfl⟩ := id hU; k_unfold; clear lG
  constructor
  intro dp un gd cn cs a ccd cl outer A₀ base h₀ L m sh sg sd st so mean mg mb Q E B F X N T hk hdp hun ret exc
  skip
  refine wpAny_call ?_
  k_dflt ktr_enter
  (repeat' (first | k_extra "sa" | k_extra "b9" | k_extra "b105" | k_extra "b11" | k_extra "b13" | k_extra "b5" | k_extra "b14" | k_extra "b15" | k_extra "b23" | k_extra "b24" | k_extra "sz"))
  · rw [if_pos (by omega)] at exc
    exact exc _ _ _ _ _ _ _ (by assumption) (by assumption) (raisedS_sub (by assumption) (fun p hp => .tail _ (.tail _ (.tail _ hp)))) (.inl ⟨rfl, rfl⟩)
  · rw [if_neg (by omega)] at exc
    exact exc _ _ _ _ _ _ _ (by assumption) (by assumption) (by assumption) (by assumption)
  · rw [if_neg (by omega)] at ret
    refine' ret _ _ _ _ ?zF ?zN ?zP
    (case zF => k_asm)
    (case zP => exact UsesOk.addr (by assumption))
    (case zN => assumption)
end
theorem names0 {w : World} {D : Led} : NamesIn w D 248 [] := ⟨by decide, #[], .inr ⟨0, fun h X => X _ _ (by k_is)⟩, trivial⟩
theorem put_top {w : World} {ids : List (Str × T)} {most n : Nat} (hI : IdsOk ids) {t : T} {made : Nat} {v : Value} {D all : Led} {u ud idd : Addr} {o : Obj} (hU : UsesOk o idd most made) (sub : ∀ p ∈ D, p ∈ all) (hx : ElemIn w D v t)
    (mu : (u, instObj 264 ud) ∈ D) (mi : IdsIn w (ElemIn w) D idd ids) (off : ∀ p ∈ all, @Ne Nat p.1 ud) (hr : rank t [] ≤ n + 1) (ok : OkT t) :
    CallX w (6 * (n + 1) + 60) 254 [.ref u, v] ((ud, o) :: all) all (PutPost w ud idd most o D all (putF ids most (n + 1) t [] made)) (PutBad (putF ids most (n + 1) t [] made)) := by
  have ih : PutC w ids most n := putC hI n
  cases t with
  | mk name ws kids text =>
    have hx0 := hx
    unfold ElemIn at hx
    (with_reducible refine (?_ : (let lG : Prop := _; lG))); intro lG; obtain ⟨x, dx, d, l, nn, k, vs, h1, h2, h3, h4, t1, t2, t3, t4, tn, tt, rfl, a1, a2, a3, a4, a5⟩ := hx; k_unfold; clear lG
    by_cases hn : name = S "use"
    · subst hn
      unfold OkT at ok
      obtain ⟨hk0, hok⟩ := ok.2.2.1 rfl
      subst hk0
      rw [putF_use]
      exact put_use2 hU (sub _ a1) (sub _ a2) (sub _ mu) off (grp_all hI ih sub off hx0 names0 mu mi hr ok.1 hok)
    · exact put_node2 ih (by simpa using hn) hU sub a1 a2 a3 a4 a5 names0 mu mi off hr ok
end

theorem reset_mapc : True := by
  (w_top off)
  trivial
section
-- part mapc
theorem sub_consM {a l : Led} {x : Addr × Obj} (h : ∀ p ∈ a, p ∈ l) : ∀ p ∈ a, p ∈ x :: l := fun p hp => .tail _ (h p hp)
theorem sub_appM {a l b : Led} (h : ∀ p ∈ a, p ∈ l) : ∀ p ∈ a, p ∈ b ++ l := fun p hp => List.mem_append_right _ (h p hp)
theorem off_ne {l : Led} {D x : Addr} {o : Obj} (h : ∀ p ∈ l, @Ne Nat p.1 D) (m : (x, o) ∈ l) : @Ne Nat D x := Ne.symm (h _ m)
theorem off_ne' {l : Led} {D x : Addr} {o : Obj} (h : ∀ p ∈ l, @Ne Nat p.1 D) (m : (x, o) ∈ l) : @Ne Nat x D := h _ m
noncomputable def AllIn (R : Value → T → Prop) : List Value → List T → Prop
  | [], [] => True
  | v :: vs, t :: ts => R v t ∧ AllIn R vs ts
  | _, _ => False
theorem AllIn.mono {R R' : Value → T → Prop} (h : ∀ v t, R v t → R' v t) : ∀ {vs : List Value} {ts : List T}, AllIn R vs ts → AllIn R' vs ts
  | [], [], _ => trivial
  | [], _ :: _, x => x.elim
  | _ :: _, [], x => x.elim
  | _ :: _, _ :: _, x => ⟨h _ _ x.1, AllIn.mono h x.2⟩
theorem AllIn.get {R : Value → T → Prop} : ∀ {vs : List Value} {ts : List T} {i : Nat} {v : Value}, AllIn R vs ts → vs[i]? = some v → ∃ t, ts[i]? = some t ∧ t ∈ ts ∧ R v t
  | [], _, _, _, _, h => by simp at h
  | _ :: _, [], _, _, h, _ => h.elim
  | a :: r, t :: q, 0, v, h, e => by
    cases e
    exact ⟨t, rfl, .head _, h.1⟩
  | a :: r, t :: q, i + 1, v, h, e => by
    refine exC1 (AllIn.get h.2 (i := i) (v := v) (by simpa using e)) ?_; intro t' hR; refine anC3 hR ?_; clear hR; intro h1 h2 h3
    exact ⟨t', by simpa using h1, .tail _ h2, h3⟩
theorem AllIn.len {R : Value → T → Prop} : ∀ {vs : List Value} {ts : List T}, AllIn R vs ts → vs.length = ts.length
  | [], [], _ => rfl
  | [], _ :: _, x => x.elim
  | _ :: _, [], x => x.elim
  | _ :: _, _ :: _, x => by rw [List.length_cons, List.length_cons, AllIn.len x.2]
theorem AllIn.snoc {R : Value → T → Prop} {v : Value} {t : T} : ∀ {vs : List Value} {ts : List T}, AllIn R vs ts → R v t → AllIn R (vs ++ [v]) (ts ++ [t])
  | [], [], _, x => ⟨x, trivial⟩
  | [], _ :: _, h, _ => h.elim
  | _ :: _, [], h, _ => h.elim
  | _ :: _, _ :: _, h, x => ⟨h.1, AllIn.snoc h.2 x⟩
theorem trees_all {w : World} {D : Led} : ∀ {vs : List Value} {ts : List T}, TreesIn w D vs ts ↔ AllIn (TreeIn w D) vs ts
  | [], [] => by unfold TreesIn AllIn; exact Iff.rfl
  | [], _ :: _ => by unfold TreesIn AllIn; exact Iff.rfl
  | _ :: _, [] => by unfold TreesIn AllIn; exact Iff.rfl
  | _ :: _, _ :: _ => by unfold TreesIn AllIn; exact and_congr Iff.rfl trees_all
theorem elems_all {w : World} {D : Led} : ∀ {vs : List Value} {ts : List T}, ElemsIn w D vs ts ↔ AllIn (ElemIn w D) vs ts
  | [], [] => by unfold ElemsIn AllIn; exact Iff.rfl
  | [], _ :: _ => by unfold ElemsIn AllIn; exact Iff.rfl
  | _ :: _, [] => by unfold ElemsIn AllIn; exact Iff.rfl
  | _ :: _, _ :: _ => by unfold ElemsIn AllIn; exact and_congr Iff.rfl elems_all
section
variable {prog : Program} {w : World} {A : Around} {E : Value → Shared → Prop} {s : Shared} {h₀ : Heap} {L : Addr} {m : Str → Option Value} {env : Env}
theorem compRest_ind {elt : Expr} {x : Str} {scope : Scope} {cl : List (Str × Addr)} {S : Led → Prop} {P : Nat → Value → Prop} {Fin : List Value → Led → Prop} {n : Nat} (Inv : Nat → List Value → Led → Prop)
    (step : ∀ {i v ys news I oI C oC D m₂ h tk} {E' : Value → Shared → Prop}, i < n → Inv i ys news → P i v → LCg.NsObj oC m₂ → m₂ x = some v → Fr h₀ L h m → News h₀ L h ((I, oI) :: (C, oC) :: (D, LCg.lst ys) :: news) → LCg.Off3 I C D news →
      wpAny (model prog w) A (eval elt (compEnvC scope cl C env)) (LCg.CompEnd h₀ L m { s with heap := h, toks := tk } I oI C oC D (LCg.lst ys) S (fun y news' => Inv (i + 1) (ys ++ [y]) news')) E' { s with heap := h, toks := tk })
    (fin : ∀ ys news, Inv n ys news → Fin ys news) : ∀ k {i ys news}, i + k = n → Inv i ys news → LCg.CompRest prog w A h₀ L m env elt x scope cl s S P Fin k i ys news := by
  intro k
  induction k with
  | zero => intro i ys news e hI; exact LCg.CompRest.zero (fin _ _ (by rw [← e]; exact hI))
  | succ k ih =>
    intro i ys news e hI
    refine LCg.CompRest.succ fun v I oI C oC D m₂ h tk E' hP hC hx F N off ne => ?_
    refine wpAny_mono (step (by omega) hI hP hC hx F N off) (fun y s₂ h₂ => ?_) fun _ _ z => z
    refine exC3 h₂ ?_; (try clear h₂); intro h' tk' news' hR; refine anC6 hR ?_; clear hR; intro e1 F' N' o' hS r
    exact exI3 h' tk' news' ⟨e1, F', N', o', hS, ih (by omega) r⟩
theorem map_src {elt : Expr} {x : Str} {scope : Scope} {cl : List (Str × Addr)} {R : Value → T → Prop} {O : Led → Value → T → Prop} (Om : ∀ {D D' : Led} {v : Value} {t : T}, (∀ p ∈ D, p ∈ D') → O D v t → O D' v t) {kids : List T} {vs : Array Value} {ax : Addr} {kl : Nat} {all : Led} {Q : Value → Shared → Prop}
    (hh : A.handled = none) (F : Fr h₀ L s.heap m) (N : News h₀ L s.heap all) (hm : (ax, listOf vs kl) ∈ all) (hz : vs.size ≤ 16) (hR : AllIn R vs.toList kids)
    (turn : ∀ {v : Value} {t : T} {ys : List Value} {tl : Led} {I : Addr} {oI : Obj} {C : Addr} {oC : Obj} {Dl : Addr} {m₂ : Str → Option Value} {h : Heap} {tk : Nat} {E' : Value → Shared → Prop} {QC : Value → Shared → Prop}, R v t → t ∈ kids → LCg.NsObj oC m₂ → m₂ x = some v → Fr h₀ L h m →
      News h₀ L h ((I, oI) :: (C, oC) :: (Dl, LCg.lst ys) :: (tl ++ all)) →
      (∀ v' h' tk' tl', Fr h₀ L h' m → News h₀ L h' (tl' ++ ((I, oI) :: (C, oC) :: (Dl, LCg.lst ys) :: (tl ++ all))) → Fresh ((I, oI) :: (C, oC) :: (Dl, LCg.lst ys) :: (tl ++ all)) tl' → O tl' v' t → QC v' { s with heap := h', toks := tk' }) →
      wpAny (model prog w) A (eval elt (compEnvC scope cl C env)) QC E' { s with heap := h, toks := tk })
    (fin : ∀ {ys : List Value} {tl : Led} {D : Addr} {h : Heap} {tk : Nat}, Fresh all tl → AllIn (O tl) ys kids → Fr h₀ L h m → News h₀ L h ((D, LCg.lst ys) :: (tl ++ all)) → (∀ p ∈ tl ++ all, @Ne Nat p.1 D) → Q (.ref D) { s with heap := h, toks := tk }) :
    LCg.CompSrc prog w A h₀ L m env elt x scope cl (fun s₂ => LCg.FinE h₀ L m s₂ Q) (.ref ax) s := by
  refine LCg.CompSrc.ledger hh F N hm (Nat.le_trans hz (by decide)) fun g => ?_
  refine compRest_ind (fun i ys news => ∃ tl, news = tl ++ all ∧ Fresh all tl ∧ AllIn (O tl) ys (kids.take i)) ?_ ?_ _ (Nat.zero_add _) ⟨[], rfl, fresh_nil, by rw [List.take_zero]; trivial⟩
  · intro i v ys news I oI C oC D m₂ h tk E' hi hI9 hP hC hx F' N' off; refine exC1 hI9 ?_; (try clear hI9); intro tl hR; refine anC3 hR ?_; clear hR; intro hO1 fr ha; subst hO1
    obtain ⟨t, ht, hm', hr⟩ := hR.get (i := i) (v := v) (by rw [Array.getElem?_toList]; exact hP)
    refine turn hr hm' hC hx F' N' fun v' h' tk' tl' F2 N2 fr' ho => ?_
    refine LCg.CompEnd.intro F2 N2 (tl' ++ (tl ++ all)) ?_ (LCg.Off3.of fun p hp => ?_) ?_ ⟨tl' ++ tl, by rw [List.append_assoc], ?_, ?_⟩
    · intro p hp
      simp only [List.mem_cons, List.mem_append] at hp ⊢
      grind
    · rcases List.mem_append.mp hp with hp | hp
      · exact ⟨Ne.symm (fr' p hp (I, oI) (.head _)), Ne.symm (fr' p hp (C, oC) (.tail _ (.head _))), Ne.symm (fr' p hp (D, LCg.lst ys) (.tail _ (.tail _ (.head _))))⟩
      · exact off.mem p hp
    · exact .inr ⟨_, List.mem_append_right _ (List.mem_append_right _ hm), rfl, _, rfl⟩
    · exact fresh_app (fr'.sub fun p hp => .tail _ (.tail _ (.tail _ (List.mem_append_right _ hp)))) fr
    · have e : kids.take (i + 1) = kids.take i ++ [t] := by
        rw [List.take_add_one, ht]; rfl
      rw [e]
      exact (ha.mono fun v t => Om fun p hp => List.mem_append_right _ hp).snoc (Om (fun p hp => List.mem_append_left _ hp) ho)
  · intro ys news hI9; refine exC1 hI9 ?_; (try clear hI9); intro tl hR; refine anC3 hR ?_; clear hR; intro hO1 fr ha; subst hO1
    intro D h tk F' N' o1
    have e : kids.take vs.size = kids := List.take_of_length_le (by have := hR.len; rw [Array.length_toList] at this; omega)
    rw [e] at ha
    have off : ∀ {l : Led}, LCg.Off1 D l → ∀ p ∈ l, @Ne Nat p.1 D := by
      intro l
      induction l with
      | nil => intro _ p h; cases h
      | cons a r ih =>
        intro x p h
        unfold LCg.Off1 at x
        rcases List.mem_cons.mp h with rfl | h
        · exact x.1
        · exact ih x.2 p h
    exact fin fr ha F' N' (off o1)
end
end

end
section
theorem kw_mapcw0 : True := by
  (k_with "mapc;0" => first | (refine' off_ne ?h_mapcw0 ?m_mapcw0; (case h_mapcw0 => assumption); (case m_mapcw0 => k_mem)) | (refine' off_ne' ?h_mapcw0 ?m_mapcw0; (case h_mapcw0 => assumption); (case m_mapcw0 => k_mem)) | fail)
  trivial
local macro_rules | `(tactic| k_ne) => `(tactic| k_extra "mapc;0")
theorem reset_lel : True := by
  (w_top off)
  (k_with "b106" => first | ((with_reducible refine (?_ : wpAny _ _ (eval (Expr.ListComp _ _ _ _) _) _ _ _)); first | (with_reducible (k_extra "lel1")) | fail) | fail)
  (k_with "b107" => first | ((fail_if_success (with_reducible refine (?_ : wpAny _ _ _ _ _ _))); first | ((with_reducible refine (?_ : LCg.CompSrc ..)); first | (with_reducible (k_extra "lel2")) | fail) | fail) | fail)
  (k_with "b108" => first | ((with_reducible refine (?_ : wpAny _ _ (call (Value.ref _) _) _ _ _)); first | (with_reducible (k_extra "lel3")) | fail) | fail)
  trivial
section
-- part lel
noncomputable def ElC (w : World) (n : Nat) : Prop := ∀ {t : T} {v : Value} {all : Led}, TreeIn w all v t → height t ≤ n → OkT t → Call w (6 * n + 20) 329 [v] all (fun v' D' => ∃ tl, D' = tl ++ all ∧ Fresh all tl ∧ ElemIn w tl v' t)
theorem el_fin {w : World} {h₀ h : Heap} {L a b x dx d9 D : Addr} {oa ob o9 : Obj} {all tl : Led} {ys : List Value} {kids : List T} {ws : Ws} {kv9 : List (Str × Value)} {name text : Str} {v1 v2 v3 v4 : Int} {s1 s2 s3 s4 tn tt : Tok} {o0 : Obj}
    (N : News h₀ L h ((a, oa) :: (D, LCg.lst ys) :: (tl ++ (b, ob) :: (x, instObj 203 dx) :: (dx, dictOf [⟨v1, .str (S "name") s1, .str name tn⟩, ⟨v2, .str (S "attributes") s2, .ref d9⟩, ⟨v3, .str (S "children") s3, .ref D⟩, ⟨v4, .str (S "text") s4, .str text tt⟩] 4) :: (d9, o9) :: all)))
    (qa : AllLt a all) (qb : AllLt b all) (qx : AllLt x all) (qdx : AllLt dx all) (q9 : AllLt d9 all) (off : ∀ p ∈ tl ++ (b, ob) :: (x, instObj 203 dx) :: (dx, o0) :: (d9, o9) :: all, @Ne Nat p.1 D)
    (fr : Fresh ((b, ob) :: (x, instObj 203 dx) :: (dx, o0) :: (d9, o9) :: all) tl) (ha : AllIn (ElemIn w tl) ys kids) (hd : o9.IsDictOf (strKind prg w) kv9) (hw : WsAre kv9 ws) (lo : (d9 == sysModules) = false) :
    ∃ D', News h₀ L h D' ∧ ∃ tl', D' = tl' ++ all ∧ Fresh all tl' ∧ ElemIn w tl' (.ref x) (.mk name ws kids text) := by
  refine ⟨((a, oa) :: (D, LCg.lst ys) :: (tl ++ [(b, ob), (x, instObj 203 dx), (dx, dictOf [⟨v1, .str (S "name") s1, .str name tn⟩, ⟨v2, .str (S "attributes") s2, .ref d9⟩, ⟨v3, .str (S "children") s3, .ref D⟩, ⟨v4, .str (S "text") s4, .str text tt⟩] 4), (d9, o9)])) ++ all, ?_, _, rfl, ?_, ?_⟩
  · intro p hp
    refine N p ?_
    simp only [List.mem_append, List.mem_cons, List.not_mem_nil, or_false] at hp ⊢
    grind
  · refine fresh_cons qa (fresh_cons' (fun q hq => off q (List.mem_append_right _ (.tail _ (.tail _ (.tail _ (.tail _ hq)))))) (fresh_app (fr.sub fun p hp => .tail _ (.tail _ (.tail _ (.tail _ hp)))) (fresh_cons qb (fresh_cons qx (fresh_cons qdx (fresh_cons q9 fresh_nil))))))
  · unfold ElemIn
    refine ⟨x, dx, d9, D, 4, ys.length, ys.toArray, _, _, _, _, _, _, _, _, _, _, rfl, ?_, .tail _ (.tail _ (List.mem_append_right _ (.tail _ (.tail _ (.head _))))), ⟨o9, kv9, ?_, hd, hw, lo⟩, .tail _ (.head _), ?_⟩
    · exact .tail _ (.tail _ (List.mem_append_right _ (.tail _ (.head _))))
    · exact .tail _ (.tail _ (List.mem_append_right _ (.tail _ (.tail _ (.tail _ (.head _))))))
    · exact elems_all.mpr (ha.mono fun v t z => ElemIn.mono (fun p hp => .tail _ (.tail _ (List.mem_append_left _ hp))) z)
section
theorem kw_lel1 : True := by
  (k_with "lel1" => first | (k_here; k_dflt (refine LCg.ListComp_U (F₀ := by k_asm) (by with_unfolding_all rfl) (by decide) (by rfl) (by decide) (by rfl) ?_)) | fail)
  (k_with "lel2" => first | (refine Hold.intro ?_) | fail)
  (k_with "lel3" => first | (k_here; (with_reducible refine (?_ : wpAny _ _ (call (Value.ref 329) _) _ _ _)); (rename ElC _ _ => lIH); (try ((fail_if_success (fail_if_success k_fold)); (refine fold1 ?_); intro qk)); k_dflt (refine' Call.use (lIH ?ht_lel3 ?hh_lel3 ?ok_lel3) ?k1_lel3 ?k2_lel3 ?k3_lel3 ?k4_lel3 ?k5_lel3 ?k6_lel3 ?kd_lel3 ?ku_lel3 (fun _ h => h) ?_; (case k1_lel3 => k_asm); (case k2_lel3 => k_asm); (case k3_lel3 => k_asm); (case k4_lel3 => k_asm); (case k5_lel3 => k_asm); (case k6_lel3 => first | exact rfl | assumption); (case kd_lel3 => ktr_room); (case ku_lel3 => ktr_units); (case ht_lel3 => (refine' TreeIn.mono ?s_lel3 ?h_lel3; (case h_lel3 => assumption); (case s_lel3 => ((repeat' (first | exact (fun _ h => h) | assumption | refine sub_consM ?_ | refine sub_appM ?_)))))); (case hh_lel3 => assumption); (case ok_lel3 => assumption); k_whole); (k_dflt (refine' ret_tl ?_)); intro v9 tl9 h9 tk9 F9 N9 g09 g19; (try k_sweep); (try dsimp only); (try k_fold)) | fail)
  trivial
theorem el_step {w : World} {n : Nat} (ih : ElC w n) {name text : Str} {ws : Ws} {kids : List T} {all : Led} {x d l : Addr} {od : Obj} {kvs : List (Str × Value)} {vs : Array Value} {kl : Nat} {tn tt : Tok}
    (mx : (x, ({ cls := .type "tuple", data := .seq #[.str name tn, .ref d, .ref l, .str text tt] } : Obj)) ∈ all) (mo : (d, od) ∈ all) (hd : od.IsDictOf (strKind prg w) kvs) (hw : WsAre kvs ws) (hlo : (d == sysModules) = false) (ml : (l, listOf vs kl) ∈ all)
    (hk : AllIn (TreeIn w all) vs.toList kids) (hz : ws.length ≤ 100) (hkz : vs.size ≤ 16) (hh : ∀ t ∈ kids, height t ≤ n) (ok : ∀ t ∈ kids, OkT t) :
    Call w (6 * (n + 1) + 20) 329 [.ref x] all (fun v' D' => ∃ tl, D' = tl ++ all ∧ Fresh all tl ∧ ElemIn w tl v' (.mk name ws kids text)) := by
  constructor
  intro dp un gd cn cs a ccd cl outer A₀ base h₀ L m sh sg sd st so mean mg mb Q E B F X N T hk' hdp hun ret
  skip
  refine wpAny_call ?_
  k_dflt ktr_enter
  (repeat' (first | k_extra "sa" | k_extra "b106" | k_extra "b30" | k_extra "b5" | k_extra "b65" | k_extra "b1" | k_extra "b7" | k_extra "b2" | k_extra "b107" | k_extra "sz"))
  unfold Hold
  refine' map_src (R := TreeIn w all) (O := ElemIn w) (fun h x => ElemIn.mono h x) rfl ?zF ?zN ?zm hkz hk ?zt ?zf
  case zF => k_asm
  case zN => k_asm
  case zm => k_mem
  case zt =>
    intro v t ys tl I oI C oC Dl m₂ h tk E' QC hR htm hC hx F3 N3 hret
    have b1 := hh t htm
    have b2 := ok t htm
    (repeat' (first | k_extra "sa" | k_extra "b108" | k_extra "sz"))
    exact hret _ _ _ _ (by k_asm) (by assumption) (by assumption) (by assumption)
  case zf =>
    intro ys tl D h tk fr ha F3 N3 off
    (repeat' (first | k_extra "sa" | k_extra "b0" | k_extra "b1" | k_extra "b23" | k_extra "sz"))
    obtain ⟨D', hN, hP⟩ := el_fin (by assumption) (by ktr_rel) (by ktr_rel) (by ktr_rel) (by ktr_rel) (by ktr_rel) off fr ha (by assumption) (by assumption) (by assumption)
    exact ret _ _ _ D' (by k_asm) hN hP
end
theorem elC_all {w : World} (n : Nat) : ElC w n := by
  induction n with
  | zero =>
    intro t v all ht hh ok
    cases t with | mk _ _ _ _ => unfold height at hh; omega
  | succ n ih =>
    intro t v all ht hh ok
    cases t with
    | mk name ws kids text =>
      unfold TreeIn at ht
      (with_reducible refine (?_ : (let lG : Prop := _; lG))); intro lG; obtain ⟨x, d, l, k, vs, tn, tt, rfl, a1, ⟨o, kvs, a3, a4, a5, a6⟩, a7, a8⟩ := ht; k_unfold; clear lG
      unfold OkT at ok
      unfold height at hh
      have hl := (trees_all.mp a8).len
      rw [Array.length_toList] at hl
      exact el_step ih a1 a3 a4 a5 a6 a7 (trees_all.mp a8) (by omega) (by omega) (fun t ht => by have := height_kid ht; omega) (fun t ht => ok.2.2.2.mem ht)
theorem c_el {w : World} {t : T} {v : Value} {all : Led} (ht : TreeIn w all v t) (hh : height t ≤ 3) (ok : OkT t) : Call w 38 329 [v] all (fun v' D' => ∃ tl, D' = tl ++ all ∧ Fresh all tl ∧ ElemIn w tl v' t) := elC_all 3 ht hh ok
end

theorem reset_ltd : True := by
  (w_top off)
  (k_with "b109" => first | ((with_reducible refine (?_ : wpAny _ _ (eval (Expr.ListComp _ _ _ _) _) _ _ _)); first | (with_reducible (k_extra "ltd1")) | fail) | fail)
  (k_with "b110" => first | ((fail_if_success (with_reducible refine (?_ : wpAny _ _ _ _ _ _))); first | ((with_reducible refine (?_ : LCg.CompSrc ..)); first | (with_reducible (k_extra "ltd2")) | fail) | fail) | fail)
  (k_with "b111" => first | ((with_reducible refine (?_ : wpAny _ _ (call (Value.ref _) _) _ _ _)); first | (with_reducible (k_extra "ltd3")) | fail) | fail)
  trivial
section
-- part ltd
mutual
noncomputable def SzT : T → Prop
  | .mk _ ws kids _ => ws.length ≤ 40 ∧ kids.length ≤ 16 ∧ SzTs kids
noncomputable def SzTs : List T → Prop
  | [] => True
  | t :: ts => SzT t ∧ SzTs ts
end
theorem SzTs.mem : ∀ {ts : List T} {t : T}, SzTs ts → t ∈ ts → SzT t
  | _ :: _, t, h, m => by
    unfold SzTs at h
    rcases List.mem_cons.mp m with rfl | m
    · exact h.1
    · exact SzTs.mem h.2 m
noncomputable def ToC (w : World) (n : Nat) : Prop := ∀ {t : T} {v : Value} {all : Led}, ElemIn w all v t → height t ≤ n → SzT t → Call w (6 * n + 20) 334 [v] all (fun v' D' => ∃ tl, D' = tl ++ all ∧ Fresh all tl ∧ TreeIn w tl v' t)
theorem to_fin {w : World} {h₀ h : Heap} {L x d9 D : Addr} {o9 : Obj} {all tl : Led} {ys : List Value} {kids : List T} {ws : Ws} {kv9 : List (Str × Value)} {name text : Str} {tn tt : Tok}
    (N : News h₀ L h ((x, ({ cls := .type "tuple", data := .seq #[.str name tn, .ref d9, .ref D, .str text tt] } : Obj)) :: (D, LCg.lst ys) :: (tl ++ (d9, o9) :: all)))
    (qx : AllLt x all) (q9 : AllLt d9 all) (off : ∀ p ∈ tl ++ (d9, o9) :: all, @Ne Nat p.1 D)
    (fr : Fresh ((d9, o9) :: all) tl) (ha : AllIn (TreeIn w tl) ys kids) (hd : o9.IsDictOf (strKind prg w) kv9) (hw : WsAre kv9 ws) (lo : (d9 == sysModules) = false) :
    ∃ D', News h₀ L h D' ∧ ∃ tl', D' = tl' ++ all ∧ Fresh all tl' ∧ TreeIn w tl' (.ref x) (.mk name ws kids text) := by
  refine ⟨((x, ({ cls := .type "tuple", data := .seq #[.str name tn, .ref d9, .ref D, .str text tt] } : Obj)) :: (D, LCg.lst ys) :: (tl ++ [(d9, o9)])) ++ all, ?_, _, rfl, ?_, ?_⟩
  · intro p hp
    refine N p ?_
    simp only [List.mem_append, List.mem_cons, List.not_mem_nil, or_false] at hp ⊢
    grind
  · exact fresh_cons qx (fresh_cons' (fun q hq => off q (List.mem_append_right _ (.tail _ hq))) (fresh_app (fr.sub fun p hp => .tail _ hp) (fresh_cons q9 fresh_nil)))
  · unfold TreeIn
    refine ⟨x, d9, D, ys.length, ys.toArray, _, _, rfl, .head _, ⟨o9, kv9, ?_, hd, hw, lo⟩, .tail _ (.head _), ?_⟩
    · exact .tail _ (.tail _ (List.mem_append_right _ (.head _)))
    · exact trees_all.mpr (ha.mono fun v t z => TreeIn.mono (fun p hp => .tail _ (.tail _ (List.mem_append_left _ hp))) z)
section
theorem kw_ltd1 : True := by
  (k_with "ltd1" => first | (k_here; k_dflt (refine LCg.ListComp_U (F₀ := by k_asm) (by with_unfolding_all rfl) (by decide) (by rfl) (by decide) (by rfl) ?_)) | fail)
  (k_with "ltd2" => first | (refine Hold.intro ?_) | fail)
  (k_with "ltd3" => first | (k_here; (with_reducible refine (?_ : wpAny _ _ (call (Value.ref 334) _) _ _ _)); (rename ToC _ _ => lIH); (try ((fail_if_success (fail_if_success k_fold)); (refine fold1 ?_); intro qk)); k_dflt (refine' Call.use (lIH ?ht_ltd3 ?hh_ltd3 ?ok_ltd3) ?k1_ltd3 ?k2_ltd3 ?k3_ltd3 ?k4_ltd3 ?k5_ltd3 ?k6_ltd3 ?kd_ltd3 ?ku_ltd3 (fun _ h => h) ?_; (case k1_ltd3 => k_asm); (case k2_ltd3 => k_asm); (case k3_ltd3 => k_asm); (case k4_ltd3 => k_asm); (case k5_ltd3 => k_asm); (case k6_ltd3 => first | exact rfl | assumption); (case kd_ltd3 => ktr_room); (case ku_ltd3 => ktr_units); (case ht_ltd3 => (refine' ElemIn.mono ?s_ltd3 ?h_ltd3; (case h_ltd3 => assumption); (case s_ltd3 => ((repeat' (first | exact (fun _ h => h) | assumption | refine sub_consM ?_ | refine sub_appM ?_)))))); (case hh_ltd3 => assumption); (case ok_ltd3 => assumption); k_whole); (k_dflt (refine' ret_tl ?_)); intro v9 tl9 h9 tk9 F9 N9 g09 g19; (try k_sweep); (try dsimp only); (try k_fold)) | fail)
  trivial
theorem to_step {w : World} {n : Nat} (ih : ToC w n) {name text : Str} {ws : Ws} {kids : List T} {all : Led} {x dx d l : Addr} {od : Obj} {kvs : List (Str × Value)} {vs : Array Value} {kl nn : Nat} {g1 g2 g3 g4 : Int} {s1 s2 s3 s4 tn tt : Tok}
    (mx : (x, instObj 203 dx) ∈ all) (mdx : (dx, dictOf [⟨g1, .str (S "name") s1, .str name tn⟩, ⟨g2, .str (S "attributes") s2, .ref d⟩, ⟨g3, .str (S "children") s3, .ref l⟩, ⟨g4, .str (S "text") s4, .str text tt⟩] nn) ∈ all) (mo : (d, od) ∈ all) (hd : od.IsDictOf (strKind prg w) kvs) (hw : WsAre kvs ws) (hlo : (d == sysModules) = false) (ml : (l, listOf vs kl) ∈ all)
    (hk : AllIn (ElemIn w all) vs.toList kids) (hz : ws.length ≤ 100) (hkz : vs.size ≤ 16) (hh : ∀ t ∈ kids, height t ≤ n) (ok : ∀ t ∈ kids, SzT t) :
    Call w (6 * (n + 1) + 20) 334 [.ref x] all (fun v' D' => ∃ tl, D' = tl ++ all ∧ Fresh all tl ∧ TreeIn w tl v' (.mk name ws kids text)) := by
  constructor
  intro dp un gd cn cs a ccd cl outer A₀ base h₀ L m sh sg sd st so mean mg mb Q E B F X N T hk' hdp hun ret
  skip
  refine wpAny_call ?_
  k_dflt ktr_enter
  (repeat' (first | k_extra "sa" | k_extra "b10" | k_extra "b109" | k_extra "b30" | k_extra "b5" | k_extra "b110" | k_extra "sz"))
  unfold Hold
  refine' map_src (R := ElemIn w all) (O := TreeIn w) (fun h x => TreeIn.mono h x) rfl ?zF ?zN ?zm hkz hk ?zt ?zf
  case zF => k_asm
  case zN => k_asm
  case zm => k_mem
  case zt =>
    intro v t ys tl I oI C oC Dl m₂ h tk E' QC hR htm hC hx F3 N3 hret
    have b1 := hh t htm
    have b2 := ok t htm
    (repeat' (first | k_extra "sa" | k_extra "b111" | k_extra "sz"))
    exact hret _ _ _ _ (by k_asm) (by assumption) (by assumption) (by assumption)
  case zf =>
    intro ys tl D h tk fr ha F3 N3 off
    (repeat' (first | k_extra "sa" | k_extra "b23" | k_extra "sz"))
    obtain ⟨D', hN, hP⟩ := to_fin (by assumption) (by ktr_rel) (by ktr_rel) off fr ha (by assumption) (by assumption) (by assumption)
    exact ret _ _ _ D' (by k_asm) hN hP
end
theorem toC_all {w : World} (n : Nat) : ToC w n := by
  induction n with
  | zero =>
    intro t v all ht hh ok
    cases t with | mk _ _ _ _ => unfold height at hh; omega
  | succ n ih =>
    intro t v all ht hh ok
    cases t with
    | mk name ws kids text =>
      unfold ElemIn at ht
      (with_reducible refine (?_ : (let lG : Prop := _; lG))); intro lG; obtain ⟨x, dx, d, l, nn, k, vs, h1, h2, h3, h4, t1, t2, t3, t4, tn, tt, rfl, a1, a2, ⟨o, kvs, a3, a4, a5, a6⟩, a7, a8⟩ := ht; k_unfold; clear lG
      unfold SzT at ok
      unfold height at hh
      have hl := (elems_all.mp a8).len
      rw [Array.length_toList] at hl
      exact to_step ih a1 a2 a3 a4 a5 a6 a7 (elems_all.mp a8) (by omega) (by omega) (fun t ht => by have := height_kid ht; omega) (fun t ht => ok.2.2.mem ht)
theorem szT_of {t : T} (h : OkT t) : SzT t := by
  have key : ∀ n, (∀ t, height t ≤ n → OkT t → SzT t) ∧ (∀ ts, heights ts ≤ n → OkTs ts → SzTs ts) := by
    intro n
    induction n with
    | zero =>
      refine ⟨fun t hh _ => by cases t with | mk _ _ _ _ => unfold height at hh; omega, fun ts hh _ => ?_⟩
      cases ts with
      | nil => unfold SzTs; trivial
      | cons a r => cases a with | mk _ _ _ _ => unfold heights height at hh; omega
    | succ n ih =>
      have h1 : ∀ t, height t ≤ n + 1 → OkT t → SzT t := fun t hh ok => by
        cases t with
        | mk name ws kids text =>
          unfold height at hh
          unfold OkT at ok
          unfold SzT
          exact ⟨by omega, ok.2.1, ih.2 kids (by omega) ok.2.2.2⟩
      refine ⟨h1, fun ts => ?_⟩
      induction ts with
      | nil => intro _ _; unfold SzTs; trivial
      | cons a r ihr =>
        intro hh ok
        unfold heights at hh
        unfold OkTs at ok
        unfold SzTs
        exact ⟨h1 a (by omega) ok.1, ihr (by omega) ok.2⟩
  exact (key (height t)).1 t (Nat.le_refl _) h
theorem putF_sz {ids : List (Str × T)} {most : Nat} (hI : IdsOk ids) : ∀ n {t : T} {names : List Str} {made : Nat} {t' : T} {made' : Nat}, OkT t → putF ids most n t names made = (.ok t', made') → height t' ≤ n ∧ SzT t' := by
  intro n
  induction n with
  | zero => intro t names made t' made' _ h; cases h
  | succ n ih =>
    have kids : ∀ {names : List Str} (ts : List T) {made : Nat} {r : List T} {k : Nat}, OkTs ts → kidsF (fun c m => putF ids most n c names m) ts made = (.inl r, k) → heights r ≤ n ∧ r.length = ts.length ∧ SzTs r := by
      intro names ts
      induction ts with
      | nil => intro made r k _ h; cases h; exact ⟨by unfold heights; omega, rfl, by unfold SzTs; trivial⟩
      | cons c q ihq =>
        intro made r k ok h
        unfold OkTs at ok
        unfold kidsF at h
        cases hc : putF ids most n c names made with
        | mk a m1 =>
          rw [hc] at h
          cases a with
          | limit => cases h
          | sheet => cases h
          | ok t1 =>
            dsimp only at h
            cases hk : kidsF (fun c m => putF ids most n c names m) q m1 with
            | mk b m2 =>
              rw [hk] at h
              cases b with
              | inr e => cases h
              | inl r1 =>
                cases h
                obtain ⟨a1, a2⟩ := ih ok.1 hc
                obtain ⟨b1, b2, b3⟩ := ihq ok.2 hk
                exact ⟨by unfold heights; omega, by rw [List.length_cons, List.length_cons, b2], by unfold SzTs; exact ⟨a2, b3⟩⟩
    intro t names made t' made' ok h
    cases t with
    | mk name ws ks text =>
      by_cases hn : name = S "use"
      · subst hn
        unfold OkT at ok
        rw [putF_use] at h
        by_cases hm : made + 1 > most
        · rw [if_pos hm] at h; cases h
        · rw [if_neg hm] at h
          cases hl : linkName ws with
          | none => rw [grpR_none hl] at h; cases h
          | some nm =>
            cases hk0 : lookT ids nm with
            | none => rw [grpR_miss hl hk0] at h; cases h
            | some tgt =>
              by_cases hlim : nm ∈ names ∨ 12 ≤ names.length
              · rw [grpR_lim hl hk0 hlim] at h; cases h
              · rw [grpR_go hl hk0 hlim] at h
                cases hp : putF ids most n (framedT ws tgt) (names ++ [nm]) (made + 1) with
                | mk a m1 =>
                  rw [hp] at h
                  cases a with
                  | limit => cases h
                  | sheet => cases h
                  | ok t1 =>
                    obtain ⟨p, hp', rfl⟩ := lookT_mem hk0
                    obtain ⟨b1, b2, b3⟩ := hI p hp'
                    obtain ⟨a1, a2⟩ := ih (framed_ok b1 b3) hp
                    unfold goRes at h
                    dsimp only at h
                    by_cases hb : bad50 ws = true
                    · rw [if_pos hb] at h; cases h
                    · rw [if_neg hb] at h
                      cases h
                      refine ⟨by unfold height heights heights; omega, ?_⟩
                      unfold SzT SzTs SzTs
                      refine ⟨?_, Nat.le_of_ble_eq_true rfl, a2, trivial⟩
                      unfold groupWs
                      rw [List.length_append]
                      have := List.length_filter_le (fun p : Str × Str => decide (p.1 = S "fill")) ws
                      have := ok.1
                      simp only [List.length_singleton]
                      omega
      · have h' : (if made + 1 > most then ((.limit, made + 1) : Res × Nat) else match kidsF (fun c m => putF ids most n c names m) ks (made + 1) with
            | (.inl r, m) => (.ok (.mk name ws r text), m)
            | (.inr e, m) => (e, m)) = (.ok t', made') := by
          rw [← h]
          show _ = (if made + 1 > most then _ else if (T.mk name ws ks text).name = S "use" then _ else _)
          rw [if_neg (show ¬ (T.mk name ws ks text).name = S "use" from hn)]
          rfl
        by_cases hm : made + 1 > most
        · rw [if_pos hm] at h'; cases h'
        · rw [if_neg hm] at h'
          unfold OkT at ok
          cases hk : kidsF (fun c m => putF ids most n c names m) ks (made + 1) with
          | mk b m2 =>
            rw [hk] at h'
            cases b with
            | inr e =>
              dsimp only at h'
              have e1 : e = .ok t' := by cases h'; rfl
              exact absurd (e1 ▸ hk) kidsF_nores
            | inl r =>
              cases h'
              obtain ⟨b1, b2, b3⟩ := kids ks ok.2.2.2 hk
              refine ⟨by unfold height; omega, ?_⟩
              unfold SzT
              exact ⟨by omega, by omega, b3⟩
end

theorem reset_lfr : True := by
  (w_top off)
  (k_with "b112" => first | ((with_reducible refine (?_ : wpAny _ _ (pyIter (Value.ref _)) _ _ _)); first | (with_reducible (k_extra "lfr4")) | fail) | fail)
  (k_with "b113" => first | ((with_reducible refine (?_ : wpAny _ _ (exec (Stmt.If _ _ _ _) _) _ _ _)); first | (with_reducible (k_extra "lfr1")) | fail) | fail)
  (k_with "b114" => first | ((with_reducible refine (?_ : wpAny _ _ (subscriptTail (Expr.Subscript _ _ _) _ _ _) _ _ _)); first | (with_reducible (k_extra "call:5")) | fail) | fail)
  (k_with "b115" => first | ((fail_if_success (with_reducible refine (?_ : wpAny _ _ _ _ _ _))); first | ((with_reducible refine (?_ : FrMid ..)); first | (with_reducible (k_extra "lfr2")) | fail) | ((with_reducible refine (?_ : (@ite _ _ (_) _ _))); first | (with_reducible (k_extra "call:3")) | fail) | fail) | fail)
  (k_with "b116" => first | ((fail_if_success (with_reducible refine (?_ : wpAny _ _ _ _ _ _))); first | ((with_reducible refine (?_ : SubL ..)); first | (k_extra "lfr3") | fail) | ((with_reducible refine (?_ : UnrEndW ..)); first | (k_extra "lem:2") | fail) | fail) | fail)
  trivial
section
-- part lfr
noncomputable def LFPost (w : World) (D all : Led) (tgt : T) (v : Value) (D' : Led) : Prop := ∃ tl, D' = tl ++ all ∧ Fresh all tl ∧ TreeIn w (tl ++ D) v tgt
theorem LFPost.elim {w : World} {D all : Led} {tgt : T} {v : Value} {D' : Led} (h : LFPost w D all tgt v D') : ∃ tl, D' = tl ++ all ∧ Fresh all tl ∧ TreeIn w (tl ++ D) v tgt := h
theorem lfr_fin {w : World} {h₀ h : Heap} {L x9 d9 l2 : Addr} {a c : Addr × Obj} {o9 : Obj} {all D : Led} {vs : Array Value} {kl : Nat} {kids : List T} {kvs : List (Str × Value)} {ws : Ws} {text : Str} {tn tt : Tok} {tgt : T}
    (N : News h₀ L h ((x9, ({ cls := .type "tuple", data := .seq #[.str (S "svg") tn, .ref d9, .ref l2, .str text tt] } : Obj)) :: a :: (d9, o9) :: c :: all)) (q0 : AllLt x9 all) (q1 : AllLt a.1 all) (q2 : AllLt d9 all) (q3 : AllLt c.1 all)
    (hd : o9.IsDictOf (strKind prg w) kvs) (hw : WsAre kvs ws) (lo : (d9 == sysModules) = false)
    (ml : (l2, listOf vs kl) ∈ D) (mk : TreesIn w D vs.toList kids) (ht : tgt = .mk (S "svg") ws kids text) :
    ∃ D', News h₀ L h D' ∧ LFPost w D all tgt (.ref x9) D' := by
  refine ⟨[(x9, ({ cls := .type "tuple", data := .seq #[.str (S "svg") tn, .ref d9, .ref l2, .str text tt] } : Obj)), a, (d9, o9), c] ++ all, N, _, rfl, fresh_cons q0 (fresh_cons q1 (fresh_cons q2 (fresh_cons q3 fresh_nil))), ?_⟩
  subst ht
  unfold TreeIn
  exact ⟨x9, d9, l2, kl, vs, _, _, rfl, .head _, ⟨o9, kvs, .tail _ (.tail _ (.head _)), hd, hw, lo⟩, List.mem_append_right _ ml, TreesIn.mono sub_app mk⟩
section
theorem kw_lfr1 : True := by
  (k_with "lfr1" => first | (k_here; (with_reducible refine (?_ : wpAny _ _ (exec (Stmt.If (Expr.Compare (Expr.Name _ _) _ _ _) _ _ _) _) _ _ _)); k_dflt (refine' fr_if ?F_lfr1 ?hd_lfr1 ?hw_lfr1 ?hs_lfr1 ?N_lfr1 ?md_lfr1 ?U_lfr1 ?_ ?_ ?_; (case F_lfr1 => k_asm); (case hd_lfr1 => k_asm); (case hw_lfr1 => k_asm); (case hs_lfr1 => k_asm); (case N_lfr1 => k_asm); (case md_lfr1 => k_mem); (case U_lfr1 => k_updF)); intro x9 h9' n9; rotate_left; intro h9' n9; rotate_left; intro h9' tk9' o9' kvs9' F' N' hd9' hw9'; (try dsimp only at N'); (try k_sweep)) | fail)
  (k_with "lfr2" => first | (refine' fr_mid ?a_lfr2 ?b_lfr2 ?c_lfr2 ?d_lfr2 ?e_lfr2; (case a_lfr2 => k_asm); (case b_lfr2 => k_asm); (case c_lfr2 => k_asm); (case d_lfr2 => k_asm); (case e_lfr2 => assumption)) | fail)
  (k_with "lfr3" => first | (exact ⟨by k_mem, trivial⟩) | fail)
  (k_with "lfr4" => first | (k_here; (with_reducible refine (?_ : wpAny _ _ (pyIter (Value.ref _)) (fun it s₂ => TurnsAt _ _ _ _ _ _ _ _ _ it s₂) _ _)); (rename Fr _ _ _ _ => lF'); (rename News _ _ _ _ => lN'); (with_unfolding_all refine' iter_listTurns (by rfl) lF' lN' ?km_lfr4 ?k1_lfr4 ?k2_lfr4 ?_; (case km_lfr4 => k_mem); (case k1_lfr4 => exact rfl); (case k2_lfr4 => exact rfl); k_whole); clear lF' lN'; intro i' l1; (try k_lt l1); (try dsimp only [List.map])) | fail)
  trivial
theorem lfr_other {w : World} {D all : Led} {x x2 d2 l2 : Addr} {name text2 : Str} {sn st : Tok} {ws : Ws} {t : T}
    (hne1 : (name == S "symbol") = false) (hne2 : (name == S "svg") = false) (hn : t.name = name)
    (mx2 : (x2, ({ cls := .type "tuple", data := .seq #[.str name sn, .ref d2, .ref l2, .str text2 st] } : Obj)) ∈ all)
    (hx2 : TreeIn w D (.ref x2) t) :
    Call w 12 341 [.ref x, .ref x2] all (LFPost w D all (framedT ws t)) := by
  constructor
  intro dp un gd cn cs a ccd cl outer A₀ base h₀ L m sh sg sd st so mean mg mb Q E B F X N T hk hdp hun ret
  have ht : framedT ws t = t := by
    unfold framedT
    rw [if_neg]
    rw [hn]
    intro h
    rcases h with h | h
    · rw [h] at hne1; exact absurd hne1 (by decide)
    · rw [h] at hne2; exact absurd hne2 (by decide)
  rw [ht] at ret
  have hany : ([Str.ofString "symbol", Str.ofString "svg"].any fun x => x == name) = false := by
    have e : ∀ c : Str, (name == c) = false → (c == name) = false := fun c h => by
      rw [beq_eq_false_iff_ne] at h ⊢
      exact fun q => h q.symm
    rw [List.any_cons, List.any_cons, List.any_nil, e _ hne1, e _ hne2]
    rfl
  skip
  refine wpAny_call ?_
  k_dflt ktr_enter
  (repeat' (first | k_extra "sa" | k_extra "b0" | k_extra "b65" | k_extra "b23" | k_extra "sz"))
  exact ret _ _ _ all (by k_asm) (fun p hp => (by assumption : News h₀ L _ (_ :: all)) p (.tail _ hp)) ⟨[], rfl, fresh_nil, hx2⟩
theorem lfr_symbol {w : World} {D all : Led} {x d l x2 d2 l2 : Addr} {kl : Nat} {o o2 : Obj} {kvs kvs2 : List (Str × Value)} {ws ws2 : Ws} {name text text2 : Str} {vs : Array Value} {kids : List T} {tn tt sn st : Tok} {vw vh : Option Str}
    (mx : (x, ({ cls := .type "tuple", data := .seq #[.str name tn, .ref d, .ref l, .str text tt] } : Obj)) ∈ all)
    (md : (d, o) ∈ all) (hd : o.IsDictOf (strKind prg w) kvs) (hw : WsAre kvs ws) (hlo : (d == sysModules) = false)
    (mx2 : (x2, ({ cls := .type "tuple", data := .seq #[.str (S "symbol") sn, .ref d2, .ref l2, .str text2 st] } : Obj)) ∈ all)
    (md2 : (d2, o2) ∈ all) (hd2 : o2.IsDictOf (strKind prg w) kvs2) (hw2 : WsAre kvs2 ws2) (hlo2 : (d2 == sysModules) = false)
    (ml : (l2, listOf vs kl) ∈ D) (mk : TreesIn w D vs.toList kids)
    (hvw : wsGet ws (S "width") = vw) (hvh : wsGet ws (S "height") = vh) (hz : ws2.length ≤ 16) :
    Call w 12 341 [.ref x, .ref x2] all (LFPost w D all (framedT ws (.mk (S "symbol") ws2 kids text2))) := by
  constructor
  intro dp un gd cn cs a ccd cl outer A₀ base h₀ L m sh sg sd st so mean mg mb Q E B F X N T hk hdp hun ret
  have hz1 : ws2.length ≤ 100 := by omega
  have ht : framedT ws (.mk (S "symbol") ws2 kids text2) = .mk (S "svg") (frW1 ws (.mk (S "symbol") ws2 kids text2) (S "height") (frW1 ws (.mk (S "symbol") ws2 kids text2) (S "width") ws2)) kids text2 := rfl
  obtain ⟨w1, e1⟩ : ∃ w1, w1 = frW1 ws (.mk (S "symbol") ws2 kids text2) (S "width") ws2 := ⟨_, rfl⟩
  obtain ⟨w2, e2⟩ : ∃ w2, w2 = frW1 ws (.mk (S "symbol") ws2 kids text2) (S "height") w1 := ⟨_, rfl⟩
  rw [← e1, ← e2] at ht
  have qs1 : FrStep ws (S "width") (wsPut ws2 (S "width") (S "100%")) ws2 w1 := fr_stepS rfl e1
  have qs2 : FrStep ws (S "height") (wsPut w1 (S "height") (S "100%")) w1 w2 := fr_stepS rfl e2
  have qz1 : w1.length ≤ 100 := Nat.le_trans (fr_len qs1 (wsPut_len _ _ _)) (by omega)
  clear e1 e2 hvw hvh
  skip
  refine wpAny_call ?_
  k_dflt ktr_enter
  (repeat' (first | k_extra "sa" | k_extra "b27" | k_extra "b28" | k_extra "b112" | k_extra "b113" | k_extra "b30" | k_extra "b13" | k_extra "b5" | k_extra "b65" | k_extra "b1" | k_extra "b114" | k_extra "b32" | k_extra "b23" | k_extra "b2" | k_extra "b115" | k_extra "b116" | k_extra "sz"))
  obtain ⟨D', hN, hP⟩ := lfr_fin (by assumption) (by ktr_rel) (by ktr_rel) (by ktr_rel) (by ktr_rel) (by assumption) (by assumption) (by assumption) ml mk ht
  exact ret _ _ _ D' (by k_asm) hN hP
theorem lfr_svg {w : World} {D all : Led} {x d l x2 d2 l2 : Addr} {kl : Nat} {o o2 : Obj} {kvs kvs2 : List (Str × Value)} {ws ws2 : Ws} {name text text2 : Str} {vs : Array Value} {kids : List T} {tn tt sn st : Tok} {vw vh : Option Str}
    (mx : (x, ({ cls := .type "tuple", data := .seq #[.str name tn, .ref d, .ref l, .str text tt] } : Obj)) ∈ all)
    (md : (d, o) ∈ all) (hd : o.IsDictOf (strKind prg w) kvs) (hw : WsAre kvs ws) (hlo : (d == sysModules) = false)
    (mx2 : (x2, ({ cls := .type "tuple", data := .seq #[.str (S "svg") sn, .ref d2, .ref l2, .str text2 st] } : Obj)) ∈ all)
    (md2 : (d2, o2) ∈ all) (hd2 : o2.IsDictOf (strKind prg w) kvs2) (hw2 : WsAre kvs2 ws2) (hlo2 : (d2 == sysModules) = false)
    (ml : (l2, listOf vs kl) ∈ D) (mk : TreesIn w D vs.toList kids)
    (hvw : wsGet ws (S "width") = vw) (hvh : wsGet ws (S "height") = vh) (hz : ws2.length ≤ 16) :
    Call w 12 341 [.ref x, .ref x2] all (LFPost w D all (framedT ws (.mk (S "svg") ws2 kids text2))) := by
  constructor
  intro dp un gd cn cs a ccd cl outer A₀ base h₀ L m sh sg sd st so mean mg mb Q E B F X N T hk hdp hun ret
  have hz1 : ws2.length ≤ 100 := by omega
  have ht : framedT ws (.mk (S "svg") ws2 kids text2) = .mk (S "svg") (frW1 ws (.mk (S "svg") ws2 kids text2) (S "height") (frW1 ws (.mk (S "svg") ws2 kids text2) (S "width") ws2)) kids text2 := rfl
  obtain ⟨w1, e1⟩ : ∃ w1, w1 = frW1 ws (.mk (S "svg") ws2 kids text2) (S "width") ws2 := ⟨_, rfl⟩
  obtain ⟨w2, e2⟩ : ∃ w2, w2 = frW1 ws (.mk (S "svg") ws2 kids text2) (S "height") w1 := ⟨_, rfl⟩
  rw [← e1, ← e2] at ht
  have qs1 : FrStep ws (S "width") (ws2) ws2 w1 := fr_stepV (by show ¬ (S "svg" = S "symbol"); decide) e1
  have qs2 : FrStep ws (S "height") (w1) w1 w2 := fr_stepV (by show ¬ (S "svg" = S "symbol"); decide) e2
  have qz1 : w1.length ≤ 100 := Nat.le_trans (fr_len qs1 (Nat.le_succ _)) (by omega)
  clear e1 e2 hvw hvh
  skip
  refine wpAny_call ?_
  k_dflt ktr_enter
  (repeat' (first | k_extra "sa" | k_extra "b27" | k_extra "b28" | k_extra "b112" | k_extra "b113" | k_extra "b30" | k_extra "b13" | k_extra "b5" | k_extra "b65" | k_extra "b1" | k_extra "b114" | k_extra "b32" | k_extra "b23" | k_extra "b2" | k_extra "b115" | k_extra "b116" | k_extra "sz"))
  obtain ⟨D', hN, hP⟩ := lfr_fin (by assumption) (by ktr_rel) (by ktr_rel) (by ktr_rel) (by ktr_rel) (by assumption) (by assumption) (by assumption) ml mk ht
  exact ret _ _ _ D' (by k_asm) hN hP
end
theorem c_lfr {w : World} {D all : Led} {x : Addr} {t t2 : T} {v2 : Value} (sub : ∀ p ∈ D, p ∈ all) (hx : TreeIn w D (.ref x) t) (h2 : TreeIn w D v2 t2) (ok : OkT t2) :
    Call w 12 341 [.ref x, v2] all (LFPost w D all (framedT t.ws t2)) := by
  have hx2 := h2
  cases t with
  | mk name ws kids text =>
  cases t2 with
  | mk name2 ws2 kids2 text2 =>
  unfold TreeIn at hx h2
  (with_reducible refine (?_ : (let lG : Prop := _; lG))); intro lG; obtain ⟨x', d, l, k, vs, tn, tt, e, a1, ⟨o, kvs, a3, a4, a5, a6⟩, a7, a8⟩ := hx; k_unfold; clear lG
  cases e
  (with_reducible refine (?_ : (let lG : Prop := _; lG))); intro lG; obtain ⟨x2, d2, l2, k2, vs2, sn, st, rfl, b1, ⟨o2, kvs2, b3, b4, b5, b6⟩, b7, b8⟩ := h2; k_unfold; clear lG
  unfold OkT at ok
  cases c1 : (name2 == S "symbol") with
  | true =>
    have c1 := eq_of_beq c1
    subst c1
    show Call w 12 341 [.ref x, .ref x2] all (LFPost w D all (framedT ws (T.mk (S "symbol") ws2 kids2 text2)))
    exact lfr_symbol (sub _ a1) (sub _ a3) a4 a5 a6 (sub _ b1) (sub _ b3) b4 b5 b6 b7 b8 rfl rfl ok.1
  | false =>
    cases c2 : (name2 == S "svg") with
    | true =>
      have c2 := eq_of_beq c2
      subst c2
      show Call w 12 341 [.ref x, .ref x2] all (LFPost w D all (framedT ws (T.mk (S "svg") ws2 kids2 text2)))
      exact lfr_svg (sub _ a1) (sub _ a3) a4 a5 a6 (sub _ b1) (sub _ b3) b4 b5 b6 b7 b8 rfl rfl ok.1
    | false =>
      show Call w 12 341 [.ref x, .ref x2] all (LFPost w D all (framedT ws (T.mk name2 ws2 kids2 text2)))
      exact lfr_other c1 c2 rfl (sub _ b1) hx2
end

theorem reset_dcomp : True := by
  (w_top off)
  trivial
section
-- part dcomp
section
variable {prog : Program} {w : World} {A : Around} {E : Value → Shared → Prop} {s : Shared} {h₀ : Heap} {L : Addr} {m : Str → Option Value} {env : Env} {K : Type} [DecidableEq K] {knd : KeyKind prog w K}
noncomputable def SrcD (prog : Program) (w : World) {K : Type} [DecidableEq K] (knd : KeyKind prog w K) (A : Around) (h₀ : Heap) (L : Addr) (m : Str → Option Value) (env : Env) (elt : Expr) (x : Str) (scope : Scope) (cl : List (Str × Addr)) (Fin : Shared → List Value → Led → Prop) (xv : Value) (s₁ : Shared) : Prop :=
  ∃ d od kvs news, xv = .ref d ∧ A.handled = none ∧ Fr h₀ L s₁.heap m ∧ News h₀ L s₁.heap news ∧ (d, od) ∈ news ∧ od.IsDictOf knd kvs ∧ (d == sysModules) = false ∧ kvs.length ≤ sizeLine ∧
    ∀ s₂ : Shared, (∃ h, s₂ = { s₁ with heap := h }) → LCg.CompRest prog w A h₀ L m env elt x scope cl s₂ (fun nw => (d, od) ∈ nw) (fun i v => ∃ k x, kvs[i]? = some (k, x) ∧ knd.is k v = true) (Fin s₂) kvs.length 0 [] news
noncomputable def SrcDT (prog : Program) (w : World) {K : Type} [DecidableEq K] (knd : KeyKind prog w K) (A : Around) (h₀ : Heap) (L : Addr) (m : Str → Option Value) (env : Env) (ct elt : Expr) (x : Str) (scope : Scope) (cl : List (Str × Addr)) (Fin : Shared → List Value → Led → Prop) (xv : Value) (s₁ : Shared) : Prop :=
  ∃ d od kvs news, xv = .ref d ∧ A.handled = none ∧ Fr h₀ L s₁.heap m ∧ News h₀ L s₁.heap news ∧ (d, od) ∈ news ∧ od.IsDictOf knd kvs ∧ (d == sysModules) = false ∧ kvs.length ≤ sizeLine ∧
    ∀ s₂ : Shared, (∃ h, s₂ = { s₁ with heap := h }) → LCt.CompRestT prog w A h₀ L m env ct elt x scope cl s₂ (fun nw => (d, od) ∈ nw) (fun i v => ∃ k x, kvs[i]? = some (k, x) ∧ knd.is k v = true) (Fin s₂) kvs.length 0 [] news
theorem key_st {d I : Addr} {od : Obj} {kvs : List (K × Value)} {ep n : Nat} (a : KdkAt knd od kvs ep) : ∀ i (h h' : Heap) (o : Obj) (nw : Led), (h.IsKeyIter I d i n ep ∧ h.DictAt knd d kvs ep) → h.get? I = some o → h'.get? I = some o → (∀ b o, h₀.get? b = some o → h'.get? b = some o) → News h₀ L h' nw → (d, od) ∈ nw → (h'.IsKeyIter I d i n ep ∧ h'.DictAt knd d kvs ep) :=
  fun i h h' o nw st e e' _ N S => ⟨by obtain ⟨o', q, r⟩ := st.1; rw [e] at q; cases q; exact ⟨o, e', r⟩, a.dictAt (N _ S).1⟩
theorem ListComp_D' {elt iter : Expr} {x : Str} {px : Pos} {scope : Scope} {cl : List (Str × Addr)} {pos : Pos} {Q : Value → Shared → Prop}
    (hclos : closureFor scope env = pure cl) (hcell : ∀ y ∈ scope.names, y.2 ≠ .cell) (hkind : scope.kind = .function)
    (hnames : ∀ y ∈ scope.names, y.2 = .local → scope.names.lookup y.1 = some .local) (hx : scope.names.lookup x = some .local)
    (h : wpAny (model prog w) A (eval iter env) (SrcD prog w knd A h₀ L m env elt x scope cl (fun s₂ => LCg.FinE h₀ L m s₂ Q)) E s)
    (hs : ∀ x, foldedSetIterable iter env x = pure x := by intro _; rfl) :
    wpAny (model prog w) A (eval (.ListComp elt [⟨.Name x px, iter, [], 0⟩] scope pos) env) Q E s := by
  rw [eval_ListComp]
  refine wpAny_comprehension_free (use := none) rfl hs hclos hkind hnames (wpAny_mono h (fun xv s₁ h₁ => ?_) fun _ _ e => e)
  refine exC4 h₁ ?_; (try clear h₁); intro d od kvs news hR; refine anC9 hR ?_; clear hR; intro hO4 hh F N hm hd lo hsz R; subst hO4
  obtain ⟨ep, ha⟩ := KdkAt.of hd
  have hat := ha.dictAt (N _ hm).1
  have hlt : d < s₁.heap.objs.size := Heap.lt_size (N _ hm).1
  refine wpAny_pyIter_dict lo hat ?_
  refine LCg.block_U (Walks.dictKeys hh s₁.heap.objs.size d (Nat.ne_of_lt hlt) kvs ep) hsz (fun i h st => by obtain ⟨o, e, _⟩ := st.1; exact ⟨o, e⟩) (key_st ha) hcell hkind hx ⟨⟨_, Heap.get?_push_size _ rfl, rfl, rfl⟩, hat.push _⟩ (fun b hb => ?_)
      (F.push _) (fun p hp => ⟨Heap.get?_push_of_some _ (N p hp).1, (N p hp).2⟩) (Nat.ne_of_lt F.ns.lt) (next_is_new F) (fun p hp => Nat.ne_of_lt (Heap.lt_size (N p hp).1)) hm (R _ ⟨_, rfl⟩) ?_
  · show b < (s₁.heap.push _).objs.size
    rw [Heap.size_push]
    rcases List.mem_cons.mp hb with rfl | hb
    · exact Nat.lt_succ_self _
    · rw [List.mem_singleton.mp hb]; exact Nat.lt_succ_of_lt hlt
  · intro D C h tk m' ys news' F' N' o1 hn hC₀ hD₀ hCL hDL hCD offC fin
    refine ⟨m', hn, fun h'' hs'' => fin D h'' tk (F'.change hs'' hCL hC₀) (fun p hp => ?_) o1⟩
    refine ⟨hs''.extBut _ _ ?_ (N' p hp).1, (N' p hp).2⟩
    rcases List.mem_cons.mp hp with rfl | hp
    · exact Ne.symm hCD
    · exact offC p hp
theorem ListComp_DT {ct elt iter : Expr} {x : Str} {px : Pos} {scope : Scope} {cl : List (Str × Addr)} {pos : Pos} {Q : Value → Shared → Prop}
    (hclos : closureFor scope env = pure cl) (hcell : ∀ y ∈ scope.names, y.2 ≠ .cell) (hkind : scope.kind = .function)
    (hnames : ∀ y ∈ scope.names, y.2 = .local → scope.names.lookup y.1 = some .local) (hx : scope.names.lookup x = some .local)
    (h : wpAny (model prog w) A (eval iter env) (SrcDT prog w knd A h₀ L m env ct elt x scope cl (fun s₂ => LCg.FinE h₀ L m s₂ Q)) E s)
    (hs : ∀ x, foldedSetIterable iter env x = pure x := by intro _; rfl) :
    wpAny (model prog w) A (eval (.ListComp elt [⟨.Name x px, iter, [ct], 0⟩] scope pos) env) Q E s := by
  rw [eval_ListComp]
  refine wpAny_comprehension_free (use := none) rfl hs hclos hkind hnames (wpAny_mono h (fun xv s₁ h₁ => ?_) fun _ _ e => e)
  refine exC4 h₁ ?_; (try clear h₁); intro d od kvs news hR; refine anC9 hR ?_; clear hR; intro hO4 hh F N hm hd lo hsz R; subst hO4
  obtain ⟨ep, ha⟩ := KdkAt.of hd
  have hat := ha.dictAt (N _ hm).1
  have hlt : d < s₁.heap.objs.size := Heap.lt_size (N _ hm).1
  refine wpAny_pyIter_dict lo hat ?_
  refine LCt.block_T (Walks.dictKeys hh s₁.heap.objs.size d (Nat.ne_of_lt hlt) kvs ep) hsz (fun i h st => by obtain ⟨o, e, _⟩ := st.1; exact ⟨o, e⟩) (key_st ha) hcell hkind hx ⟨⟨_, Heap.get?_push_size _ rfl, rfl, rfl⟩, hat.push _⟩ (fun b hb => ?_)
      (F.push _) (fun p hp => ⟨Heap.get?_push_of_some _ (N p hp).1, (N p hp).2⟩) (Nat.ne_of_lt F.ns.lt) (next_is_new F) (fun p hp => Nat.ne_of_lt (Heap.lt_size (N p hp).1)) hm (R _ ⟨_, rfl⟩) ?_
  · show b < (s₁.heap.push _).objs.size
    rw [Heap.size_push]
    rcases List.mem_cons.mp hb with rfl | hb
    · exact Nat.lt_succ_self _
    · rw [List.mem_singleton.mp hb]; exact Nat.lt_succ_of_lt hlt
  · intro D C h tk m' ys news' F' N' o1 hn hC₀ hD₀ hCL hDL hCD offC fin
    refine ⟨m', hn, fun h'' hs'' => fin D h'' tk (F'.change hs'' hCL hC₀) (fun p hp => ?_) o1⟩
    refine ⟨hs''.extBut _ _ ?_ (N' p hp).1, (N' p hp).2⟩
    rcases List.mem_cons.mp hp with rfl | hp
    · exact Ne.symm hCD
    · exact offC p hp
theorem compRestT_ind {ct elt : Expr} {x : Str} {scope : Scope} {cl : List (Str × Addr)} {S : Led → Prop} {P : Nat → Value → Prop} {Fin : List Value → Led → Prop} {n : Nat} (Inv : Nat → List Value → Led → Prop)
    (step : ∀ {i v ys news I oI C oC D m₂ h tk} {E' : Value → Shared → Prop}, i < n → Inv i ys news → P i v → LCg.NsObj oC m₂ → m₂ x = some v → Fr h₀ L h m → News h₀ L h ((I, oI) :: (C, oC) :: (D, LCg.lst ys) :: news) → LCg.Off3 I C D news → ((@Ne Nat I C) ∧ (@Ne Nat I D) ∧ (@Ne Nat C D)) →
      wpAny (model prog w) A (isTrue ct (compEnvC scope cl C env) (eval ct (compEnvC scope cl C env))) (fun ok s' => if ok = true then
        wpAny (model prog w) A (eval elt (compEnvC scope cl C env)) (LCg.CompEnd h₀ L m { s with heap := h, toks := tk } I oI C oC D (LCg.lst ys) S (fun y news' => Inv (i + 1) (ys ++ [y]) news')) E' s'
        else LCg.CompEnd h₀ L m { s with heap := h, toks := tk } I oI C oC D (LCg.lst ys) S (fun _ news' => Inv (i + 1) ys news') Value.none s') E' { s with heap := h, toks := tk })
    (fin : ∀ ys news, Inv n ys news → Fin ys news) : ∀ k {i ys news}, i + k = n → Inv i ys news → LCt.CompRestT prog w A h₀ L m env ct elt x scope cl s S P Fin k i ys news := by
  intro k
  induction k with
  | zero => intro i ys news e hI; exact LCt.CompRestT.zero (fin _ _ (by rw [← e]; exact hI))
  | succ k ih =>
    intro i ys news e hI
    refine LCt.CompRestT.succ fun v I oI C oC D m₂ h tk E' hP hC hx F N off ne => ?_
    refine wpAny_mono (step (by omega) hI hP hC hx F N off ne) (fun ok s₂ h₂ => ?_) fun _ _ z => z
    cases ok with
    | true =>
      simp only [if_true] at h₂ ⊢
      refine wpAny_mono h₂ (fun y s₃ h₃ => ?_) fun _ _ z => z
      refine exC3 h₃ ?_; (try clear h₃); intro h' tk' news' hR; refine anC6 hR ?_; clear hR; intro e1 F' N' o' hS r
      exact exI3 h' tk' news' ⟨e1, F', N', o', hS, ih (by omega) r⟩
    | false =>
      simp only [Bool.false_eq_true, if_false] at h₂ ⊢
      refine exC3 h₂ ?_; (try clear h₂); intro h' tk' news' hR; refine anC6 hR ?_; clear hR; intro e1 F' N' o' hS r
      exact exI3 h' tk' news' ⟨e1, F', N', o', hS, ih (by omega) r⟩
end
end

end
section
theorem reset_dpairs : True := by
  (w_top off)
  trivial
section
-- part dpairs
open AutoSeq1 in
theorem keys_miss {prog : Program} {w : World} {A : Around} {E : Value → Shared → Prop} {s : Shared} {a : Addr} {xs : Array Value} {k : Nat} {Q : Option Value → Shared → Prop}
    (hx : s.heap.get? a = some (listOf xs k)) (hA : A.handled = none)
    (h : ∀ h' tk, (∀ b o, s.heap.get? b = some o → h'.get? b = some o) → Q none { s with heap := h', toks := tk }) :
    wpAny (model prog w) A (getAttr? (.ref a) "keys") Q E s := by
  have hmiss : typeLookup (.type "list") "keys" = pure none := am_miss_of_fast (by kernel_rfl)
  have hname : (["__module__", "__name__", "__qualname__", "__doc__", "__annotations__"] : List Str).contains ("keys" : Str) = false := by decide +kernel
  (with_reducible refine (?_ : (let lG : Prop := _; lG))); intro lG; obtain ⟨hp, g, d, tk, os⟩ := s; k_unfold; clear lG
  have hT : ∀ tk', (⟨hp, g, d, tk', os⟩ : Shared).TypeIs (.ref a) "list" := fun _ => ⟨_, hx, rfl⟩
  have f1 := sub_AttributeError
  have f3 := F.slot_list_getattribute.lookup
  have f4 := F.slot_list_getattribute.bind (.ref a)
  have f5 := am_list_getattr_none
  unfold getAttr? getAttrBy? getAttrBy
  repeat (any_goals (first | assumption | exact hT _ | ((with_reducible refine (?_ : wpAny _ _ (call (Value.builtin "list.__getattribute__") _ _) _ _ _)); refine call_meets F.slot_list_getattribute (hT _) am_entry_list_getattribute (F.args_list_getattribute_2 _ _) (meets_getattribute_miss_list a xs k _ "keys" _ hmiss hname) ⟨hx, hA, fun h' tk' e hx' => ?_⟩) | wp_step))
  obtain ⟨t', u', he⟩ := hx'.there
  show wpAny _ _ (getattributeRaised _ _ _ _ _ _ _) _ _ _
  unfold getattributeRaised
  repeat (any_goals (first | assumption | wp_step))
  exact h _ _ hx'.keeps
theorem entry_dict_update_loop : entryFor table "dict.update.loop" = some Builtin.«dict.update.loop» := entryFor_of_tree (by kernel_rfl)
theorem plain_dict_update_loop : plainId "dict.update.loop" = true := by decide +kernel
open PySem.SeqAt AutoSeq1 in
theorem codeAny_dict_loop {prog : Program} {w : World} {A : Around} {R : Result → Shared → Prop} {d I l : Addr} {items : Array Value} {kvs : List (Str × Value)} (hh : A.in1.handled = none) (hlen : items.size = kvs.length) (nd : (kvs.map (·.1)).Nodup) (hsz : kvs.length ≤ 100) (hdI : d ≠ I) (hlI : l ≠ I) (hld : l ≠ d) :
    ∀ (k i : Nat) (s : Shared), items.size - i = k → i ≤ items.size → s.heap.IsListIter I l i → s.heap.IsList l items → s.heap.DictOf (strKind prog w) d (kvs.take i) →
      (∀ (j : Nat) (v : Value), items[j]? = some v → ∃ (k : Str) (x : Value) (t : Tok) (T : Addr), kvs[j]? = some (k, x) ∧ v = Value.ref T ∧ T ≠ d ∧ T ≠ I ∧ s.heap.IsTuple T #[Value.str k t, x]) →
      (∀ h' tk, h'.DictOf (strKind prog w) d kvs → (∀ b o, b ≠ I → b ≠ d → s.heap.get? b = some o → h'.get? b = some o) → R (.ok (.ret .none)) { s with heap := h', toks := tk }) →
      codeAny (model prog w) A (.builtin "dict.update.loop" ⟨[.ref d, .ref I, .int i 0, .none], []⟩) R s := by
  intro k
  induction k with
  | zero =>
    intro i s hk hi hit hl hd hp hR
    have hin : i = items.size := Nat.le_antisymm hi (Nat.le_of_sub_eq_zero hk)
    refine codeAny_builtin entry_dict_update_loop ?_
    rw [Around.under_plainId plain_dict_update_loop _]
    show wpAny _ A.in1 (pyNext (.ref I) >>= _) _ _ s
    refine wpAny_bind (wpAny_pyNext_list_end hh hit hl (by simp [hin]) fun h' hs => ?_)
    show wpAny _ A.in1 (Builtin.Dict.addKeywords d [] >>= _) _ _ _
    refine wpAny_bind (wpAny_pure ?_)
    show wpAny _ A.in1 (ret Value.none) _ _ _
    have hd2 : h'.DictOf (strKind prog w) d kvs := by
      rw [hin, hlen, List.take_length] at hd
      refine exC3 hd ?_; (try clear hd); intro o es ep hR; refine anC2 hR ?_; clear hR; intro ho r
      exact exI3 o es ep ⟨hs _ _ hdI ho, r⟩
    exact wpAny_pure (hR h' s.toks hd2 fun b o hbI _ e => hs b o hbI e)
  | succ k ih =>
    intro i s hk hi hit hl hd hp hR
    have hlt : i < items.size := Nat.lt_of_sub_eq_succ hk
    refine codeAny_builtin entry_dict_update_loop ?_
    rw [Around.under_plainId plain_dict_update_loop _]
    show wpAny _ A.in1 (pyNext (.ref I) >>= _) _ _ s
    refine wpAny_bind (wpAny_pyNext_list_item hit hl (x := items[i]) (by simp [hlt]) fun h' hit' hs' => ?_)
    refine exC4 (hp i items[i] (by simp [hlt])) ?_; intro key x t T hR; refine anC5 hR ?_; clear hR; intro hkv hv hTd hTI hT
    rw [hv]
    (with_reducible refine (?_ : (let lG : Prop := _; lG))); intro lG; obtain ⟨⟨cls, dd, dat, sl⟩, hTo, hTc, nn, hTd'⟩ := hT; k_unfold; clear lG
    dsimp only at hTc hTd'
    subst hTc hTd'
    have hT2 := hs'.extBut _ _ hTI hTo
    have hd2 : h'.DictOf (strKind prog w) d (kvs.take i) := by
      refine exC3 hd ?_; (try clear hd); intro o es ep hR; refine anC2 hR ?_; clear hR; intro ho r
      exact exI3 o es ep ⟨hs'.extBut _ _ hdI ho, r⟩
    have hl2 : h'.IsList l items := by
      obtain ⟨o, ho, r⟩ := hl
      exact ⟨o, hs'.extBut _ _ hlI ho, r⟩
    have hTT : Shared.TypeIs { s with heap := h' } (.ref T) "tuple" := ⟨_, hT2, rfl⟩
    show wpAny _ A.in1 (holding [Value.ref T] (_ : Sem Unit) >>= _) _ _ _
    refine wpAny_bind (wpAny_holding ?_)
    refine wpAny_bind (wpAny_tryCatch ?_)
    unfold Builtin.Dict.pairItems
    refine wpAny_bind (wpAny_typeOf hTT ?_)
    rw [if_pos (by decide)]
    refine wpAny_bind (wpAny_seqItems hT2 rfl ?_)
    refine wpAny_pure ?_
    show wpAny _ A.in1 (holding [Value.str key t, x] (dictSet d (Value.str key t) x)) _ _ _
    refine wpAny_holding ?_
    refine wpAny_dictSet_pairs (knd := strKind prog w) (strKind_is _ _ _ _) hd2 (fun h2 hd3 hsb => ?_) (by rw [List.length_take]; exact Nat.le_trans (Nat.le_trans (Nat.min_le_right _ _) hsz) (by decide))
    have hst : stored (kvs.take i) key x = kvs.take (i + 1) := by
      have hno : ¬ ((kvs.take i).any fun kv => decide (kv.1 = key)) = true := by
        intro ha
        obtain ⟨p, hpm, he⟩ := List.any_eq_true.mp ha
        have he : p.1 = key := of_decide_eq_true he
        obtain ⟨hik, e2⟩ := List.getElem?_eq_some_iff.mp hkv
        have nd2 := nd
        rw [← List.take_append_drop i kvs, List.map_append, List.nodup_append] at nd2
        refine nd2.2.2 p.1 (List.mem_map_of_mem hpm) key ?_ he
        rw [List.drop_eq_getElem_cons hik, e2]
        exact .head _
      rw [stored, if_neg hno, List.take_add_one, hkv]
      rfl
    refine wpAny_pure ⟨plainId_quiet plain_dict_update_loop _, ih (i + 1) _ (by rw [Nat.sub_succ, hk, Nat.pred_succ]) hlt ?_ ?_ (hst ▸ hd3) ?_ ?_⟩
    · obtain ⟨o, ho, r⟩ := hit'
      exact ⟨o, hsb.extBut _ _ (Ne.symm hdI) ho, r⟩
    · obtain ⟨o, ho, r⟩ := hl2
      exact ⟨o, hsb.extBut _ _ hld ho, r⟩
    · intro j v hj
      refine exC4 (hp j v hj) ?_; intro k2 x2 t2 T2 hR; refine anC5 hR ?_; clear hR; intro a1 a2 a3 a4 hO8; obtain ⟨o, ho, r⟩ := hO8
      exact exI4 k2 x2 t2 T2 ⟨a1, a2, a3, a4, o, hsb.extBut _ _ a3 (hs'.extBut _ _ a4 ho), r⟩
    · intro h3 tk3 hd4 keep
      exact hR h3 tk3 hd4 fun b o hbI hbd e => keep b o hbI hbd (hsb.extBut _ _ hbd (hs'.extBut _ _ hbI e))
theorem call_dict_pairs {prog : Program} {w : World} {A : Around} {E : Value → Shared → Prop} {s : Shared} {l : Addr} {items : Array Value} {nl : Nat} {kvs : List (Str × Value)} {Q : Value → Shared → Prop} (hx : s.heap.get? l = some (listOf items nl)) (hh : A.handled = none)
    (hlen : items.size = kvs.length) (nd : (kvs.map (·.1)).Nodup) (hsz : kvs.length ≤ 100)
    (hp : ∀ (j : Nat) (v : Value), items[j]? = some v → ∃ (k : Str) (x : Value) (t : Tok) (T : Addr), kvs[j]? = some (k, x) ∧ v = Value.ref T ∧ s.heap.IsTuple T #[Value.str k t, x])
    (h : ∀ h' tk, h'.DictOf (strKind prog w) s.heap.objs.size kvs → (∀ b o, s.heap.get? b = some o → h'.get? b = some o) → Q (.ref s.heap.objs.size) { s with heap := h', toks := tk }) :
    wpAny (model prog w) A (call (.type "dict") [.ref l]) Q E s := by
  refine callType_codes (Q₁ := fun obj s₁ => obj = .ref s.heap.objs.size ∧ s₁ = { s with heap := s.heap.push { cls := .type "dict", data := .dict #[] } }) PySem.F.kt_called_dict (PySem.F.kt_typeCall_dict_1 _) PySem.F.entry_dict_init (kt_code_dict_new _ ⟨rfl, rfl⟩) ?_
  rintro obj s₁ ⟨rfl, rfl⟩
  have hnew : (s.heap.push { cls := .type "dict", data := .dict #[] }).DictOf (strKind prog w) s.heap.objs.size [] := Heap.DictOf.new s.heap
  have hlt : l < s.heap.objs.size := Heap.lt_size hx
  have hx1 : (s.heap.push { cls := .type "dict", data := .dict #[] }).get? l = some (listOf items nl) := Heap.get?_push_of_some _ hx
  have hTL : Shared.TypeIs { s with heap := s.heap.push { cls := .type "dict", data := .dict #[] } } (.ref l) "list" := ⟨_, hx1, rfl⟩
  refine ⟨hnew.typeIs, PySem.F.args_dict_init_2 _ _, ?_⟩
  unfold Builtin.«dict.__init__»
  refine wpAny_bind ?_
  unfold Builtin.Dict.selfAndRest
  refine wpAny_bind (wpAny_notOrdered_dict hnew.typeIs ?_)
  show wpAny _ _ (pure (s.heap.objs.size, [Value.ref l])) _ _ _
  refine wpAny_pure ?_
  show wpAny _ _ (Builtin.Dict.updateFrom "dict.__init__" s.heap.objs.size (.ref l) [] .none) _ _ _
  unfold Builtin.Dict.updateFrom
  refine wpAny_bind (wpAny_typeOf hTL ?_)
  rw [if_pos (by decide)]
  refine wpAny_bind (keys_miss hx1 (by simp [hh]) fun h1 tk1 keep1 => ?_)
  dsimp only [Option.isNone]
  rw [if_pos rfl]
  refine wpAny_bind (wpAny_rule ?_)
  have hx2 := keep1 _ _ hx1
  have hl2 : h1.IsList l items := ⟨_, hx2, rfl, _, rfl⟩
  refine wpAny_bind (wpAny_pyIter_list hl2 ?_)
  have hdo : ∃ o, (s.heap.push { cls := .type "dict", data := .dict #[] }).get? s.heap.objs.size = some o := ⟨_, Heap.get?_push_size _ rfl⟩
  obtain ⟨od, hod⟩ := hdo
  have hd1 : s.heap.objs.size < h1.objs.size := Heap.lt_size (keep1 _ _ hod)
  have hl1 : l < h1.objs.size := Heap.lt_size hx2
  refine wpAny_pure ⟨plainId_quiet plain_dict_update_loop _, codeAny_dict_loop (by simp [hh]) hlen nd hsz (Nat.ne_of_lt hd1) (Nat.ne_of_lt hl1) (Nat.ne_of_lt hlt) (items.size - 0) 0 _ rfl (Nat.zero_le _) ⟨_, Heap.get?_push_size _ rfl, rfl, rfl⟩ (hl2.push _) ?_ ?_ ?_⟩
  · rw [List.take_zero]
    refine exC3 hnew ?_; (try clear hnew); intro o es ep hR; refine anC2 hR ?_; clear hR; intro ho r
    exact exI3 o es ep ⟨Heap.get?_push_of_some _ (keep1 _ _ ho), r⟩
  · intro j v hj
    refine exC4 (hp j v hj) ?_; intro k x t T hR; refine anC3 hR ?_; clear hR; intro a1 a2 hO6; obtain ⟨o, ho, r⟩ := hO6
    have hT : T < s.heap.objs.size := Heap.lt_size ho
    exact exI4 k x t T ⟨a1, a2, Nat.ne_of_lt hT, Nat.ne_of_lt (Nat.lt_trans hT hd1), o, Heap.get?_push_of_some _ (keep1 _ _ (Heap.get?_push_of_some _ ho)), r⟩
  · intro h' tk hd keep
    refine ⟨rfl, h h' tk hd fun b o e => ?_⟩
    have hb : b < s.heap.objs.size := Heap.lt_size e
    exact keep b o (Nat.ne_of_lt (Nat.lt_trans hb hd1)) (Nat.ne_of_lt hb) (Heap.get?_push_of_some _ (keep1 _ _ (Heap.get?_push_of_some _ e)))
theorem dict_pairs_K {prog : Program} {w : World} {A : Around} {E : Value → Shared → Prop} {s : Shared} {h₀ : Heap} {L : Addr} {m : Str → Option Value} {all : Led} {l : Addr} {items : Array Value} {nl : Nat} {kvs : List (Str × Value)} {Q : Value → Shared → Prop}
    (F : Fr h₀ L s.heap m) (N : News h₀ L s.heap all) (hbig : h₀.NoLimit) (ml : (l, listOf items nl) ∈ all) (hh : A.handled = none) (hlen : items.size = kvs.length) (nd : (kvs.map (·.1)).Nodup) (hsz : kvs.length ≤ 100)
    (hp : ∀ (j : Nat) (v : Value), items[j]? = some v → ∃ (k : Str) (x : Value) (t : Tok) (T : Addr) (n : Nat), kvs[j]? = some (k, x) ∧ v = Value.ref T ∧ (T, tupObj #[Value.str k t, x] n) ∈ all)
    (h : ∀ d h' tk o, Fr h₀ L h' m → News h₀ L h' ((d, o) :: all) → (∀ p ∈ all, p.1 < d) → (d == sysModules) = false → o.IsDictOf (strKind prog w) kvs → Q (.ref d) { s with heap := h', toks := tk }) :
    wpAny (model prog w) A (call (.type "dict") [.ref l]) Q E s := by
  refine call_dict_pairs (N _ ml).1 hh hlen nd hsz (fun j v hj => ?_) fun h' tk hd keep => ?_
  · refine exC5 (hp j v hj) ?_; intro k x t T n hR; refine anC3 hR ?_; clear hR; intro a1 a2 a3
    exact exI4 k x t T ⟨a1, a2, _, (N _ a3).1, rfl, n, rfl⟩
  · obtain ⟨o, ho, hdo⟩ := Heap.dictOf_iff.mp hd
    refine h _ h' tk o (F.keeps keep) ?_ (fun p hp => Heap.lt_size (N p hp).1) (F.notModules (modules_low hbig)) hdo
    intro p hp
    rcases List.mem_cons.mp hp with rfl | hp
    · exact ⟨ho, (News.push F N ({ cls := .type "dict", data := .dict #[] } : Obj) rfl _ (List.mem_cons_self ..)).2⟩
    · exact ⟨keep _ _ (N p hp).1, (N p hp).2⟩
end

end
section
local macro_rules | `(tactic| k_ne) => `(tactic| k_extra "mapc;0")
theorem reset_lput : True := by
  (w_top off)
  (k_with "b117" => first | ((with_reducible refine (?_ : wpAny _ _ (exec (Stmt.For (Expr.Name _ _) (Expr.Subscript _ _ _) _ [] _) _) _ _ _)); first | (with_reducible (k_extra "lput7")) | fail) | fail)
  (k_with "b118" => first | ((with_reducible refine (?_ : wpAny _ _ (setItem (Value.ref _) (Value.str _ _) _) _ _ _)); first | (with_reducible (k_extra "lput5")) | fail) | fail)
  (k_with "b119" => first | ((with_reducible refine (?_ : wpAny _ _ (pyIter (Value.ref _)) _ _ _)); first | (with_reducible (k_extra "lput8")) | fail) | fail)
  (k_with "b120" => first | ((with_reducible refine (?_ : wpAny _ _ (subscriptTail _ _ _ _) _ _ _)); first | (with_reducible (k_extra "lput4")) | (with_reducible (k_extra "lput3")) | fail) | fail)
  (k_with "b121" => first | ((fail_if_success (with_reducible refine (?_ : wpAny _ _ _ _ _ _))); first | ((with_reducible refine (?_ : ItemsRest ..)); first | (with_reducible (k_extra "lput9")) | fail) | fail) | fail)
  (k_with "b122" => first | ((with_reducible refine (?_ : wpAny _ _ (call (Value.builtin "list.append") _) _ _ _)); first | (with_reducible (k_extra "lput6")) | fail) | fail)
  (k_with "b123" => first | ((with_reducible refine (?_ : wpAny _ _ (call (Value.ref _) _) _ _ _)); first | (with_reducible (k_extra "lput2")) | fail) | fail)
  (k_with "b124" => first | ((with_reducible refine (?_ : wpAny _ _ (call (Value.builtin "isinstance") _) _ _ _)); first | (k_extra "lput1") | fail) | fail)
  trivial
section
-- part lput
noncomputable def bookL (idd : Addr) (most made : Nat) (a b : Tok) : List (Str × Value) := [(S "ids", .ref idd), (S "made", .int (made : Int) a), (S "most", .int (most : Int) b)]
noncomputable def BookOk (w : World) (o : Obj) (idd : Addr) (most made : Nat) : Prop := ∃ a b, o.IsDictOf (strKind prg w) (bookL idd most made a b)
theorem bk_ids (idd : Addr) (most made : Nat) (a b : Tok) : valueAt (bookL idd most made a b) (S "ids") = some (.ref idd) := rfl
theorem bk_made (idd : Addr) (most made : Nat) (a b : Tok) : valueAt (bookL idd most made a b) (S "made") = some (.int (made : Int) a) := rfl
theorem bk_most (idd : Addr) (most made : Nat) (a b : Tok) : valueAt (bookL idd most made a b) (S "most") = some (.int (most : Int) b) := rfl
theorem bk_set (idd : Addr) (most made : Nat) (a b c : Tok) : stored (bookL idd most made a b) (S "made") (.int ((made : Int) + 1) c) = bookL idd most (made + 1) c b := rfl
theorem bk_set_K {w : World} {A : Around} {E : Value → Shared → Prop} {s : Shared} {h₀ : Heap} {L d : Addr} {m : Str → Option Value} {news : Led} {g : Obj → Led} {o : Obj} {idd : Addr} {most made : Nat} {a b c t : Tok} {Q : Unit → Shared → Prop}
    (F : Fr h₀ L s.heap m) (N : News h₀ L s.heap news) (U : UpdF d o news g) (hd : o.IsDictOf (strKind prg w) (bookL idd most made a b))
    (h : ∀ h' o', Fr h₀ L h' m → News h₀ L h' (g o') → o'.IsDictOf (strKind prg w) (bookL idd most (made + 1) c b) → Q () { s with heap := h', toks := s.toks + 1 }) : wpAny (model prg w) A (setItem (.ref d) (.str (S "made") t) (.int ((made : Int) + 1) c)) Q E s :=
  kda_set (knd := strKind prg w) F N U hd (strKind_is _ _ _ _) (by show 3 ≤ sizeLine; decide) fun h' o' F' N' hd' => h h' o' F' N' (bk_set idd most made a b c ▸ hd')
noncomputable def LNamesIn (D : Led) (x : Addr) (names : List Str) : Prop := names.length ≤ 12 ∧ ∃ vs k, (x, listOf vs k) ∈ D ∧ StrsV vs.toList names
theorem LNamesIn.mono {D D' : Led} {x : Addr} {ns : List Str} (X : LNamesIn D x ns) (h : ∀ p ∈ D, p ∈ D') : LNamesIn D' x ns := let ⟨z, vs, k, a, b⟩ := X; ⟨z, vs, k, h _ a, b⟩
theorem idsT_mono {w : World} {D D' : Led} {d : Addr} {ids : List (Str × T)} (X : IdsIn w (TreeIn w) D d ids) (h : ∀ p ∈ D, p ∈ D') : IdsIn w (TreeIn w) D' d ids :=
  let ⟨o, kvs, a, b, c, e⟩ := X; ⟨o, kvs, h _ a, b, c.mono fun _ _ z => TreeIn.mono h z, e⟩
noncomputable def ToldIs (w : World) (D : Led) (v : Value) : Res → Prop
  | .ok t => TreeIn w D v t
  | .limit => ∃ t, v = .str (S "limit") t
  | .sheet => ∃ t, v = .str (S "sheet") t
noncomputable def LPost (w : World) (bk idd : Addr) (most : Nat) (o : Obj) (D all : Led) (res : Res × Nat) (v : Value) (D' : Led) : Prop :=
  ∃ o' tl, D' = (bk, o') :: (tl ++ all) ∧ BookOk w o' idd most res.2 ∧ Fresh ((bk, o) :: all) tl ∧ ToldIs w (tl ++ D) v res.1
noncomputable def LPutC (w : World) (ids : List (Str × T)) (most n : Nat) : Prop :=
  ∀ {t : T} {names : List Str} {made : Nat} {v : Value} {nx : Addr} {D all : Led} {bk idd : Addr} {o : Obj}, BookOk w o idd most made → (∀ p ∈ D, p ∈ all) → TreeIn w D v t → LNamesIn D nx names → IdsIn w (TreeIn w) D idd ids → (∀ p ∈ all, @Ne Nat p.1 bk) → rank t names ≤ n → OkT t →
    Call w (6 * n + 60) 348 [.ref bk, v, .ref nx] ((bk, o) :: all) (LPost w bk idd most o D all (putF ids most n t names made))
inductive LpInv (w : World) (f : T → Nat → Res × Nat) (kids : List T) (made : Nat) (bk idd : Addr) (most : Nat) (o : Obj) (D all : Led) (l' : Addr) (m₀ : Str → Option Value) (I : Addr) (xs : List Itm) (m : Str → Option Value) (news : Led) : Prop
  | mk (vr : List Value) (kr outs : List T) (ys : List Value) (made' : Nat) (o' : Obj) (tl : Led) (k : Nat) (x1 x2 : Option Value) (q1 : xs = vr.map Itm.val) (q2 : AllIn (TreeIn w D) vr kr) (q3 : (∀ t ∈ kr, t ∈ kids)) (q4 : BookOk w o' idd most made') (q5 : AllIn (TreeIn w (tl ++ D)) ys outs) (q6 : kidsF f kids made = pre outs (kidsF f kr made')) (q7 : news = (l', listOf ys.toArray k) :: (bk, o') :: (tl ++ all)) (q8 : Fresh ((bk, o) :: (l', o) :: (I, o) :: all) tl) (q9 : ys.length + vr.length ≤ 16) (q10 : m = (fun z => if z = S "told" then x2 else if z = S "one" then x1 else m₀ z))
theorem pre_start (r : (List T ⊕ Res) × Nat) : pre [] r = r := by
  obtain ⟨a, m⟩ := r
  cases a <;> simp [pre]
noncomputable def LOk (w : World) (bk idd : Addr) (most : Nat) (o : Obj) (D all : Led) (t' : T) (mm : Nat) (v : Value) (D' : Led) : Prop :=
  ∃ x tup o' tl, v = .ref x ∧ (x, tup) ∈ tl ++ all ∧ tup.cls = .type "tuple" ∧ D' = (bk, o') :: (tl ++ all) ∧ BookOk w o' idd most mm ∧ Fresh ((bk, o) :: all) tl ∧ TreeIn w (tl ++ D) (.ref x) t'
noncomputable def LStr (w : World) (bk idd : Addr) (most : Nat) (o : Obj) (all : Led) (msg : Str) (mm : Nat) (v : Value) (D' : Led) : Prop :=
  ∃ t o' tl, v = .str msg t ∧ D' = (bk, o') :: (tl ++ all) ∧ BookOk w o' idd most mm ∧ Fresh ((bk, o) :: all) tl
theorem LOk.elim {w : World} {bk idd : Addr} {most : Nat} {o : Obj} {D all : Led} {t' : T} {mm : Nat} {v : Value} {D' : Led} (h : LOk w bk idd most o D all t' mm v D') :
  ∃ x tup o' tl, v = .ref x ∧ (x, tup) ∈ tl ++ all ∧ tup.cls = .type "tuple" ∧ D' = (bk, o') :: (tl ++ all) ∧ BookOk w o' idd most mm ∧ Fresh ((bk, o) :: all) tl ∧ TreeIn w (tl ++ D) (.ref x) t' := h
theorem LStr.elim {w : World} {bk idd : Addr} {most : Nat} {o : Obj} {all : Led} {msg : Str} {mm : Nat} {v : Value} {D' : Led} (h : LStr w bk idd most o all msg mm v D') :
  ∃ t o' tl, v = .str msg t ∧ D' = (bk, o') :: (tl ++ all) ∧ BookOk w o' idd most mm ∧ Fresh ((bk, o) :: all) tl := h
theorem l_ok {w : World} {k : Nat} {f : Addr} {args : List Value} {D₀ : Led} {bk idd : Addr} {most : Nat} {o : Obj} {D all : Led} {t' : T} {mm : Nat} {res : Res × Nat} (h : Call w k f args D₀ (LPost w bk idd most o D all res)) (e : res = (.ok t', mm)) (sub : ∀ p ∈ D, p ∈ all) : Call w k f args D₀ (LOk w bk idd most o D all t' mm) := by
  subst e
  refine h.post fun v D' => ?_
  intro hI9; refine exC2 hI9 ?_; (try clear hI9); intro o' tl hR; refine anC4 hR ?_; clear hR; intro e1 e2 e3 e4
  dsimp only at e2
  have e4 : TreeIn w (tl ++ D) v t' := e4
  cases t' with
  | mk name ws kids text =>
    have e5 := e4
    unfold TreeIn at e5
    (with_reducible refine (?_ : (let lG : Prop := _; lG))); intro lG; obtain ⟨x, d, l, k, vs, tn, tt, rfl, a1, _⟩ := e5; k_unfold; clear lG
    exact ⟨x, _, o', tl, rfl, (List.mem_append.mp a1).elim (List.mem_append_left _) fun h => List.mem_append_right _ (sub _ h), rfl, e1, e2, e3, e4⟩
theorem l_limit {w : World} {k : Nat} {f : Addr} {args : List Value} {D₀ : Led} {bk idd : Addr} {most : Nat} {o : Obj} {D all : Led} {mm : Nat} {res : Res × Nat} (h : Call w k f args D₀ (LPost w bk idd most o D all res)) (e : res = (.limit, mm)) : Call w k f args D₀ (LStr w bk idd most o all (S "limit") mm) := by
  subst e
  refine h.post fun v D' => ?_
  intro hI9; refine exC2 hI9 ?_; (try clear hI9); intro o' tl hR; refine anC4 hR ?_; clear hR; intro e1 e2 e3 hO5; obtain ⟨t, e4⟩ := hO5
  exact exI3 t o' tl ⟨e4, e1, e2, e3⟩
theorem l_sheet {w : World} {k : Nat} {f : Addr} {args : List Value} {D₀ : Led} {bk idd : Addr} {most : Nat} {o : Obj} {D all : Led} {mm : Nat} {res : Res × Nat} (h : Call w k f args D₀ (LPost w bk idd most o D all res)) (e : res = (.sheet, mm)) : Call w k f args D₀ (LStr w bk idd most o all (S "sheet") mm) := by
  subst e
  refine h.post fun v D' => ?_
  intro hI9; refine exC2 hI9 ?_; (try clear hI9); intro o' tl hR; refine anC4 hR ?_; clear hR; intro e1 e2 e3 hO5; obtain ⟨t, e4⟩ := hO5
  exact exI3 t o' tl ⟨e4, e1, e2, e3⟩
theorem isi_ts {prog : Program} {w : World} {A : Around} {E : Value → Shared → Prop} {s : Shared} {h₀ : Heap} {L a : Addr} {news : Led} {o : Obj} {Q : Value → Shared → Prop} (N : News h₀ L s.heap news) (hm : (a, o) ∈ news) (hc : o.cls = .type "tuple") (h : Q (.bool false) { s with toks := s.toks + 1 }) :
    wpAny (model prog w) A (call (.builtin "isinstance") [.ref a, .type "str"]) Q E s := IsiPair.tuple_str (N _ hm).1 hc h
theorem lp_call {w : World} {ids : List (Str × T)} {most n : Nat} (ih : LPutC w ids most n) {t : T} {names : List Str} {made : Nat} {v : Value} {nx : Addr} {D all tl : Led} {bk idd I l' : Addr} {o0 o oI : Obj} {ys : List Value} {k : Nat}
    (sub : ∀ p ∈ D, p ∈ all) (hU : BookOk w o idd most made) (hv : TreeIn w D v t) (mn : LNamesIn D nx names) (mi : IdsIn w (TreeIn w) D idd ids) (off : ∀ p ∈ all, @Ne Nat p.1 bk) (hfr : Fresh ((bk, o0) :: (l', o0) :: (I, o0) :: all) tl) (qI : AllLt I [(bk, o0)]) (ql : AllLt l' [(bk, o0)])
    (hr : rank t names ≤ n) (ok : OkT t) {g h : Heap} {L : Addr} (_ : News g L h ((I, oI) :: (l', listOf ys.toArray k) :: (bk, o) :: (tl ++ all))) :
    Call w (6 * n + 60) 348 [.ref bk, v, .ref nx] ((bk, o) :: (I, oI) :: (l', listOf ys.toArray k) :: (tl ++ all)) (LPost w bk idd most o D ((I, oI) :: (l', listOf ys.toArray k) :: (tl ++ all)) (putF ids most n t names made)) :=
  ih hU (fun p hp => .tail _ (.tail _ (List.mem_append_right _ (sub p hp)))) hv mn mi (fun p hp => by
    rcases List.mem_cons.mp hp with rfl | hp
    · exact Nat.ne_of_gt qI.1
    rcases List.mem_cons.mp hp with rfl | hp
    · exact Nat.ne_of_gt ql.1
    rcases List.mem_append.mp hp with hp | hp
    · exact Ne.symm (hfr p hp _ (.head _))
    · exact off p hp) hr ok
theorem lp_turn {w : World} {f : T → Nat → Res × Nat} {kids : List T} {made : Nat} {bk idd : Addr} {most : Nat} {o o' o9 oI : Obj} {D all tl tl9 : Led} {l l' I L : Addr} {m₀ : Str → Option Value} {g h : Heap} {s : Shared} {tk k k1 kl : Nat} {vs : Array Value} {x1 x2 : Option Value} {v1 v9 : Value} {xs : List Itm} {ys : List Value}
    (F : Fr g L h (fun y => if y = S "told" then some v9 else if y = S "one" then some v1 else if y = S "told" then x2 else if y = S "one" then x1 else m₀ y))
    (N : News g L h ((bk, o9) :: (tl9 ++ (I, oI) :: (l', listOf (ys.toArray.push v9) k1) :: (tl ++ all)))) (f9 : Fresh ((bk, o') :: (I, oI) :: (l', listOf ys.toArray k) :: (tl ++ all)) tl9) (hfr : Fresh ((bk, o) :: (l', o) :: (I, o) :: all) tl)
    (ml : (l, listOf vs kl) ∈ all) (qI : AllLt I ((bk, o) :: (l', o) :: all)) (ql : AllLt l' [(bk, o)])
    (H : ∃ vr kr outs ys' t' made', xs = vr.map Itm.val ∧ AllIn (TreeIn w D) vr kr ∧ (∀ t ∈ kr, t ∈ kids) ∧ BookOk w o9 idd most made' ∧ AllIn (TreeIn w (tl ++ D)) ys' outs ∧ TreeIn w (tl9 ++ D) v9 t' ∧ kidsF f kids made = pre (outs ++ [t']) (kidsF f kr made') ∧ ys'.length + (vr.length + 1) ≤ 16 ∧ ys = ys') :
    UnrEndW g L s [(I, oI)] (fun m' n' => SubL [(l, listOf vs kl)] n' ∧ LpInv w f kids made bk idd most o D all l' m₀ I xs m' n') { s with heap := h, toks := tk } := by
  refine exC6 H ?_; (try clear H); intro vr kr outs ys' t' made' hR; refine anC9 hR ?_; clear hR; intro e1 hin hmem hU hall ht heq hz hO14; subst hO14
  refine exI4 h tk _ ((l', listOf (ys.toArray.push v9) k1) :: (bk, o9) :: ((tl9 ++ tl) ++ all)) ⟨rfl, F, ?_, ?_, ⟨.tail _ (.tail _ (List.mem_append_right _ ml)), trivial⟩, vr, kr, outs ++ [t'], ys ++ [v9], made', o9, tl9 ++ tl, k1, some v1, some v9, e1, hin, hmem, hU, ?_, heq, ?_, ?_, ?_, ?_⟩
  · intro p hp
    refine N p ?_
    simp only [List.mem_cons, List.mem_append, List.not_mem_nil] at hp ⊢
    grind
  · intro p hp q hq
    rw [List.mem_singleton] at hq
    subst hq
    rcases List.mem_cons.mp hp with rfl | hp
    · exact Nat.ne_of_lt qI.2.1
    rcases List.mem_cons.mp hp with rfl | hp
    · exact Nat.ne_of_lt qI.1
    rcases List.mem_append.mp hp with hp | hp
    · rcases List.mem_append.mp hp with hp | hp
      · exact Ne.symm (f9 p hp (I, oI) (.tail _ (.head _)))
      · exact Ne.symm (hfr p hp (I, o) (.tail _ (.tail _ (.head _))))
    · exact Nat.ne_of_lt (ltAll qI.2.2 p hp)
  · refine (hall.mono fun v t => TreeIn.mono fun p hp => ?_).snoc (TreeIn.mono (fun p hp => ?_) ht)
    · rw [List.append_assoc]; exact List.mem_append_right _ hp
    · simp only [List.mem_append] at hp ⊢; grind
  · simp
  · refine fresh_app (fun p hp q hq => ?_) hfr
    rcases List.mem_cons.mp hq with rfl | hq
    · exact f9 p hp (bk, o') (.head _)
    rcases List.mem_cons.mp hq with rfl | hq
    · exact f9 p hp (l', listOf ys.toArray k) (.tail _ (.tail _ (.head _)))
    rcases List.mem_cons.mp hq with rfl | hq
    · exact f9 p hp (I, oI) (.tail _ (.head _))
    · exact f9 p hp q (.tail _ (.tail _ (.tail _ (List.mem_append_right _ hq))))
  · rw [List.length_append, List.length_singleton]; omega
  · funext z
    by_cases h1 : z = S "told"
    · simp only [if_pos h1]
    · by_cases h2 : z = S "one"
      · simp only [if_neg h1, if_pos h2]
      · simp only [if_neg h1, if_neg h2]
theorem lp_bad {w : World} {bk idd : Addr} {most : Nat} {o o' o9 oI : Obj} {D all tl tl9 : Led} {l' I L : Addr} {g h : Heap} {k mm : Nat} {ys : List Value} {v : Value} {res : Res} {r : Res × Nat}
    (N : News g L h ((bk, o9) :: (tl9 ++ (I, oI) :: (l', listOf ys.toArray k) :: (tl ++ all)))) (f9 : Fresh ((bk, o') :: (I, oI) :: (l', listOf ys.toArray k) :: (tl ++ all)) tl9) (hfr : Fresh ((bk, o) :: (l', o) :: (I, o) :: all) tl)
    (qI : AllLt I ((bk, o) :: (l', o) :: all)) (ql : AllLt l' ((bk, o) :: all)) (hU : BookOk w o9 idd most mm) (ht : ∀ {D : Led}, ToldIs w D v res) (e : r = (res, mm)) :
    ∃ D', News g L h D' ∧ LPost w bk idd most o D all r v D' := by
  subst e
  refine ⟨(bk, o9) :: ((tl9 ++ (I, oI) :: (l', listOf ys.toArray k) :: tl) ++ all), ?_, o9, _, rfl, hU, ?_, ht⟩
  · intro p hp
    refine N p ?_
    simp only [List.mem_cons, List.mem_append] at hp ⊢
    grind
  · refine fresh_app (fun p hp q hq => ?_) (fresh_cons (allLt_of fun q hq => ?_) (fresh_cons ql (hfr.sub fun p hp => ?_)))
    · rcases List.mem_cons.mp hq with rfl | hq
      · exact f9 p hp (bk, o') (.head _)
      · exact f9 p hp q (.tail _ (.tail _ (.tail _ (List.mem_append_right _ hq))))
    · rcases List.mem_cons.mp hq with rfl | hq
      · exact qI.1
      · exact ltAll qI.2.2 q hq
    · rcases List.mem_cons.mp hp with rfl | hp
      · exact .head _
      · exact .tail _ (.tail _ (.tail _ hp))
theorem lp_fin {w : World} {bk idd : Addr} {most : Nat} {o o' o9 : Obj} {D all tl : Led} {l' I x9 d9 L : Addr} {g h : Heap} {k mm : Nat} {ys : List Value} {outs : List T} {kvs : List (Str × Value)} {ws : Ws} {name text : Str} {tn tt : Tok} {r : Res × Nat}
    (N : News g L h ((x9, ({ cls := .type "tuple", data := .seq #[.str name tn, .ref d9, .ref l', .str text tt] } : Obj)) :: (d9, o9) :: (l', listOf ys.toArray k) :: (bk, o') :: (tl ++ all)))
    (hfr : Fresh ((bk, o) :: (l', o) :: (I, o) :: all) tl) (qx : AllLt x9 ((bk, o) :: all)) (q9 : AllLt d9 ((bk, o) :: all)) (ql : AllLt l' ((bk, o) :: all)) (hU : BookOk w o' idd most mm)
    (hd : o9.IsDictOf (strKind prg w) kvs) (hw : WsAre kvs ws) (lo : (d9 == sysModules) = false) (ha : AllIn (TreeIn w (tl ++ D)) ys outs) (e : r = (.ok (.mk name ws outs text), mm)) :
    ∃ D', News g L h D' ∧ LPost w bk idd most o D all r (.ref x9) D' := by
  subst e
  refine ⟨(bk, o') :: (((x9, ({ cls := .type "tuple", data := .seq #[.str name tn, .ref d9, .ref l', .str text tt] } : Obj)) :: (d9, o9) :: (l', listOf ys.toArray k) :: tl) ++ all), ?_, o', _, rfl, hU, ?_, ?_⟩
  · intro p hp
    refine N p ?_
    simp only [List.mem_cons, List.mem_append] at hp ⊢
    grind
  · refine fresh_cons qx (fresh_cons q9 (fresh_cons ql (hfr.sub fun p hp => ?_)))
    rcases List.mem_cons.mp hp with rfl | hp
    · exact .head _
    · exact .tail _ (.tail _ (.tail _ hp))
  · show TreeIn w _ (.ref x9) (.mk name ws outs text)
    unfold TreeIn
    refine ⟨x9, d9, l', k, ys.toArray, _, _, rfl, .head _, ⟨o9, kvs, .tail _ (.head _), hd, hw, lo⟩, .tail _ (.tail _ (.head _)), ?_⟩
    exact trees_all.mpr (ha.mono fun v t => TreeIn.mono fun p hp => .tail _ (.tail _ (.tail _ hp)))
theorem lp_init {w : World} {f : T → Nat → Res × Nat} {kids : List T} {made : Nat} {bk idd : Addr} {most k : Nat} {o o' : Obj} {D all : Led} {l' : Addr} {m₀ : Str → Option Value} {I : Addr} {vs : List Value} (h1 : AllIn (TreeIn w D) vs kids) (h2 : BookOk w o' idd most made) (hz : vs.length ≤ 16) :
    LpInv w f kids made bk idd most o D all l' m₀ I (vs.map Itm.val) m₀ ((l', listOf #[] k) :: (bk, o') :: all) := by
  refine ⟨vs, kids, [], [], made, o', [], k, m₀ (S "one"), m₀ (S "told"), rfl, h1, fun _ h => h, h2, trivial, (pre_start _).symm, rfl, fresh_nil, by rw [List.length_nil]; omega, ?_⟩
  funext z
  by_cases h : z = S "told"
  · rw [if_pos h, h]
  · rw [if_neg h]
    by_cases h : z = S "one"
    · rw [if_pos h, h]
    · rw [if_neg h]
section
theorem kw_lput1 : True := by
  (k_with "lput1" => first | (k_here; (with_reducible refine (?_ : wpAny _ _ (call _ [Value.ref _, Value.type "str"]) _ _ _)); (refine' isi_ts ?k1_lput1 ?k2_lput1 (by assumption) ?_; (case k1_lput1 => k_asm); (case k2_lput1 => k_mem))) | fail)
  (k_with "lput2" => first | (k_here; (with_reducible refine (?_ : wpAny _ _ (call (Value.ref 348) _) _ _ _)); (rename Call _ _ _ _ _ _ => lC); k_dflt (refine' Call.use lC ?k1_lput2 ?k2_lput2 ?k3_lput2 ?k4_lput2 ?k5_lput2 ?k6_lput2 ?kd_lput2 ?ku_lput2 ?sub_lput2 ?_; (case k1_lput2 => k_asm); (case k2_lput2 => k_asm); (case k3_lput2 => k_asm); (case k4_lput2 => k_asm); (case k5_lput2 => k_asm); (case k6_lput2 => first | exact rfl | assumption); (case kd_lput2 => ktr_room); (case ku_lput2 => ktr_units); (case sub_lput2 => (intro p hp; (try simp only [List.mem_cons, List.mem_append] at hp ⊢); grind)); k_whole); intro v9 h9 tk9 D9 F9 N9 p9; first | ((with_reducible refine (?_ : (let lG : Prop := _; lG))); intro lG; obtain ⟨x9, tup9, o9, tl9, e9, m9, c9, d9, u9, f9, q9⟩ := LOk.elim p9; subst e9; subst d9; (try k_unfold); (try k_sweep); (try dsimp only); (try k_fold)) | ((with_reducible refine (?_ : (let lG : Prop := _; lG))); intro lG; obtain ⟨t9, o9, tl9, e9, d9, u9, f9⟩ := LStr.elim p9; subst e9; subst d9; (try k_unfold); (try k_sweep); (try dsimp only); (try k_fold))) | fail)
  (k_with "lput3" => first | (k_here; (with_reducible refine (?_ : wpAny _ _ (subscriptTail _ _ (Value.ref _) (Value.str (Str.ofString "made") _)) _ _ _)); k_dflt (refine' kda_item (knd := PySem.strKind _ _) ?k1_lput3 ?k2_lput3 ?k3_lput3 (strKind_is _ _ _ _) (bk_made _ _ _ _ _) ?_; (case k1_lput3 => k_asm); (case k3_lput3 => assumption); (case k2_lput3 => k_mem))) | fail)
  (k_with "lput4" => first | (k_here; (with_reducible refine (?_ : wpAny _ _ (subscriptTail _ _ (Value.ref _) (Value.str (Str.ofString "most") _)) _ _ _)); k_dflt (refine' kda_item (knd := PySem.strKind _ _) ?k1_lput4 ?k2_lput4 ?k3_lput4 (strKind_is _ _ _ _) (bk_most _ _ _ _ _) ?_; (case k1_lput4 => k_asm); (case k3_lput4 => assumption); (case k2_lput4 => k_mem))) | fail)
  (k_with "lput5" => first | (k_here; (with_reducible refine (?_ : wpAny _ _ (setItem (Value.ref _) (Value.str _ _) (Value.int _ _)) _ _ _)); k_dflt (refine' bk_set_K ?F_lput5 ?N_lput5 ?U_lput5 ?d_lput5 ?_; (case F_lput5 => k_asm); (case N_lput5 => k_asm); (case U_lput5 => k_updF); (case d_lput5 => assumption)); intro h9' o9' F' N' hd9'; (try dsimp only at N'); (try k_sweep)) | fail)
  (k_with "lput6" => first | (k_here; (with_reducible refine (?_ : wpAny _ _ (call (Value.builtin _) [Value.ref _, _]) _ _ _)); k_dflt (refine' append_K ?k1_lput6 ?k2_lput6 ?k3_lput6 ?_ ?z_lput6; (case k1_lput6 => k_asm); (case k2_lput6 => k_asm); (case k3_lput6 => k_upd); (case z_lput6 => (refine Nat.le_trans (m := 100) ?_ (by decide); (try simp only [List.size_toArray, Array.size_push]); omega)); k_whole); intro h' F' N'; (try k_sweep)) | fail)
  (k_with "lput7" => first | (k_here; (rename Fr _ _ _ _ => lF'); (with_unfolding_all refine' For_turns lF' ?_); k_whole) | fail)
  (k_with "lput8" => first | (k_here; (with_reducible refine (?_ : wpAny _ _ (pyIter (Value.ref _)) (fun it s₂ => TurnsAt _ _ _ _ _ _ _ _ _ it s₂) _ _)); (rename Fr _ _ _ _ => lF'); (rename News _ _ _ _ => lN'); (with_unfolding_all refine' iter_listTurns (vs := Array.toList _) (by rfl) lF' lN' ?km_lput8 ?k1_lput8 ?k2_lput8 ?_; (case km_lput8 => k_mem); (case k1_lput8 => exact rfl); (case k2_lput8 => (with_reducible simp only [Array.toArray_toList]; exact rfl)); k_whole); clear lF' lN'; intro i' l1; (try k_lt l1)) | fail)
  (k_with "lput9" => first | (k_here; refine Hold.intro ?_) | fail)
  trivial
theorem lput_node {w : World} {ids : List (Str × T)} {most n : Nat} (ih : LPutC w ids most n) {name text : Str} {ws : Ws} {kids : List T} {names : List Str} {made : Nat} {nx : Addr} {D all : Led} {bk idd x d l : Addr} {vs : Array Value} {o : Obj} {tn tt : Tok} {kl : Nat}
    (hname : (name == S "use") = false) (hU : BookOk w o idd most made) (sub : ∀ p ∈ D, p ∈ all)
    (mx : (x, ({ cls := .type "tuple", data := .seq #[.str name tn, .ref d, .ref l, .str text tt] } : Obj)) ∈ D)
    (md : DictIn w D d ws) (ml : (l, listOf vs kl) ∈ D) (mk : TreesIn w D vs.toList kids) (mn : LNamesIn D nx names) (mi : IdsIn w (TreeIn w) D idd ids) (off : ∀ p ∈ all, @Ne Nat p.1 bk)
    (hr : rank (.mk name ws kids text) names ≤ n + 1) (ok : OkT (.mk name ws kids text)) :
    Call w (6 * (n + 1) + 60) 348 [.ref bk, .ref x, .ref nx] ((bk, o) :: all)
      (LPost w bk idd most o D all (putF ids most (n + 1) (.mk name ws kids text) names made)) := by
  obtain ⟨ta, tb, hbk⟩ := id hU
  have amx := sub _ mx
  have aml := sub _ ml
  have hne : ¬ name = S "use" := by simpa using hname
  have hput : ¬ made + 1 > most → ∀ r, kidsF (fun c m => putF ids most n c names m) kids (made + 1) = r →
      putF ids most (n + 1) (.mk name ws kids text) names made = match r with | (.inl r, m) => (.ok (.mk name ws r text), m) | (.inr e, m) => (e, m) := fun h r e => by
    show (if made + 1 > most then _ else if (T.mk name ws kids text).name = S "use" then _ else _) = _
    rw [if_neg h, if_neg (show ¬ (T.mk name ws kids text).name = S "use" from hne)]
    show (match kidsF (fun c m => putF ids most n c names m) kids (made + 1) with | (.inl r, m) => _ | (.inr e, m) => _) = _
    rw [e]
    rfl
  unfold OkT at ok
  have hsz : vs.size ≤ 16 := by have := (trees_all.mp mk).len; rw [Array.length_toList] at this; omega
  constructor
  intro dp un gd cn cs a ccd cl outer A₀ base h₀ L m sh sg sd st so mean mg mb Q E B F X N T hk hdp hun ret
  skip
  refine wpAny_call ?_
  k_dflt ktr_enter
  (repeat' (first | k_extra "sa" | k_extra "b117" | k_extra "b118" | k_extra "b0" | k_extra "b119" | k_extra "b13" | k_extra "b65" | k_extra "b1" | k_extra "b120" | k_extra "b2" | k_extra "b121" | k_extra "sz"))
  rotate_left
  unfold Hold
  refine' items_ind1 (LpInv w (fun c m => putF ids most n c names m) kids (made + 1) bk idd most o D all _ _) ?zs ?zd ?zi
  case zi => exact lp_init (trees_all.mp mk) ⟨_, _, by assumption⟩ (by rw [Array.length_toList]; exact hsz)
  case zs =>
    intro a r m1 news hI9 v h tk oI hv hI F3 N3; (with_reducible refine (?_ : (let lG : Prop := _; lG))); intro lG; obtain ⟨vr, kr, outs, ys, made', o', tl, k', x1, x2, hxs, hin, hmem, hU', hall, heq, rfl, hfr, hyz, rfl⟩ := hI9; k_unfold; clear lG
    cases vr with
    | nil => cases hxs
    | cons v1 vr =>
    cases kr with
    | nil => exact hin.elim
    | cons t1 kr =>
    obtain ⟨hv1, hin⟩ := hin
    rw [List.map_cons, List.cons.injEq] at hxs
    obtain ⟨rfl, rfl⟩ := hxs
    cases hv
    have htm := hmem t1 (.head _)
    have b1 := ok.2.2.2.mem htm
    have b2 : rank t1 names ≤ n := by
      have := height_kid htm
      unfold rank height at hr
      unfold rank
      omega
    have' hC := lp_call (o0 := o) ih sub hU' hv1 mn mi off hfr ?qa ?qb b2 b1 N3
    case qa => ktr_rel
    case qb => ktr_rel
    rw [List.length_cons] at hyz
    cases hres : putF ids most n t1 names made' with
    | mk res mm =>
    cases res with
    | ok t' =>
      have hC := l_ok hC hres fun p hp => .tail _ (.tail _ (List.mem_append_right _ (sub p hp)))
      (repeat' (first | k_extra "sa" | k_extra "b122" | k_extra "b123" | k_extra "b5" | k_extra "b1" | k_extra "b22" | k_extra "b2" | k_extra "b24" | k_extra "b124" | k_extra "sz"))
      refine' lp_turn ?zF ?zN ?z1 hfr aml ?z2 ?z3 ⟨vr, kr, outs, ys, t', mm, rfl, hin, fun t ht => hmem t (.tail _ ht), by assumption, hall, by assumption, heq.trans (pre_step hres), by omega, ?z4⟩
      case zF => k_asm
      case zN => k_asm
      case z1 => assumption
      case z2 => ktr_rel
      case z3 => ktr_rel
      case z4 => exact rfl
    | limit =>
      have hC := l_limit hC hres
      (repeat' (first | k_extra "sa" | k_extra "b0" | k_extra "b123" | k_extra "b5" | k_extra "b2" | k_extra "b24" | k_extra "sz"))
      obtain ⟨D', hN, hP⟩ := lp_bad (res := .limit) (by assumption) (by assumption) hfr (by ktr_rel) (by ktr_rel) (by assumption) ⟨_, rfl⟩ (hput (by omega) _ (heq.trans (pre_limit hres)))
      exact ret _ _ _ D' (by k_asm) hN hP
    | sheet =>
      have hC := l_sheet hC hres
      (repeat' (first | k_extra "sa" | k_extra "b0" | k_extra "b123" | k_extra "b5" | k_extra "b2" | k_extra "b24" | k_extra "sz"))
      obtain ⟨D', hN, hP⟩ := lp_bad (res := .sheet) (by assumption) (by assumption) hfr (by ktr_rel) (by ktr_rel) (by assumption) ⟨_, rfl⟩ (hput (by omega) _ (heq.trans (pre_sheet hres)))
      exact ret _ _ _ D' (by k_asm) hN hP
  case zd =>
    intro m1 news hI9 h tk F3 N3; (with_reducible refine (?_ : (let lG : Prop := _; lG))); intro lG; obtain ⟨vr, kr, outs, ys, made', o', tl, k', x1, x2, hxs, hin, hmem, hU', hall, heq, rfl, hfr, hyz, rfl⟩ := hI9; k_unfold; clear lG
    have hv0 : vr = [] := List.map_eq_nil_iff.mp hxs.symm
    subst hv0
    have hk0 : kr = [] := by cases kr with
      | nil => rfl
      | cons => exact hin.elim
    subst hk0
    (with_reducible refine (?_ : (let lG : Prop := _; lG))); intro lG; obtain ⟨od, kvs, mo, hd, hw, hlo⟩ := md; k_unfold; clear lG
    have amo := sub _ mo
    have hz1 : ws.length ≤ 100 := by omega
    dsimp only
    (repeat' (first | k_extra "sa" | k_extra "b30" | k_extra "b5" | k_extra "b65" | k_extra "b23" | k_extra "sz"))
    obtain ⟨D', hN, hP⟩ := lp_fin (by assumption) hfr (by ktr_rel) (by ktr_rel) (by ktr_rel) hU' (by assumption) (by assumption) (by assumption) hall (hput (by omega) _ (heq.trans (pre_nil _ _ _)))
    exact ret _ _ _ D' (by k_asm) hN hP
  · refine ret _ _ _ _ (by k_asm) (by assumption) ⟨_, [], rfl, ?_, fresh_nil, ?_⟩
    all_goals
      rw [show putF ids most (n + 1) (.mk name ws kids text) names made = (.limit, made + 1) by unfold putF; rw [if_pos (by omega)]]
    · exact ⟨_, _, by assumption⟩
    · exact ⟨_, rfl⟩
end
end

theorem reset_lgrp : True := by
  (w_top off)
  (k_with "b125" => first | ((with_reducible refine (?_ : wpAny _ _ (subscriptTail (Expr.Name _ _) _ (Value.ref _) (Value.int _ _)) _ _ _)); first | (with_reducible (k_extra "call:4")) | fail) | fail)
  (k_with "b126" => first | ((with_reducible refine (?_ : wpAny _ _ (call (Value.builtin "dict.get") _) _ _ _)); first | (with_reducible (k_extra "lgrp2")) | fail) | fail)
  (k_with "b127" => first | ((with_reducible refine (?_ : wpAny _ _ (subscriptTail _ _ _ _) _ _ _)); first | (with_reducible (k_extra "lgrp1")) | fail) | fail)
  (k_with "b128" => first | ((with_reducible refine (?_ : wpAny _ _ (compareOp CmpOp.In (Value.str _ _) (Value.ref _)) _ _ _)); first | (with_reducible (k_extra "lgrp3")) | fail) | fail)
  (k_with "b129" => first | ((with_reducible refine (?_ : wpAny _ _ (call (Value.builtin "len") _) _ _ _)); first | (with_reducible (k_extra "lgrp4")) | fail) | fail)
  trivial
section
-- part lgrp
noncomputable def PairsIn (D : Led) : List Value → Ws → Prop
  | [], [] => True
  | v :: vs, p :: ps => (∃ x n t t', v = .ref x ∧ (x, tupObj #[.str p.1 t, .str p.2 t'] n) ∈ D) ∧ PairsIn D vs ps
  | _, _ => False
theorem PairsIn.mono {D D' : Led} (h : ∀ p ∈ D, p ∈ D') : ∀ {vs : List Value} {ws : Ws}, PairsIn D vs ws → PairsIn D' vs ws
  | [], [], _ => trivial
  | [], _ :: _, x => x.elim
  | _ :: _, [], x => x.elim
  | _ :: _, _ :: _, ⟨⟨x, n, t, t', e, m⟩, r⟩ => ⟨⟨x, n, t, t', e, h _ m⟩, PairsIn.mono h r⟩
theorem PairsIn.snoc {D : Led} {v : Value} {p : Str × Str} : ∀ {vs : List Value} {ws : Ws}, PairsIn D vs ws → (∃ x n t t', v = .ref x ∧ (x, tupObj #[.str p.1 t, .str p.2 t'] n) ∈ D) → PairsIn D (vs ++ [v]) (ws ++ [p])
  | [], [], _, x => ⟨x, trivial⟩
  | [], _ :: _, h, _ => h.elim
  | _ :: _, [], h, _ => h.elim
  | _ :: _, _ :: _, h, x => ⟨h.1, PairsIn.snoc h.2 x⟩
theorem PairsIn.kvs {D : Led} : ∀ {vs : List Value} {ws : Ws}, PairsIn D vs ws → ∃ kvs, WsAre kvs ws ∧ vs.length = kvs.length ∧ ∀ (j : Nat) (v : Value), vs[j]? = some v → ∃ (k : Str) (x : Value) (t : Tok) (T : Addr) (n : Nat), kvs[j]? = some (k, x) ∧ v = Value.ref T ∧ (T, tupObj #[Value.str k t, x] n) ∈ D
  | [], [], _ => ⟨[], trivial, rfl, fun j v h => by simp at h⟩
  | [], _ :: _, h => h.elim
  | _ :: _, [], h => h.elim
  | v :: vs, (a, b) :: ws, ⟨⟨x, n, t, t', e, m⟩, r⟩ => by
    refine exC1 (PairsIn.kvs r) ?_; intro kvs hR; refine anC3 hR ?_; clear hR; intro h1 h2 h3
    refine ⟨(a, .str b t') :: kvs, ⟨⟨rfl, t', rfl⟩, h1⟩, by rw [List.length_cons, List.length_cons, h2], fun j u hj => ?_⟩
    cases j with
    | zero =>
      cases hj
      exact exI5 a _ t x n ⟨rfl, e, m⟩
    | succ j => exact h3 j u (by simpa using hj)
section
variable {prog : Program} {w : World} {A : Around} {E : Value → Shared → Prop} {s : Shared} {h₀ : Heap} {L d : Addr} {m : Str → Option Value} {all : Led} {o : Obj} {kvs : List (Str × Value)} {ws : Ws} {k x dflt : Str} {tk td : Tok}
theorem dict_pairs_W {D : Led} {l : Addr} {ys : List Value} {nl : Nat} {Q : Value → Shared → Prop}
    (F : Fr h₀ L s.heap m) (N : News h₀ L s.heap all) (hbig : h₀.NoLimit) (ml : (l, listOf ys.toArray nl) ∈ all) (hh : A.handled = none) (P : PairsIn D ys ws) (sub : ∀ p ∈ D, p ∈ all) (nd : (ws.map (·.1)).Nodup) (hsz : ws.length ≤ 100)
    (h : ∀ d h' tk o kvs, Fr h₀ L h' m → News h₀ L h' ((d, o) :: all) → (∀ p ∈ all, p.1 < d) → (d == sysModules) = false → o.IsDictOf (strKind prog w) kvs → WsAre kvs ws → Q (.ref d) { s with heap := h', toks := tk }) :
    wpAny (model prog w) A (call (.type "dict") [.ref l]) Q E s := by
  refine exC1 (P.kvs) ?_; intro kvs hR; refine anC3 hR ?_; clear hR; intro h1 h2 h3
  refine dict_pairs_K (items := ys.toArray) F N hbig ml hh (by rw [List.size_toArray]; exact h2) (h1.keys ▸ nd) (by rw [h1.len]; exact hsz) (fun j v hj => ?_) fun d h' tk o a b c e f => h d h' tk o kvs a b c e f h1
  refine exC5 (h3 j v (by simpa using hj)) ?_; intro k x t T n hR; refine anC3 hR ?_; clear hR; intro a1 a2 a3
  exact exI5 k x t T n ⟨a1, a2, sub _ a3⟩
theorem dw_get2 {Q : Value → Shared → Prop} (N : News h₀ L s.heap all) (hp : (d, o) ∈ all) (hd : o.IsDictOf (strKind prog w) kvs) (hw : WsAre kvs ws) (lo : (d == sysModules) = false) (hl : getOr ws k dflt = x) (h : ∀ t', Q (.str x t') { s with toks := s.toks + 1 }) :
    wpAny (model prog w) A (call (.builtin "dict.get") [.ref d, .str k tk, .str dflt td]) Q E s := by
  refine kdg_get2 (knd := strKind prog w) N hp hd lo (strKind_is _ _ _ _) (valueAt kvs k) rfl ?_
  unfold getOr at hl
  cases hg : wsGet ws k with
  | none =>
    rw [hw.none hg]
    rw [hg] at hl
    cases hl
    exact h _
  | some v =>
    obtain ⟨t, ht⟩ := hw.some hg
    rw [ht]
    rw [hg] at hl
    cases hl
    exact h t
theorem lst_in {x : Addr} {vs : Array Value} {ns : List Str} {t : Tok} {n : Nat} {Q : Value → Shared → Prop} (N : News h₀ L s.heap all) (hx : (x, listOf vs n) ∈ all) (h : StrsV vs.toList ns) {b : Bool} (hb : ns.any (· == k) = b) (q : Q (.bool b) s) :
    wpAny (model prog w) A (compareOp .In (.str k t) (.ref x)) Q E s := by
  refine SeqAt.in_listAt (isS k) ⟨_, (N _ hx).1, rfl, _, rfl⟩ (tup_eq h) ?_
  rw [← Array.any_toList, strsV_any h, hb]; exact q
theorem lnames_add {nx b : Addr} {vs : Array Value} {names : List Str} {nm : Str} {t : Tok} {n n2 : Nat} {Q : Value → Shared → Prop}
    (F : Fr h₀ L s.heap m) (N : News h₀ L s.heap all) (hx : (nx, listOf vs n) ∈ all) (hS : StrsV vs.toList names) (hb : (b, listOf #[Value.str nm t] n2) ∈ all) (hz : names.length ≤ 12)
    (h : ∀ D h' vs', Fr h₀ L h' m → News h₀ L h' ((D, listOf vs' 0) :: all) → (∀ p ∈ all, p.1 < D) → StrsV vs'.toList (names ++ [nm]) → Q (.ref D) { s with heap := h' }) :
    wpAny (model prog w) A (binaryOp .Add (.ref nx) (.ref b)) Q E s := by
  refine kmk_add_lit F N (its := vs) (its2 := #[Value.str nm t]) ⟨_, (N _ hx).1, rfl, _, rfl⟩ ⟨_, (N _ hb).1, rfl, _, rfl⟩ rfl (fun D h' F' N' l1 => h D h' _ F' N' l1 ?_) ?_
  · rw [List.toList_toArray]
    exact strsV_snoc hS
  · have := strsV_len hS
    have z : names.length + 1 ≤ sizeLine := Nat.le_trans (Nat.succ_le_succ hz) (by decide)
    rw [this]
    exact z
theorem in_strB {x y : Str} {t u : Tok} {b : Bool} {Q : Value → Shared → Prop} (hb : (!(Builtin.Str.occurrences x y 0 x.length 1).isEmpty) = b) (h : Q (.bool b) s) : wpAny (model prog w) A (compareOp .In (.str y u) (.str x t)) Q E s := in_str (hb ▸ h)
end
noncomputable def nm0 (ws : Ws) : Str := tailS (getOr ws (S "href") (getOr ws (S "xlink:href") (S "#")))
theorem nm0_some {ws : Ws} {nm : Str} (h : linkName ws = some nm) : nm0 ws = nm := by
  unfold linkName at h
  unfold nm0 getOr
  cases h1 : wsGet ws (S "href") with
  | some v => rw [h1] at h; cases h; rfl
  | none =>
    rw [h1] at h
    cases h2 : wsGet ws (S "xlink:href") with
    | some v => rw [h2] at h; cases h; rfl
    | none => rw [h2] at h; cases h
theorem nm0_none {ws : Ws} (h : linkName ws = none) : nm0 ws = S "" := by
  unfold linkName at h
  unfold nm0 getOr
  cases h1 : wsGet ws (S "href") with
  | some v => rw [h1] at h; cases h
  | none =>
    rw [h1] at h
    cases h2 : wsGet ws (S "xlink:href") with
    | some v => rw [h2] at h; cases h
    | none => decide +kernel
noncomputable def LGrpC (w : World) (n : Nat) (args : List Value) (bk idd : Addr) (most made : Nat) (D all : Led) (R : Res × Nat) : Prop :=
  ∀ {o1}, BookOk w o1 idd most made → Call w (6 * n + 63) 353 args ((bk, o1) :: all) (LPost w bk idd most o1 D all R)
section
theorem kw_lgrpw99 : True := by
  (k_with "lgrp;99" => first | (refine' code_defC ?k1_lgrpw99 ?k2_lgrpw99 ?k3_lgrpw99 ?k4_lgrpw99 ?k5_lgrpw99 ?kA_lgrpw99 ?kF_lgrpw99 ?kK_lgrpw99 ?k6_lgrpw99 ?k7_lgrpw99 ?k8_lgrpw99 ?k9_lgrpw99 ?kB_lgrpw99 ?kD_lgrpw99 ?_ ?c2_lgrpw99 ?c3_lgrpw99 ?c4_lgrpw99; (case kA_lgrpw99 => exact rfl); (case kF_lgrpw99 => exact rfl); (case kK_lgrpw99 => assumption); (case k1_lgrpw99 => k_asm); (case k2_lgrpw99 => k_asm); (case k3_lgrpw99 => k_asm); (case k4_lgrpw99 => k_asm); (case k5_lgrpw99 => k_asm); (case k6_lgrpw99 => k_is); (case k7_lgrpw99 => k_is); (case k8_lgrpw99 => ktr_room); (case k9_lgrpw99 => first | exact BindsTo.of_eq rfl | exact binds_K (by k_in) rfl (by k_is) rfl rfl rfl); (case kB_lgrpw99 => exact rfl); (case kD_lgrpw99 => decide +kernel); (case c2_lgrpw99 => exact rfl); (case c3_lgrpw99 => exact rfl); (case c4_lgrpw99 => exact rfl); k_whole; intro g' L' h' tk' cells' FG' F' N' Y' B' X' T' l1; (try k_lt l1); k_cells Y'; (try simp only [List.cons_append, List.nil_append] at N'); (try dsimp only); (try k_fold)) | fail)
  trivial
local macro_rules | `(tactic| ktr_enter) => `(tactic| k_extra "lgrp;99")
theorem kw_lgrp1 : True := by
  (k_with "lgrp1" => first | (k_here; (with_reducible refine (?_ : wpAny _ _ (subscriptTail _ _ (Value.ref _) (Value.str (Str.ofString "ids") _)) _ _ _)); k_dflt (refine' kda_item (knd := PySem.strKind _ _) ?k1_lgrp1 ?k2_lgrp1 ?k3_lgrp1 (strKind_is _ _ _ _) (bk_ids _ _ _ _ _) ?_; (case k1_lgrp1 => k_asm); (case k3_lgrp1 => assumption); (case k2_lgrp1 => k_mem))) | fail)
  (k_with "lgrp2" => first | (k_here; k_dflt ((refine' dw_get2 ?k1_lgrp2 ?k2_lgrp2 ?k3_lgrp2 ?kw_lgrp2 ?k4_lgrp2 ?k5_lgrp2 ?_; (case k1_lgrp2 => k_asm); (case k2_lgrp2 => k_mem); (case k3_lgrp2 => k_asm); (case kw_lgrp2 => assumption); (case k4_lgrp2 => k_asm); (case k5_lgrp2 => assumption)); intro t9')) | fail)
  (k_with "lgrp3" => first | (k_here; (rename StrsV _ _ => lS); k_dflt (refine' lst_in ?N_lgrp3 ?hx_lgrp3 lS ?hb_lgrp3 ?_; (case N_lgrp3 => k_asm); (case hx_lgrp3 => k_mem); (case hb_lgrp3 => assumption))) | fail)
  (k_with "lgrp4" => first | (k_here; (with_reducible refine (?_ : wpAny _ _ (call (Value.builtin "len") [Value.ref _]) _ _ _)); k_dflt (refine' len_list ?k1_lgrp4 ?z_lgrp4 ?_; (case k1_lgrp4 => exact News.isList (by k_asm) (by k_mem)); (case z_lgrp4 => omega); k_whole)) | fail)
  trivial
theorem lgrp_miss {w : World} {ids : List (Str × T)} {most n : Nat} {name text : Str} {ws : Ws} {names : List Str} {made : Nat} {nx : Addr} {D all : Led} {bk idd x d l : Addr} {o od oi : Obj} {kvs kvi : List (Str × Value)} {tn tt : Tok} {y1 y2 nm : Str}
    (mx : (x, ({ cls := .type "tuple", data := .seq #[.str name tn, .ref d, .ref l, .str text tt] } : Obj)) ∈ all)
    (mo : (d, od) ∈ all) (hd : od.IsDictOf (strKind prg w) kvs) (hw : WsAre kvs ws) (hlo : (d == sysModules) = false) (hU : BookOk w o idd most made)
    (mi : (idd, oi) ∈ all) (hi : oi.IsDictOf (strKind prg w) kvi) (hio : (idd == sysModules) = false) (e1 : getOr ws (S "xlink:href") (S "#") = y1) (e2 : getOr ws (S "href") y1 = y2) (e3 : Txt.slice y2 (some 1) none = nm) (hz : y2.length ≤ sizeLine)
    (hv : valueAt kvi nm = none) {R : Res × Nat} (hR : R = (.sheet, made)) :
    Call w (6 * n + 63) 353 [.ref bk, .ref x, .ref nx] ((bk, o) :: all) (LPost w bk idd most o D all R) := by
  obtain ⟨ta, tb, hbk⟩ := id hU
  subst hR
  subst e3
  constructor
  intro dp un gd cn cs a ccd cl outer A₀ base h₀ L m sh sg sd st so mean mg mb Q E B F X N T hk hdp hun ret
  skip
  refine wpAny_call ?_
  k_dflt ktr_enter
  (repeat' (first | k_extra "sa" | k_extra "b125" | k_extra "b93" | k_extra "b0" | k_extra "b126" | k_extra "b14" | k_extra "b20" | k_extra "b127" | k_extra "b22" | k_extra "b2" | k_extra "b24" | k_extra "sz"))
  exact ret _ _ _ _ (by k_asm) (fun p hp => (by assumption : News h₀ L _ (_ :: _)) p (.tail _ hp)) ⟨_, [], rfl, hU, fresh_nil, ⟨_, rfl⟩⟩
theorem lgrp_lim {w : World} {ids : List (Str × T)} {most n : Nat} {name text : Str} {ws : Ws} {names : List Str} {made : Nat} {nx : Addr} {D all : Led} {bk idd x d l : Addr} {o od oi : Obj} {kvs kvi : List (Str × Value)} {tn tt : Tok} {y1 y2 nm : Str} {v : Value} {vs : Array Value} {nl : Nat} {b : Bool}
    (mx : (x, ({ cls := .type "tuple", data := .seq #[.str name tn, .ref d, .ref l, .str text tt] } : Obj)) ∈ all)
    (mo : (d, od) ∈ all) (hd : od.IsDictOf (strKind prg w) kvs) (hw : WsAre kvs ws) (hlo : (d == sysModules) = false) (hU : BookOk w o idd most made)
    (mi : (idd, oi) ∈ all) (hi : oi.IsDictOf (strKind prg w) kvi) (hio : (idd == sysModules) = false) (e1 : getOr ws (S "xlink:href") (S "#") = y1) (e2 : getOr ws (S "href") y1 = y2) (e3 : Txt.slice y2 (some 1) none = nm) (hz : y2.length ≤ sizeLine)
    (hv : valueAt kvi nm = some v) (mnx : (nx, listOf vs nl) ∈ all) (hS : StrsV vs.toList names) (hb : (names.any (· == nm)) = b) (hn : (vs.size : Int) = (names.length : Int)) (hnz : names.length ≤ 12) (hbl : b = false → 12 ≤ names.length)
    {R : Res × Nat} (hR : R = (.limit, made)) :
    Call w (6 * n + 63) 353 [.ref bk, .ref x, .ref nx] ((bk, o) :: all) (LPost w bk idd most o D all R) := by
  obtain ⟨ta, tb, hbk⟩ := id hU
  subst hR
  subst e3
  constructor
  intro dp un gd cn cs a ccd cl outer A₀ base h₀ L m sh sg sd st so mean mg mb Q E B F X N T hk hdp hun ret
  skip
  cases b with
  | true =>
    refine wpAny_call ?_
    k_dflt ktr_enter
    (repeat' (first | k_extra "sa" | k_extra "b125" | k_extra "b128" | k_extra "b93" | k_extra "b0" | k_extra "b126" | k_extra "b13" | k_extra "b14" | k_extra "b20" | k_extra "b127" | k_extra "b22" | k_extra "b2" | k_extra "b24" | k_extra "sz"))
    exact ret _ _ _ _ (by k_asm) (fun p hp => (by assumption : News h₀ L _ (_ :: _)) p (.tail _ hp)) ⟨_, [], rfl, hU, fresh_nil, ⟨_, rfl⟩⟩
  | false =>
    have hge := hbl rfl
    refine wpAny_call ?_
    k_dflt ktr_enter
    (repeat' (first | k_extra "sa" | k_extra "b125" | k_extra "b128" | k_extra "b93" | k_extra "b0" | k_extra "b129" | k_extra "b126" | k_extra "b13" | k_extra "b5" | k_extra "b14" | k_extra "b20" | k_extra "b127" | k_extra "b22" | k_extra "b2" | k_extra "b24" | k_extra "sz"))
    exact ret _ _ _ _ (by k_asm) (fun p hp => (by assumption : News h₀ L _ (_ :: _)) p (.tail _ hp)) ⟨_, [], rfl, hU, fresh_nil, ⟨_, rfl⟩⟩
end
end

theorem reset_lgo : True := by
  (w_top off)
  (k_with "b130" => first | ((with_reducible refine (?_ : wpAny _ _ (binaryOp Operator.Add (Value.ref _) (Value.ref _)) _ _ _)); first | (with_reducible (k_extra "lgo5")) | fail) | fail)
  (k_with "b131" => first | ((with_reducible refine (?_ : wpAny _ _ (compareOp CmpOp.In (Value.str _ _) (Value.ref _)) _ _ _)); first | (with_reducible (k_extra "lgo3")) | fail) | fail)
  (k_with "b132" => first | ((with_reducible refine (?_ : wpAny _ _ (call (Value.ref _) _) _ _ _)); first | (with_reducible (k_extra "lgo8")) | (with_reducible (k_extra "lgo6")) | fail) | fail)
  (k_with "b133" => first | ((with_reducible refine (?_ : wpAny _ _ (call (Value.builtin "len") _) _ _ _)); first | (with_reducible (k_extra "lgo4")) | fail) | fail)
  (k_with "b134" => first | ((with_reducible refine (?_ : wpAny _ _ (call (Value.builtin "dict.get") _) _ _ _)); first | (with_reducible (k_extra "lgo2")) | fail) | fail)
  (k_with "b135" => first | ((with_reducible refine (?_ : wpAny _ _ (subscriptTail _ _ _ _) _ _ _)); first | (with_reducible (k_extra "lgo1")) | (with_reducible (k_extra "lem:7")) | fail) | fail)
  (k_with "b136" => first | ((with_reducible refine (?_ : wpAny _ _ (compareOp CmpOp.In (Value.str _ _) (Value.str _ _)) _ _ _)); first | (with_reducible (k_extra "lgo10")) | fail) | fail)
  (k_with "b137" => first | ((with_reducible refine (?_ : wpAny _ _ (binaryOp Operator.Add (Value.str _ _) (Value.str _ _)) _ _ _)); first | (with_reducible (k_extra "lgo9")) | fail) | fail)
  (k_with "b138" => first | ((with_reducible refine (?_ : wpAny _ _ (call (Value.ref _) _) _ _ _)); first | (with_reducible (k_extra "lgo11")) | (with_reducible (k_extra "lgo6")) | fail) | fail)
  (k_with "b139" => first | ((with_reducible refine (?_ : wpAny _ _ (call (Value.builtin "isinstance") _) _ _ _)); first | (k_extra "lgo7") | fail) | fail)
  trivial
section
-- part lgo
section
variable {w : World} {A : Around} {E : Value → Shared → Prop} {s : Shared} {h₀ : Heap} {L : Addr} {m : Str → Option Value} {env : Env}
theorem fill_src {ct elt : Expr} {x : Str} {scope : Scope} {cl : List (Str × Addr)} {ws : Ws} {kvs : List (Str × Value)} {d : Addr} {od : Obj} {all : Led} {Q : Value → Shared → Prop}
    (hh : A.handled = none) (F : Fr h₀ L s.heap m) (N : News h₀ L s.heap all) (hm : (d, od) ∈ all) (hd : od.IsDictOf (strKind prg w) kvs) (hw : WsAre kvs ws) (lo : (d == sysModules) = false) (hz : ws.length ≤ 16)
    (turn : ∀ {k v : Str} {t : Tok} {ys : List Value} {tl : Led} {I : Addr} {oI : Obj} {C : Addr} {oC : Obj} {Dl : Addr} {m₂ : Str → Option Value} {h : Heap} {tk : Nat} {E' : Value → Shared → Prop} {QC : Value → Shared → Prop} {QN : Shared → Prop}, wsGet ws k = some v → LCg.NsObj oC m₂ → m₂ x = some (.str k t) → Fr h₀ L h m →
      News h₀ L h ((I, oI) :: (C, oC) :: (Dl, LCg.lst ys) :: (tl ++ all)) →
      (∀ y h' tk' tl', k = S "fill" → Fr h₀ L h' m → News h₀ L h' (tl' ++ ((I, oI) :: (C, oC) :: (Dl, LCg.lst ys) :: (tl ++ all))) → Fresh ((I, oI) :: (C, oC) :: (Dl, LCg.lst ys) :: (tl ++ all)) tl' → (∃ x n t t', y = .ref x ∧ (x, tupObj #[.str k t, .str v t'] n) ∈ tl') → QC y { s with heap := h', toks := tk' }) →
      (∀ h' tk' tl', k ≠ S "fill" → Fr h₀ L h' m → News h₀ L h' (tl' ++ ((I, oI) :: (C, oC) :: (Dl, LCg.lst ys) :: (tl ++ all))) → Fresh ((I, oI) :: (C, oC) :: (Dl, LCg.lst ys) :: (tl ++ all)) tl' → QN { s with heap := h', toks := tk' }) →
      wpAny (model prg w) A (isTrue ct (compEnvC scope cl C env) (eval ct (compEnvC scope cl C env))) (fun ok s' => if ok = true then wpAny (model prg w) A (eval elt (compEnvC scope cl C env)) QC E' s' else QN s') E' { s with heap := h, toks := tk })
    (fin : ∀ {ys : List Value} {tl : Led} {D : Addr} {h : Heap} {tk : Nat}, Fresh all tl → PairsIn tl ys (ws.filter isFill) → Fr h₀ L h m → News h₀ L h ((D, LCg.lst ys) :: (tl ++ all)) → (∀ p ∈ tl ++ all, @Ne Nat p.1 D) → Q (.ref D) { s with heap := h, toks := tk }) :
    SrcDT prg w (strKind prg w) A h₀ L m env ct elt x scope cl (fun s₂ => LCg.FinE h₀ L m s₂ Q) (.ref d) s := by
  have hlen := hw.len
  refine exI4 d od kvs all ⟨rfl, hh, F, N, hm, hd, lo, by rw [hlen]; exact Nat.le_trans hz (by decide), ?_⟩
  rintro s₂ ⟨g, rfl⟩
  refine compRestT_ind (fun i ys news => ∃ tl, news = tl ++ all ∧ Fresh all tl ∧ PairsIn tl ys ((ws.take i).filter isFill)) ?_ ?_ _ (Nat.zero_add _) ⟨[], rfl, fresh_nil, by rw [List.take_zero]; trivial⟩
  · rintro i v ys news I oI C oC D m₂ h tk E' hi ⟨tl, rfl, fr, ha⟩ ⟨key, val, hkv, hkey⟩ hC hx F' N' off ne
    obtain ⟨t, rfl⟩ := Value.isStrOf_shape hkey
    have hnd : (ws.map (·.1)).Nodup := hw.keys ▸ isDictOf_nodup hd
    have hi2 : i < ws.length := by rw [← hlen]; exact hi
    obtain ⟨wk, hwk, hke⟩ : ∃ p : Str × Str, ws[i]? = some p ∧ p.1 = key := by
      have h1 : (kvs.map (·.1))[i]? = some key := by rw [List.getElem?_map, hkv]; rfl
      rw [hw.keys, List.getElem?_map, List.getElem?_eq_getElem hi2] at h1
      exact ⟨ws[i], List.getElem?_eq_getElem hi2, by simpa using h1⟩
    have hget : wsGet ws key = some wk.2 := by
      unfold wsGet
      have hsp : ws = ws.take i ++ wk :: ws.drop (i + 1) := by
        obtain ⟨h1, h2⟩ := List.getElem?_eq_some_iff.mp hwk
        rw [← h2, ← List.drop_eq_getElem_cons h1, List.take_append_drop]
      have hno : ∀ p ∈ ws.take i, ¬ p.1 = key := fun p hp e => by
        have n2 := hnd
        rw [hsp, List.map_append, List.map_cons, List.nodup_append] at n2
        exact n2.2.2 _ (List.mem_map_of_mem hp) _ (.head _) (e.trans hke.symm)
      rw [hsp, List.find?_append, List.find?_eq_none.mpr fun p hp => by simpa using hno p hp, List.find?_cons]
      simp [hke]
    have htake : (ws.take (i + 1)).filter isFill = (ws.take i).filter isFill ++ [wk].filter isFill := by
      rw [List.take_add_one, hwk, List.filter_append]; rfl
    have sub : ∀ {tl' : Led}, (∀ q ∈ tl', @Ne Nat q.1 I ∧ @Ne Nat q.1 C ∧ @Ne Nat q.1 D) → LCg.Off3 I C D (tl' ++ (tl ++ all)) := fun hq => LCg.Off3.of fun p hp => (List.mem_append.mp hp).elim (hq p) (off.mem p)
    have three : ∀ {tl' : Led}, Fresh ((I, oI) :: (C, oC) :: (D, LCg.lst ys) :: (tl ++ all)) tl' → ∀ q ∈ tl', @Ne Nat q.1 I ∧ @Ne Nat q.1 C ∧ @Ne Nat q.1 D := fun f q hq => ⟨Ne.symm (f q hq _ (.head _)), Ne.symm (f q hq _ (.tail _ (.head _))), Ne.symm (f q hq _ (.tail _ (.tail _ (.head _))))⟩
    have perm : ∀ {tl' : Led} {h' : Heap}, News h₀ L h' (tl' ++ ((I, oI) :: (C, oC) :: (D, LCg.lst ys) :: (tl ++ all))) → News h₀ L h' ((I, oI) :: (C, oC) :: (D, LCg.lst ys) :: (tl' ++ (tl ++ all))) := fun N p hp => N p (by
      simp only [List.mem_cons, List.mem_append] at hp ⊢
      grind)
    refine turn (QN := LCg.CompEnd h₀ L m { s with heap := h, toks := tk } I oI C oC D (LCg.lst ys) (fun nw => (d, od) ∈ nw) (fun _ news' => ∃ tl, news' = tl ++ all ∧ Fresh all tl ∧ PairsIn tl ys ((ws.take (i + 1)).filter isFill)) Value.none) hget hC hx F' N' (fun y h' tk' tl' hf F2 N2 fr' hy => ?_) fun h' tk' tl' hf F2 N2 fr' => ?_
    · refine LCg.CompEnd.intro F2 N2 (tl' ++ (tl ++ all)) (fun p hp => ?_) (sub (three fr')) ?_ ⟨tl' ++ tl, by rw [List.append_assoc], ?_, ?_⟩
      · simp only [List.mem_cons, List.mem_append] at hp ⊢
        grind
      · exact List.mem_append_right _ (List.mem_append_right _ hm)
      · exact fresh_app (fr'.sub fun p hp => .tail _ (.tail _ (.tail _ (List.mem_append_right _ hp)))) fr
      · rw [htake, List.filter_cons_of_pos (by unfold isFill; rw [hke, hf]; simp), List.filter_nil]
        refine (ha.mono fun p hp => List.mem_append_right _ hp).snoc ?_
        refine exC4 hy ?_; (try clear hy); intro x n t1 t2 hR; refine anC2 hR ?_; clear hR; intro e1 e2
        exact exI4 x n t1 t2 ⟨e1, by rw [hke]; exact List.mem_append_left _ e2⟩
    · refine LCg.CompEnd.intro F2 N2 (tl' ++ (tl ++ all)) (fun p hp => ?_) (sub (three fr')) ?_ ⟨tl' ++ tl, by rw [List.append_assoc], ?_, ?_⟩
      · simp only [List.mem_cons, List.mem_append] at hp ⊢
        grind
      · exact List.mem_append_right _ (List.mem_append_right _ hm)
      · exact fresh_app (fr'.sub fun p hp => .tail _ (.tail _ (.tail _ (List.mem_append_right _ hp)))) fr
      · rw [htake, List.filter_cons_of_neg (by unfold isFill; rw [hke]; simpa using hf), List.filter_nil, List.append_nil]
        exact ha.mono fun p hp => List.mem_append_right _ hp
  · intro ys news hI9; refine exC1 hI9 ?_; (try clear hI9); intro tl hR; refine anC3 hR ?_; clear hR; intro hO1 fr ha; subst hO1
    intro D h tk F' N' o1
    have e : ws.take kvs.length = ws := by rw [hlen]; exact List.take_length
    rw [e] at ha
    have off : ∀ {l : Led}, LCg.Off1 D l → ∀ p ∈ l, @Ne Nat p.1 D := by
      intro l
      induction l with
      | nil => intro _ p h; cases h
      | cons a r ih =>
        intro x p h
        unfold LCg.Off1 at x
        rcases List.mem_cons.mp h with rfl | h
        · exact x.1
        · exact ih x.2 p h
    exact fin fr ha F' N' (off o1)
end
theorem l_off {all : Led} {bk b l' : Addr} {o ob ol : Obj} {tl : Led} (off : ∀ p ∈ all, @Ne Nat p.1 bk) (q1 : @Ne Nat b bk) (q2 : @Ne Nat l' bk) (ft : ∀ p ∈ tl, @Ne Nat p.1 bk) : ∀ p ∈ (l', ol) :: (b, ob) :: (tl ++ all), @Ne Nat p.1 bk := fun p hp => by
  rcases List.mem_cons.mp hp with rfl | hp
  · exact q2
  rcases List.mem_cons.mp hp with rfl | hp
  · exact q1
  rcases List.mem_append.mp hp with hp | hp
  · exact ft p hp
  · exact off p hp
theorem lg_bad {w : World} {bk idd : Addr} {most : Nat} {o o9 oc ob ol : Obj} {D all tl1 tl9 : Led} {x8 b L : Addr} {L1 : Nat} {g h : Heap} {mm : Nat} {v : Value} {res : Res}
    (N : News g L h ((bk, o9) :: (tl9 ++ (x8, ol) :: (b, ob) :: (tl1 ++ (L1 + 1, oc) :: all)))) (f9 : Fresh ((bk, o) :: (x8, ol) :: (b, ob) :: (tl1 ++ (L1 + 1, oc) :: all)) tl9) (f1 : Fresh ((L1 + 1, oc) :: (bk, o) :: all) tl1)
    (qx : AllLt x8 ((bk, o) :: all)) (qb : AllLt b ((bk, o) :: all)) (qc1 : AllLt L1 all) (qc2 : @LT.lt Nat _ bk L1) (hU : BookOk w o9 idd most mm) (ht : ∀ {D : Led}, ToldIs w D v res) :
    ∃ D', News g L h D' ∧ LPost w bk idd most o D all (res, mm) v D' := by
  refine ⟨(bk, o9) :: ((tl9 ++ (x8, ol) :: (b, ob) :: (tl1 ++ [(L1 + 1, oc)])) ++ all), ?_, o9, _, rfl, hU, ?_, ht⟩
  · intro p hp
    refine N p ?_
    simp only [List.mem_cons, List.mem_append, List.not_mem_nil] at hp ⊢
    grind
  · refine fresh_app (fun p hp q hq => ?_) (fresh_cons qx (fresh_cons qb (fresh_app (f1.sub sub_cons) (fresh_cons ⟨Nat.lt_succ_of_lt qc2, allLt_up qc1 (Nat.lt_succ_self _)⟩ fresh_nil))))
    rcases List.mem_cons.mp hq with rfl | hq
    · exact f9 p hp (bk, o) (.head _)
    · exact f9 p hp q (.tail _ (.tail _ (.tail _ (List.mem_append_right _ (.tail _ hq)))))
theorem lput_call {w : World} {ids : List (Str × T)} {most n : Nat} (ih : LPutC w ids most n) {t : T} {names : List Str} {nm : Str} {made : Nat} {D all tl1 : Led} {bk idd x8 b : Addr} {o ob : Obj} {v1 : Value} {vs8 : Array Value}
    (hU : BookOk w o idd most made) (sub : ∀ p ∈ D, p ∈ all) (hids : IdsIn w (TreeIn w) D idd ids) (el : TreeIn w (tl1 ++ D) v1 t) (rk : rank t (names ++ [nm]) ≤ n) (ok : OkT t) (hz : names.length < 12)
    (hS : StrsV vs8.toList (names ++ [nm])) (off : ∀ p ∈ (x8, listOf vs8 0) :: (b, ob) :: (tl1 ++ all), @Ne Nat p.1 bk) :
    Call w (6 * n + 60) 348 [.ref bk, v1, .ref x8] ((bk, o) :: (x8, listOf vs8 0) :: (b, ob) :: (tl1 ++ all)) (LPost w bk idd most o ((x8, listOf vs8 0) :: (tl1 ++ D)) ((x8, listOf vs8 0) :: (b, ob) :: (tl1 ++ all)) (putF ids most n t (names ++ [nm]) made)) :=
  ih hU (fun p hp => by
      rcases List.mem_cons.mp hp with rfl | hp
      · exact .head _
      rcases List.mem_append.mp hp with hp | hp
      · exact .tail _ (.tail _ (List.mem_append_left _ hp))
      · exact .tail _ (.tail _ (List.mem_append_right _ (sub p hp))))
    (el.mono fun p hp => .tail _ hp) ⟨by rw [List.length_append, List.length_singleton]; exact hz, vs8, 0, .head _, hS⟩ (idsT_mono hids fun p hp => .tail _ (List.mem_append_right _ hp)) off rk ok
theorem all_cons {b : Addr} {p : Addr × Obj} {l : Led} (h1 : @Ne Nat p.1 b) (h2 : ∀ q ∈ l, @Ne Nat q.1 b) : ∀ q ∈ p :: l, @Ne Nat q.1 b := List.forall_mem_cons.mpr ⟨h1, h2⟩
theorem all_app {b : Addr} {k l : Led} (h1 : ∀ q ∈ k, @Ne Nat q.1 b) (h2 : ∀ q ∈ l, @Ne Nat q.1 b) : ∀ q ∈ k ++ l, @Ne Nat q.1 b := List.forall_mem_append.mpr ⟨h1, h2⟩
section
theorem kw_lgow114 : True := by
  (k_with "lgo;114" => first | (refine' code_defC ?k1_lgow114 ?k2_lgow114 ?k3_lgow114 ?k4_lgow114 ?k5_lgow114 ?kA_lgow114 ?kF_lgow114 ?kK_lgow114 ?k6_lgow114 ?k7_lgow114 ?k8_lgow114 ?k9_lgow114 ?kB_lgow114 ?kD_lgow114 ?_ ?c2_lgow114 ?c3_lgow114 ?c4_lgow114; (case kA_lgow114 => exact rfl); (case kF_lgow114 => exact rfl); (case kK_lgow114 => assumption); (case k1_lgow114 => k_asm); (case k2_lgow114 => k_asm); (case k3_lgow114 => k_asm); (case k4_lgow114 => k_asm); (case k5_lgow114 => k_asm); (case k6_lgow114 => k_is); (case k7_lgow114 => k_is); (case k8_lgow114 => ktr_room); (case k9_lgow114 => first | exact BindsTo.of_eq rfl | exact binds_K (by k_in) rfl (by k_is) rfl rfl rfl); (case kB_lgow114 => exact rfl); (case kD_lgow114 => decide +kernel); (case c2_lgow114 => exact rfl); (case c3_lgow114 => exact rfl); (case c4_lgow114 => exact rfl); k_whole; intro g' L' h' tk' cells' FG' F' N' Y' B' X' T' l1; (try k_lt l1); k_cells Y'; (try simp only [List.cons_append, List.nil_append] at N'); (try dsimp only); (try k_fold)) | fail)
  trivial
local macro_rules | `(tactic| ktr_enter) => `(tactic| k_extra "lgo;114")
theorem kw_lgo1 : True := by
  (k_with "lgo1" => first | (k_here; (with_reducible refine (?_ : wpAny _ _ (subscriptTail _ _ (Value.ref _) (Value.str (Str.ofString "ids") _)) _ _ _)); k_dflt (refine' kda_item (knd := PySem.strKind _ _) ?k1_lgo1 ?k2_lgo1 ?k3_lgo1 (strKind_is _ _ _ _) (bk_ids _ _ _ _ _) ?_; (case k1_lgo1 => k_asm); (case k3_lgo1 => assumption); (case k2_lgo1 => k_mem))) | fail)
  (k_with "lgo2" => first | (k_here; k_dflt ((refine' dw_get2 ?k1_lgo2 ?k2_lgo2 ?k3_lgo2 ?kw_lgo2 ?k4_lgo2 ?k5_lgo2 ?_; (case k1_lgo2 => k_asm); (case k2_lgo2 => k_mem); (case k3_lgo2 => k_asm); (case kw_lgo2 => assumption); (case k4_lgo2 => k_asm); (case k5_lgo2 => assumption)); intro t9')) | fail)
  (k_with "lgo3" => first | (k_here; (rename StrsV _ _ => lS); k_dflt (refine' lst_in ?N_lgo3 ?hx_lgo3 lS ?hb_lgo3 ?_; (case N_lgo3 => k_asm); (case hx_lgo3 => k_mem); (case hb_lgo3 => assumption))) | fail)
  (k_with "lgo4" => first | (k_here; (with_reducible refine (?_ : wpAny _ _ (call (Value.builtin "len") [Value.ref _]) _ _ _)); k_dflt (refine' len_list ?k1_lgo4 ?z_lgo4 ?_; (case k1_lgo4 => exact News.isList (by k_asm) (by k_mem)); (case z_lgo4 => omega); k_whole)) | fail)
  (k_with "lgo5" => first | (k_here; (rename StrsV _ _ => lS); k_dflt (refine' lnames_add ?F_lgo5 ?N_lgo5 ?hx_lgo5 lS ?hb_lgo5 ?hz_lgo5 ?_; (case F_lgo5 => k_asm); (case N_lgo5 => k_asm); (case hx_lgo5 => k_mem); (case hb_lgo5 => k_mem); (case hz_lgo5 => omega); k_whole); intro x8 h8 vs8 F8 N8 l1 S8; (try k_lt l1); (try k_sweep); (try dsimp only)) | fail)
  (k_with "lgo6" => first | (k_here; (with_reducible refine (?_ : wpAny _ _ (call (Value.ref 341) _) _ _ _)); (try ((fail_if_success (fail_if_success k_fold)); (refine fold1 ?_); intro qk)); k_dflt (refine' Call.use (c_lfr (D := ?D_lgo6) ?sub_lgo6 ?hx_lgo6 ?h2_lgo6 ?ok_lgo6) ?k1_lgo6 ?k2_lgo6 ?k3_lgo6 ?k4_lgo6 ?k5_lgo6 ?k6_lgo6 ?kd_lgo6 ?ku_lgo6 (fun _ h => h) ?_; (case k1_lgo6 => k_asm); (case k2_lgo6 => k_asm); (case k3_lgo6 => k_asm); (case k4_lgo6 => k_asm); (case k5_lgo6 => k_asm); (case k6_lgo6 => first | exact rfl | assumption); (case kd_lgo6 => ktr_room); (case ku_lgo6 => ktr_units); (case hx_lgo6 => assumption); (case h2_lgo6 => assumption); (case sub_lgo6 => ((repeat' (first | exact (fun _ h => h) | assumption | refine sub_consI ?_ | refine sub_appI ?_)))); (case ok_lgo6 => assumption); k_whole); (k_dflt (refine' ret_tl ?_)); intro v9 tl9 h9 tk9 F9 N9 g09 g19; (try k_sweep); (try dsimp only); (try k_fold)) | fail)
  (k_with "lgo7" => first | (k_here; (with_reducible refine (?_ : wpAny _ _ (call _ [Value.ref _, Value.type "str"]) _ _ _)); (refine' isi_ts ?k1_lgo7 ?k2_lgo7 (by assumption) ?_; (case k1_lgo7 => k_asm); (case k2_lgo7 => k_mem))) | fail)
  (k_with "lgo8" => first | (k_here; (with_reducible refine (?_ : wpAny _ _ (call (Value.ref 348) _) _ _ _)); (rename LPutC _ _ _ _ => lIH); first | (((((try ((fail_if_success (fail_if_success k_fold)); (refine fold1 ?_); intro qk)); k_dflt (refine' Call.use (l_limit (lput_call lIH ?hU_lgo8 ?sub_lgo8 ?hids_lgo8 ?el_lgo8 ?rk_lgo8 ?ok_lgo8 ?hz_lgo8 ?hS_lgo8 ?off_lgo8) ?hres_lgo8) ?k1_lgo8 ?k2_lgo8 ?k3_lgo8 ?k4_lgo8 ?k5_lgo8 ?k6_lgo8 ?kd_lgo8 ?ku_lgo8 (Cut.all ?kC_lgo8) ?_; (case k1_lgo8 => k_asm); (case k2_lgo8 => k_asm); (case k3_lgo8 => k_asm); (case k4_lgo8 => k_asm); (case k5_lgo8 => k_asm); (case k6_lgo8 => first | exact rfl | assumption); (case kd_lgo8 => ktr_room); (case ku_lgo8 => ktr_units); (case kC_lgo8 => (repeat' (first | exact Cut.here | refine' Cut.there ?_ | refine' Cut.app ?_))); (case hU_lgo8 => assumption); (case hids_lgo8 => assumption); (case el_lgo8 => assumption); (case sub_lgo8 => ((repeat' (first | exact (fun _ h => h) | assumption | refine sub_consI ?_ | refine sub_appI ?_)))); (case rk_lgo8 => assumption); (case ok_lgo8 => assumption); (case hz_lgo8 => assumption); (case hS_lgo8 => assumption); (case off_lgo8 => ((repeat' (first | assumption | refine all_cons ?_ ?_ | refine all_app ?_ ?_ | (exact Nat.ne_of_gt (by assumption)) | (refine Nat.ne_of_gt ?_; dsimp only; omega) | (refine' fresh_ne ?f_lgo8 ?m_lgo8; (case f_lgo8 => assumption); (case m_lgo8 => k_mem)))))); (case hres_lgo8 => assumption); k_whole)))); (k_dflt (refine' ret_lstr ?_)); intro t9 o9 tl9 h9 tk9 F9 N9 g09 g19; (try k_sweep); (try dsimp only); (try k_fold)) | (((((try ((fail_if_success (fail_if_success k_fold)); (refine fold1 ?_); intro qk)); k_dflt (refine' Call.use (l_sheet (lput_call lIH ?hU_lgo8 ?sub_lgo8 ?hids_lgo8 ?el_lgo8 ?rk_lgo8 ?ok_lgo8 ?hz_lgo8 ?hS_lgo8 ?off_lgo8) ?hres_lgo8) ?k1_lgo8 ?k2_lgo8 ?k3_lgo8 ?k4_lgo8 ?k5_lgo8 ?k6_lgo8 ?kd_lgo8 ?ku_lgo8 (Cut.all ?kC_lgo8) ?_; (case k1_lgo8 => k_asm); (case k2_lgo8 => k_asm); (case k3_lgo8 => k_asm); (case k4_lgo8 => k_asm); (case k5_lgo8 => k_asm); (case k6_lgo8 => first | exact rfl | assumption); (case kd_lgo8 => ktr_room); (case ku_lgo8 => ktr_units); (case kC_lgo8 => (repeat' (first | exact Cut.here | refine' Cut.there ?_ | refine' Cut.app ?_))); (case hU_lgo8 => assumption); (case hids_lgo8 => assumption); (case el_lgo8 => assumption); (case sub_lgo8 => ((repeat' (first | exact (fun _ h => h) | assumption | refine sub_consI ?_ | refine sub_appI ?_)))); (case rk_lgo8 => assumption); (case ok_lgo8 => assumption); (case hz_lgo8 => assumption); (case hS_lgo8 => assumption); (case off_lgo8 => ((repeat' (first | assumption | refine all_cons ?_ ?_ | refine all_app ?_ ?_ | (exact Nat.ne_of_gt (by assumption)) | (refine Nat.ne_of_gt ?_; dsimp only; omega) | (refine' fresh_ne ?f_lgo8 ?m_lgo8; (case f_lgo8 => assumption); (case m_lgo8 => k_mem)))))); (case hres_lgo8 => assumption); k_whole)))); (k_dflt (refine' ret_lstr ?_)); intro t9 o9 tl9 h9 tk9 F9 N9 g09 g19; (try k_sweep); (try dsimp only); (try k_fold))) | fail)
  trivial
theorem lgrp_limit {ws : Ws} {w : World} {ids : List (Str × T)} {most n : Nat} (ih : LPutC w ids most n) {name text : Str} {kids : List T} {names : List Str} {made : Nat} {nx : Addr} {D all : Led} {bk idd x d l : Addr} {o od oi : Obj} {kvs kvi : List (Str × Value)} {tn tt : Tok} {y1 y2 nm : Str} {v : Value} {tgt : T} {vs : Array Value} {nl : Nat}
    (sub : ∀ p ∈ D, p ∈ all) (off : ∀ p ∈ all, @Ne Nat p.1 bk) (hx : TreeIn w D (.ref x) (.mk name ws kids text)) (hvt : TreeIn w D v tgt) (hok : OkT tgt) (hok2 : OkT (framedT ws tgt)) (hwz : ws.length ≤ 16)
    (mx : (x, ({ cls := .type "tuple", data := .seq #[.str name tn, .ref d, .ref l, .str text tt] } : Obj)) ∈ all)
    (mo : (d, od) ∈ all) (hd : od.IsDictOf (strKind prg w) kvs) (hw : WsAre kvs ws) (hlo : (d == sysModules) = false) (hU : BookOk w o idd most made)
    (mi : (idd, oi) ∈ all) (hi : oi.IsDictOf (strKind prg w) kvi) (hio : (idd == sysModules) = false) (hids : IdsIn w (TreeIn w) D idd ids) (e1 : getOr ws (S "xlink:href") (S "#") = y1) (e2 : getOr ws (S "href") y1 = y2) (e3 : Txt.slice y2 (some 1) none = nm) (hz : y2.length ≤ sizeLine)
    (hv : valueAt kvi nm = some v) (mnx : (nx, listOf vs nl) ∈ all) (hS : StrsV vs.toList names) (hb : (names.any (· == nm)) = false) (hn : (vs.size : Int) = (names.length : Int)) (hnz : names.length < 12) (hrk : rank (framedT ws tgt) (names ++ [nm]) ≤ n)
    {mm : Nat} (hres : putF ids most n (framedT ws tgt) (names ++ [nm]) made = (.limit, mm)) {R : Res × Nat} (hR : R = (.limit, mm)) :
    Call w (6 * n + 63) 353 [.ref bk, .ref x, .ref nx] ((bk, o) :: all) (LPost w bk idd most o D all R) := by
  obtain ⟨ta, tb, hbk⟩ := id hU
  subst hR
  subst e3
  constructor
  intro dp un gd cn cs a ccd cl outer A₀ base h₀ L m sh sg sd st so mean mg mb Q E B F X N T hk hdp hun ret
  skip
  refine wpAny_call ?_
  k_dflt ktr_enter
  (repeat' (first | k_extra "sa" | k_extra "b125" | k_extra "b130" | k_extra "b131" | k_extra "b93" | k_extra "b0" | k_extra "b132" | k_extra "b133" | k_extra "b134" | k_extra "b13" | k_extra "b5" | k_extra "b14" | k_extra "b114" | k_extra "b20" | k_extra "b135" | k_extra "b22" | k_extra "b23" | k_extra "b2" | k_extra "b24" | k_extra "sz"))
  obtain ⟨D', hN, hP⟩ := lg_bad (D := D) (res := .limit) (by assumption) (by assumption) (by assumption) (by ktr_rel) (by ktr_rel) (by assumption) (by assumption) (by assumption) ⟨_, rfl⟩
  exact ret _ _ _ D' (by k_asm) hN hP
theorem lgrp_sheet {ws : Ws} {w : World} {ids : List (Str × T)} {most n : Nat} (ih : LPutC w ids most n) {name text : Str} {kids : List T} {names : List Str} {made : Nat} {nx : Addr} {D all : Led} {bk idd x d l : Addr} {o od oi : Obj} {kvs kvi : List (Str × Value)} {tn tt : Tok} {y1 y2 nm : Str} {v : Value} {tgt : T} {vs : Array Value} {nl : Nat}
    (sub : ∀ p ∈ D, p ∈ all) (off : ∀ p ∈ all, @Ne Nat p.1 bk) (hx : TreeIn w D (.ref x) (.mk name ws kids text)) (hvt : TreeIn w D v tgt) (hok : OkT tgt) (hok2 : OkT (framedT ws tgt)) (hwz : ws.length ≤ 16)
    (mx : (x, ({ cls := .type "tuple", data := .seq #[.str name tn, .ref d, .ref l, .str text tt] } : Obj)) ∈ all)
    (mo : (d, od) ∈ all) (hd : od.IsDictOf (strKind prg w) kvs) (hw : WsAre kvs ws) (hlo : (d == sysModules) = false) (hU : BookOk w o idd most made)
    (mi : (idd, oi) ∈ all) (hi : oi.IsDictOf (strKind prg w) kvi) (hio : (idd == sysModules) = false) (hids : IdsIn w (TreeIn w) D idd ids) (e1 : getOr ws (S "xlink:href") (S "#") = y1) (e2 : getOr ws (S "href") y1 = y2) (e3 : Txt.slice y2 (some 1) none = nm) (hz : y2.length ≤ sizeLine)
    (hv : valueAt kvi nm = some v) (mnx : (nx, listOf vs nl) ∈ all) (hS : StrsV vs.toList names) (hb : (names.any (· == nm)) = false) (hn : (vs.size : Int) = (names.length : Int)) (hnz : names.length < 12) (hrk : rank (framedT ws tgt) (names ++ [nm]) ≤ n)
    {mm : Nat} (hres : putF ids most n (framedT ws tgt) (names ++ [nm]) made = (.sheet, mm)) {R : Res × Nat} (hR : R = (.sheet, mm)) :
    Call w (6 * n + 63) 353 [.ref bk, .ref x, .ref nx] ((bk, o) :: all) (LPost w bk idd most o D all R) := by
  obtain ⟨ta, tb, hbk⟩ := id hU
  subst hR
  subst e3
  constructor
  intro dp un gd cn cs a ccd cl outer A₀ base h₀ L m sh sg sd st so mean mg mb Q E B F X N T hk hdp hun ret
  skip
  refine wpAny_call ?_
  k_dflt ktr_enter
  (repeat' (first | k_extra "sa" | k_extra "b125" | k_extra "b130" | k_extra "b131" | k_extra "b93" | k_extra "b0" | k_extra "b132" | k_extra "b133" | k_extra "b134" | k_extra "b13" | k_extra "b5" | k_extra "b14" | k_extra "b114" | k_extra "b20" | k_extra "b135" | k_extra "b22" | k_extra "b23" | k_extra "b2" | k_extra "b24" | k_extra "sz"))
  obtain ⟨D', hN, hP⟩ := lg_bad (D := D) (res := .sheet) (by assumption) (by assumption) (by assumption) (by ktr_rel) (by ktr_rel) (by assumption) (by assumption) (by assumption) ⟨_, rfl⟩
  exact ret _ _ _ D' (by k_asm) hN hP
theorem sub_rest {D all tl1 : Led} {x8 b c : Addr} {ol ob oc : Obj} (h : ∀ p ∈ D, p ∈ (c, oc) :: all) : ∀ p ∈ (x8, ol) :: (tl1 ++ D), p ∈ (x8, ol) :: (b, ob) :: (tl1 ++ (c, oc) :: all) := fun p hp => by
  rcases List.mem_cons.mp hp with rfl | hp
  · exact .head _
  rcases List.mem_append.mp hp with hp | hp
  · exact .tail _ (.tail _ (List.mem_append_left _ hp))
  · exact .tail _ (.tail _ (List.mem_append_right _ (h p hp)))
theorem kw_lgo9 : True := by
  (k_with "lgo9" => first | (k_here; (refine' KXadd.add (K := 200) (L := 200) ?kxaa_lgo9 ?kxab_lgo9 ?kxac_lgo9 ?_; (case kxaa_lgo9 => (first | (refine' len_le ?lh_lgo9 ?lb_lgo9; (case lh_lgo9 => k_extra "ll"); (case lb_lgo9 => first | rfl | decide +kernel)) | ((try simp only [PySem.Str.length_append]); omega))); (case kxab_lgo9 => (first | (refine' len_le ?lh_lgo9 ?lb_lgo9; (case lh_lgo9 => k_extra "ll"); (case lb_lgo9 => first | rfl | decide +kernel)) | ((try simp only [PySem.Str.length_append]); omega))); (case kxac_lgo9 => exact Nat.le_of_ble_eq_true rfl)); intro _ _ _; (try dsimp only)) | fail)
  (k_with "lgo10" => first | (k_here; (refine' in_strB ?hb_lgo10 ?_; (case hb_lgo10 => assumption))) | fail)
  (k_with "lgo11" => first | (k_here; (with_reducible refine (?_ : wpAny _ _ (call (Value.ref 348) _) _ _ _)); (rename LPutC _ _ _ _ => lIH); (((((try ((fail_if_success (fail_if_success k_fold)); (refine fold1 ?_); intro qk)); k_dflt (refine' Call.use (l_ok (lput_call lIH ?hU_lgo11 ?sub_lgo11 ?hids_lgo11 ?el_lgo11 ?rk_lgo11 ?ok_lgo11 ?hz_lgo11 ?hS_lgo11 ?off_lgo11) ?hres_lgo11 (sub_rest ?sub2_lgo11)) ?k1_lgo11 ?k2_lgo11 ?k3_lgo11 ?k4_lgo11 ?k5_lgo11 ?k6_lgo11 ?kd_lgo11 ?ku_lgo11 (Cut.all ?kC_lgo11) ?_; (case k1_lgo11 => k_asm); (case k2_lgo11 => k_asm); (case k3_lgo11 => k_asm); (case k4_lgo11 => k_asm); (case k5_lgo11 => k_asm); (case k6_lgo11 => first | exact rfl | assumption); (case kd_lgo11 => ktr_room); (case ku_lgo11 => ktr_units); (case kC_lgo11 => (repeat' (first | exact Cut.here | refine' Cut.there ?_ | refine' Cut.app ?_))); (case hU_lgo11 => assumption); (case hids_lgo11 => assumption); (case el_lgo11 => assumption); (case sub_lgo11 => ((repeat' (first | exact (fun _ h => h) | assumption | refine sub_consI ?_ | refine sub_appI ?_)))); (case rk_lgo11 => assumption); (case ok_lgo11 => assumption); (case hz_lgo11 => assumption); (case hS_lgo11 => assumption); (case off_lgo11 => ((repeat' (first | assumption | refine all_cons ?_ ?_ | refine all_app ?_ ?_ | (exact Nat.ne_of_gt (by assumption)) | (refine Nat.ne_of_gt ?_; dsimp only; omega) | (refine' fresh_ne ?f_lgo11 ?m_lgo11; (case f_lgo11 => assumption); (case m_lgo11 => k_mem)))))); (case hres_lgo11 => assumption); k_whole)))); (case sub2_lgo11 => ((repeat' (first | exact (fun _ h => h) | assumption | refine sub_consI ?_ | refine sub_appI ?_))))); (k_dflt (refine' ret_lok ?_)); intro x9 tup9 o9 tl9 h9 tk9 F9 N9 g09 g19 g29 g39 g49; (try k_sweep); (try dsimp only); (try k_fold)) | fail)
  trivial
theorem lgrp_ok50 {ws : Ws} {qx qy : Str} (hx0 : getOr ws (S "x") (S "") = qx) (hy0 : getOr ws (S "y") (S "") = qy) (lx : qx.length ≤ 4) (ly : qy.length ≤ 4) (hoc : (!(Builtin.Str.occurrences (qx ++ qy) (S "%") 0 (qx ++ qy).length 1).isEmpty) = true) {t' : T} {w : World} {ids : List (Str × T)} {most n : Nat} (ih : LPutC w ids most n) {name text : Str} {kids : List T} {names : List Str} {made : Nat} {nx : Addr} {D all : Led} {bk idd x d l : Addr} {o od oi : Obj} {kvs kvi : List (Str × Value)} {tn tt : Tok} {y1 y2 nm : Str} {v : Value} {tgt : T} {vs : Array Value} {nl : Nat}
    (sub : ∀ p ∈ D, p ∈ all) (off : ∀ p ∈ all, @Ne Nat p.1 bk) (hx : TreeIn w D (.ref x) (.mk name ws kids text)) (hvt : TreeIn w D v tgt) (hok : OkT tgt) (hok2 : OkT (framedT ws tgt)) (hwz : ws.length ≤ 16)
    (mx : (x, ({ cls := .type "tuple", data := .seq #[.str name tn, .ref d, .ref l, .str text tt] } : Obj)) ∈ all)
    (mo : (d, od) ∈ all) (hd : od.IsDictOf (strKind prg w) kvs) (hw : WsAre kvs ws) (hlo : (d == sysModules) = false) (hU : BookOk w o idd most made)
    (mi : (idd, oi) ∈ all) (hi : oi.IsDictOf (strKind prg w) kvi) (hio : (idd == sysModules) = false) (hids : IdsIn w (TreeIn w) D idd ids) (e1 : getOr ws (S "xlink:href") (S "#") = y1) (e2 : getOr ws (S "href") y1 = y2) (e3 : Txt.slice y2 (some 1) none = nm) (hz : y2.length ≤ sizeLine)
    (hv : valueAt kvi nm = some v) (mnx : (nx, listOf vs nl) ∈ all) (hS : StrsV vs.toList names) (hb : (names.any (· == nm)) = false) (hn : (vs.size : Int) = (names.length : Int)) (hnz : names.length < 12) (hrk : rank (framedT ws tgt) (names ++ [nm]) ≤ n)
    {mm : Nat} (hres : putF ids most n (framedT ws tgt) (names ++ [nm]) made = (.ok t', mm)) {R : Res × Nat} (hR : R = (.sheet, mm)) :
    Call w (6 * n + 63) 353 [.ref bk, .ref x, .ref nx] ((bk, o) :: all) (LPost w bk idd most o D all R) := by
  obtain ⟨ta, tb, hbk⟩ := id hU
  subst hR
  subst e3
  constructor
  intro dp un gd cn cs a ccd cl outer A₀ base h₀ L m sh sg sd st so mean mg mb Q E B F X N T hk hdp hun ret
  skip
  refine wpAny_call ?_
  k_dflt ktr_enter
  (repeat' (first | k_extra "sa" | k_extra "b125" | k_extra "b136" | k_extra "b137" | k_extra "b130" | k_extra "b131" | k_extra "b93" | k_extra "b0" | k_extra "b138" | k_extra "b133" | k_extra "b134" | k_extra "b13" | k_extra "b5" | k_extra "b14" | k_extra "b114" | k_extra "b20" | k_extra "b135" | k_extra "b22" | k_extra "b23" | k_extra "b2" | k_extra "b24" | k_extra "b139" | k_extra "sz"))
  obtain ⟨D', hN, hP⟩ := lg_bad (D := D) (res := .sheet) (by assumption) (by assumption) (by assumption) (by ktr_rel) (by ktr_rel) (by assumption) (by assumption) (by assumption) ⟨_, rfl⟩
  exact ret _ _ _ D' (by k_asm) hN hP
end
end

theorem reset_lgok : True := by
  (w_top off)
  (k_with "b140" => first | ((with_reducible refine (?_ : wpAny _ _ (compareOp CmpOp.In (Value.str _ _) (Value.str _ _)) _ _ _)); first | (with_reducible (k_extra "lgok9")) | fail) | fail)
  (k_with "b141" => first | ((with_reducible refine (?_ : wpAny _ _ (binaryOp Operator.Add (Value.str _ _) (Value.str _ _)) _ _ _)); first | (with_reducible (k_extra "lgok8")) | fail) | fail)
  (k_with "b142" => first | ((with_reducible refine (?_ : wpAny _ _ (binaryOp Operator.Add (Value.ref _) (Value.ref _)) _ _ _)); first | (with_reducible (k_extra "lgok5")) | fail) | fail)
  (k_with "b143" => first | ((with_reducible refine (?_ : wpAny _ _ (compareOp CmpOp.In (Value.str _ _) (Value.ref _)) _ _ _)); first | (with_reducible (k_extra "lgok3")) | fail) | fail)
  (k_with "b144" => first | ((with_reducible refine (?_ : wpAny _ _ (eval (Expr.ListComp _ _ _ _) _) _ _ _)); first | (with_reducible (k_extra "lgok11")) | fail) | fail)
  (k_with "b145" => first | ((with_reducible refine (?_ : wpAny _ _ (call (Value.ref _) _) _ _ _)); first | (with_reducible (k_extra "lgok10")) | (with_reducible (k_extra "lgok6")) | fail) | fail)
  (k_with "b146" => first | ((with_reducible refine (?_ : wpAny _ _ (call (Value.builtin "len") _) _ _ _)); first | (with_reducible (k_extra "lgok4")) | fail) | fail)
  (k_with "b147" => first | ((with_reducible refine (?_ : wpAny _ _ (call (Value.builtin "dict.get") _) _ _ _)); first | (with_reducible (k_extra "lgok2")) | fail) | fail)
  (k_with "b148" => first | ((with_reducible refine (?_ : wpAny _ _ (subscriptTail _ _ _ _) _ _ _)); first | (with_reducible (k_extra "lgok1")) | (with_reducible (k_extra "lem:7")) | fail) | fail)
  (k_with "b149" => first | ((fail_if_success (with_reducible refine (?_ : wpAny _ _ _ _ _ _))); first | ((with_reducible (show SrcDT ..)); first | (with_reducible (k_extra "lgok12")) | fail) | ((with_reducible refine (?_ : (@ite _ _ (_) _ _))); first | (with_reducible (k_extra "call:3")) | fail) | fail) | fail)
  (k_with "b150" => first | ((with_reducible refine (?_ : wpAny _ _ (call (Value.builtin "isinstance") _) _ _ _)); first | (k_extra "lgok7") | fail) | fail)
  (k_with "b151" => first | ((with_reducible refine (?_ : wpAny _ _ (call (Value.type "dict") _) _ _ _)); first | (with_reducible (k_extra "lgok13")) | fail) | fail)
  trivial
section
-- part lgok
theorem ListComp_DF {prog : Program} {w : World} {A : Around} {E : Value → Shared → Prop} {s : Shared} {h₀ : Heap} {L : Addr} {m : Str → Option Value} {env : Env} {K : Type} [DecidableEq K] {knd : KeyKind prog w K} {ct elt iter : Expr} {x : Str} {px : Pos} {scope : Scope} {cl : List (Str × Addr)} {pos : Pos} {Q : Value → Shared → Prop}
    (_F₀ : Fr h₀ L s.heap m) (hclos : closureFor scope env = pure cl) (hcell : ∀ y ∈ scope.names, y.2 ≠ .cell) (hkind : scope.kind = .function)
    (hnames : ∀ y ∈ scope.names, y.2 = .local → scope.names.lookup y.1 = some .local) (hx : scope.names.lookup x = some .local)
    (h : wpAny (model prog w) A (eval iter env) (SrcDT prog w knd A h₀ L m env ct elt x scope cl (fun s₂ => LCg.FinE h₀ L m s₂ Q)) E s)
    (hs : ∀ x, foldedSetIterable iter env x = pure x := by intro _; rfl) :
    wpAny (model prog w) A (eval (.ListComp elt [⟨.Name x px, iter, [ct], 0⟩] scope pos) env) Q E s := ListComp_DT hclos hcell hkind hnames hx h hs
theorem put_fill {ws : Ws} {z : Str} (hz : turnS ws = z) : wsPut (ws.filter isFill) (S "transform") z = groupWs ws := by
  unfold wsPut groupWs
  rw [if_neg, hz]
  · rfl
  · intro hh
    obtain ⟨p, hp, e⟩ := List.any_eq_true.mp hh
    have e1 : p.1 = S "transform" := by simpa using e
    have e2 : p.1 = S "fill" := by have := (List.mem_filter.mp hp).2; unfold isFill at this; simpa using this
    rw [e1] at e2
    exact absurd e2 (by decide)
theorem lg_ok {w : World} {bk idd : Addr} {most : Nat} {o o9 oc ob ol od ol2 : Obj} {D all tl tl1 tl9 : Led} {x0 l9 d9 Dl x8 x9 b L : Addr} {L1 k : Nat} {g h : Heap} {mm : Nat} {t' : T} {ta tb : Tok} {kvs : List (Str × Value)} {ws : Ws} {z : Str}
    (N : News g L h ((x0, ({ cls := .type "tuple", data := .seq #[.str (S "g") ta, .ref d9, .ref l9, .str (S "") tb] } : Obj)) :: (l9, listOf #[Value.ref x9] k) :: (d9, od) :: (Dl, ol2) :: (tl ++ (bk, o9) :: (tl9 ++ (x8, ol) :: (b, ob) :: (tl1 ++ (L1 + 1, oc) :: all)))))
    (fr : Fresh ((bk, o9) :: (tl9 ++ (x8, ol) :: (b, ob) :: (tl1 ++ (L1 + 1, oc) :: all))) tl) (f9 : Fresh ((bk, o) :: (x8, ol) :: (b, ob) :: (tl1 ++ (L1 + 1, oc) :: all)) tl9) (f1 : Fresh ((L1 + 1, oc) :: (bk, o) :: all) tl1)
    (offD : ∀ p ∈ tl ++ (bk, o9) :: (tl9 ++ (x8, ol) :: (b, ob) :: (tl1 ++ (L1 + 1, oc) :: all)), @Ne Nat p.1 Dl)
    (q0 : AllLt x0 ((bk, o) :: all)) (ql : AllLt l9 ((bk, o) :: all)) (qd : AllLt d9 ((bk, o) :: all)) (qx : AllLt x8 ((bk, o) :: all)) (qb : AllLt b ((bk, o) :: all)) (qc1 : AllLt L1 all) (qc2 : @LT.lt Nat _ bk L1)
    (hU : BookOk w o9 idd most mm) (ht : TreeIn w (tl9 ++ ((x8, ol) :: (tl1 ++ D))) (.ref x9) t') (hd : od.IsDictOf (strKind prg w) kvs) (hw : WsAre kvs (wsPut (ws.filter isFill) (S "transform") z)) (lo : (d9 == sysModules) = false) (hz : turnS ws = z) :
    ∃ D', News g L h D' ∧ LPost w bk idd most o D all (.ok (.mk (S "g") (groupWs ws) [t'] (S "")), mm) (.ref x0) D' := by
  rw [put_fill hz] at hw
  refine ⟨(bk, o9) :: (((x0, ({ cls := .type "tuple", data := .seq #[.str (S "g") ta, .ref d9, .ref l9, .str (S "") tb] } : Obj)) :: (l9, listOf #[Value.ref x9] k) :: (d9, od) :: (Dl, ol2) :: (tl ++ (tl9 ++ (x8, ol) :: (b, ob) :: (tl1 ++ [(L1 + 1, oc)])))) ++ all), ?_, o9, _, rfl, hU, ?_, ?_⟩
  · intro p hp
    refine N p ?_
    simp only [List.mem_cons, List.mem_append, List.not_mem_nil] at hp ⊢
    grind
  · refine fresh_cons q0 (fresh_cons ql (fresh_cons qd (fresh_cons' (fun q hq => ?_) (fresh_app (fun p hp q hq => ?_) (fresh_app (fun p hp q hq => ?_) (fresh_cons qx (fresh_cons qb (fresh_app (f1.sub sub_cons) (fresh_cons ⟨Nat.lt_succ_of_lt qc2, allLt_up qc1 (Nat.lt_succ_self _)⟩ fresh_nil)))))))))
    · rcases List.mem_cons.mp hq with rfl | hq
      · exact offD (bk, o9) (List.mem_append_right _ (.head _))
      · exact offD q (List.mem_append_right _ (.tail _ (List.mem_append_right _ (.tail _ (.tail _ (List.mem_append_right _ (.tail _ hq)))))))
    · rcases List.mem_cons.mp hq with rfl | hq
      · exact fr p hp (bk, o9) (.head _)
      · exact fr p hp q (.tail _ (List.mem_append_right _ (.tail _ (.tail _ (List.mem_append_right _ (.tail _ hq))))))
    · rcases List.mem_cons.mp hq with rfl | hq
      · exact f9 p hp (bk, o) (.head _)
      · exact f9 p hp q (.tail _ (.tail _ (.tail _ (List.mem_append_right _ (.tail _ hq)))))
  · show TreeIn w _ (.ref x0) (.mk (S "g") (groupWs ws) [t'] (S ""))
    unfold TreeIn
    refine ⟨x0, d9, l9, k, #[.ref x9], _, _, rfl, .head _, ⟨od, kvs, .tail _ (.tail _ (.head _)), hd, hw, lo⟩, .tail _ (.head _), ?_⟩
    show TreesIn w _ [.ref x9] [t']
    unfold TreesIn
    refine ⟨ht.mono fun p hp => ?_, by unfold TreesIn; trivial⟩
    simp only [List.mem_cons, List.mem_append, List.not_mem_nil] at hp ⊢
    grind
section
theorem kw_lgokw52 : True := by
  (k_with "lgok;52" => first | (refine' code_defC ?k1_lgokw52 ?k2_lgokw52 ?k3_lgokw52 ?k4_lgokw52 ?k5_lgokw52 ?kA_lgokw52 ?kF_lgokw52 ?kK_lgokw52 ?k6_lgokw52 ?k7_lgokw52 ?k8_lgokw52 ?k9_lgokw52 ?kB_lgokw52 ?kD_lgokw52 ?_ ?c2_lgokw52 ?c3_lgokw52 ?c4_lgokw52; (case kA_lgokw52 => exact rfl); (case kF_lgokw52 => exact rfl); (case kK_lgokw52 => assumption); (case k1_lgokw52 => k_asm); (case k2_lgokw52 => k_asm); (case k3_lgokw52 => k_asm); (case k4_lgokw52 => k_asm); (case k5_lgokw52 => k_asm); (case k6_lgokw52 => k_is); (case k7_lgokw52 => k_is); (case k8_lgokw52 => ktr_room); (case k9_lgokw52 => first | exact BindsTo.of_eq rfl | exact binds_K (by k_in) rfl (by k_is) rfl rfl rfl); (case kB_lgokw52 => exact rfl); (case kD_lgokw52 => decide +kernel); (case c2_lgokw52 => exact rfl); (case c3_lgokw52 => exact rfl); (case c4_lgokw52 => exact rfl); k_whole; intro g' L' h' tk' cells' FG' F' N' Y' B' X' T' l1; (try k_lt l1); k_cells Y'; (try simp only [List.cons_append, List.nil_append] at N'); (try dsimp only); (try k_fold)) | fail)
  trivial
local macro_rules | `(tactic| ktr_enter) => `(tactic| k_extra "lgok;52")
theorem kw_lgok1 : True := by
  (k_with "lgok1" => first | (k_here; (with_reducible refine (?_ : wpAny _ _ (subscriptTail _ _ (Value.ref _) (Value.str (Str.ofString "ids") _)) _ _ _)); k_dflt (refine' kda_item (knd := PySem.strKind _ _) ?k1_lgok1 ?k2_lgok1 ?k3_lgok1 (strKind_is _ _ _ _) (bk_ids _ _ _ _ _) ?_; (case k1_lgok1 => k_asm); (case k3_lgok1 => assumption); (case k2_lgok1 => k_mem))) | fail)
  (k_with "lgok2" => first | (k_here; k_dflt ((refine' dw_get2 ?k1_lgok2 ?k2_lgok2 ?k3_lgok2 ?kw_lgok2 ?k4_lgok2 ?k5_lgok2 ?_; (case k1_lgok2 => k_asm); (case k2_lgok2 => k_mem); (case k3_lgok2 => k_asm); (case kw_lgok2 => assumption); (case k4_lgok2 => k_asm); (case k5_lgok2 => assumption)); intro t9')) | fail)
  (k_with "lgok3" => first | (k_here; (rename StrsV _ _ => lS); k_dflt (refine' lst_in ?N_lgok3 ?hx_lgok3 lS ?hb_lgok3 ?_; (case N_lgok3 => k_asm); (case hx_lgok3 => k_mem); (case hb_lgok3 => assumption))) | fail)
  (k_with "lgok4" => first | (k_here; (with_reducible refine (?_ : wpAny _ _ (call (Value.builtin "len") [Value.ref _]) _ _ _)); k_dflt (refine' len_list ?k1_lgok4 ?z_lgok4 ?_; (case k1_lgok4 => exact News.isList (by k_asm) (by k_mem)); (case z_lgok4 => omega); k_whole)) | fail)
  (k_with "lgok5" => first | (k_here; (rename StrsV _ _ => lS); k_dflt (refine' lnames_add ?F_lgok5 ?N_lgok5 ?hx_lgok5 lS ?hb_lgok5 ?hz_lgok5 ?_; (case F_lgok5 => k_asm); (case N_lgok5 => k_asm); (case hx_lgok5 => k_mem); (case hb_lgok5 => k_mem); (case hz_lgok5 => omega); k_whole); intro x8 h8 vs8 F8 N8 l1 S8; (try k_lt l1); (try k_sweep); (try dsimp only)) | fail)
  (k_with "lgok6" => first | (k_here; (with_reducible refine (?_ : wpAny _ _ (call (Value.ref 341) _) _ _ _)); (try ((fail_if_success (fail_if_success k_fold)); (refine fold1 ?_); intro qk)); k_dflt (refine' Call.use (c_lfr (D := ?D_lgok6) ?sub_lgok6 ?hx_lgok6 ?h2_lgok6 ?ok_lgok6) ?k1_lgok6 ?k2_lgok6 ?k3_lgok6 ?k4_lgok6 ?k5_lgok6 ?k6_lgok6 ?kd_lgok6 ?ku_lgok6 (fun _ h => h) ?_; (case k1_lgok6 => k_asm); (case k2_lgok6 => k_asm); (case k3_lgok6 => k_asm); (case k4_lgok6 => k_asm); (case k5_lgok6 => k_asm); (case k6_lgok6 => first | exact rfl | assumption); (case kd_lgok6 => ktr_room); (case ku_lgok6 => ktr_units); (case hx_lgok6 => assumption); (case h2_lgok6 => assumption); (case sub_lgok6 => ((repeat' (first | exact (fun _ h => h) | assumption | refine sub_consI ?_ | refine sub_appI ?_)))); (case ok_lgok6 => assumption); k_whole); (k_dflt (refine' ret_tl ?_)); intro v9 tl9 h9 tk9 F9 N9 g09 g19; (try k_sweep); (try dsimp only); (try k_fold)) | fail)
  (k_with "lgok7" => first | (k_here; (with_reducible refine (?_ : wpAny _ _ (call _ [Value.ref _, Value.type "str"]) _ _ _)); (refine' isi_ts ?k1_lgok7 ?k2_lgok7 (by assumption) ?_; (case k1_lgok7 => k_asm); (case k2_lgok7 => k_mem))) | fail)
  (k_with "lgok8" => first | (k_here; (refine' KXadd.add (K := 200) (L := 200) ?kxaa_lgok8 ?kxab_lgok8 ?kxac_lgok8 ?_; (case kxaa_lgok8 => (first | (refine' len_le ?lh_lgok8 ?lb_lgok8; (case lh_lgok8 => k_extra "ll"); (case lb_lgok8 => first | rfl | decide +kernel)) | ((try simp only [PySem.Str.length_append]); omega))); (case kxab_lgok8 => (first | (refine' len_le ?lh_lgok8 ?lb_lgok8; (case lh_lgok8 => k_extra "ll"); (case lb_lgok8 => first | rfl | decide +kernel)) | ((try simp only [PySem.Str.length_append]); omega))); (case kxac_lgok8 => exact Nat.le_of_ble_eq_true rfl)); intro _ _ _; (try dsimp only)) | fail)
  (k_with "lgok9" => first | (k_here; (refine' in_strB ?hb_lgok9 ?_; (case hb_lgok9 => assumption))) | fail)
  (k_with "lgok10" => first | (k_here; (with_reducible refine (?_ : wpAny _ _ (call (Value.ref 348) _) _ _ _)); (rename LPutC _ _ _ _ => lIH); (((((try ((fail_if_success (fail_if_success k_fold)); (refine fold1 ?_); intro qk)); k_dflt (refine' Call.use (l_ok (lput_call lIH ?hU_lgok10 ?sub_lgok10 ?hids_lgok10 ?el_lgok10 ?rk_lgok10 ?ok_lgok10 ?hz_lgok10 ?hS_lgok10 ?off_lgok10) ?hres_lgok10 (sub_rest ?sub2_lgok10)) ?k1_lgok10 ?k2_lgok10 ?k3_lgok10 ?k4_lgok10 ?k5_lgok10 ?k6_lgok10 ?kd_lgok10 ?ku_lgok10 (Cut.all ?kC_lgok10) ?_; (case k1_lgok10 => k_asm); (case k2_lgok10 => k_asm); (case k3_lgok10 => k_asm); (case k4_lgok10 => k_asm); (case k5_lgok10 => k_asm); (case k6_lgok10 => first | exact rfl | assumption); (case kd_lgok10 => ktr_room); (case ku_lgok10 => ktr_units); (case kC_lgok10 => (repeat' (first | exact Cut.here | refine' Cut.there ?_ | refine' Cut.app ?_))); (case hU_lgok10 => assumption); (case hids_lgok10 => assumption); (case el_lgok10 => assumption); (case sub_lgok10 => ((repeat' (first | exact (fun _ h => h) | assumption | refine sub_consI ?_ | refine sub_appI ?_)))); (case rk_lgok10 => assumption); (case ok_lgok10 => assumption); (case hz_lgok10 => assumption); (case hS_lgok10 => assumption); (case off_lgok10 => ((repeat' (first | assumption | refine all_cons ?_ ?_ | refine all_app ?_ ?_ | (exact Nat.ne_of_gt (by assumption)) | (refine Nat.ne_of_gt ?_; dsimp only; omega) | (refine' fresh_ne ?f_lgok10 ?m_lgok10; (case f_lgok10 => assumption); (case m_lgok10 => k_mem)))))); (case hres_lgok10 => assumption); k_whole)))); (case sub2_lgok10 => ((repeat' (first | exact (fun _ h => h) | assumption | refine sub_consI ?_ | refine sub_appI ?_))))); (k_dflt (refine' ret_lok ?_)); intro x9 tup9 o9 tl9 h9 tk9 F9 N9 g09 g19 g29 g39 g49; (try k_sweep); (try dsimp only); (try k_fold)) | fail)
  (k_with "lgok11" => first | (k_here; k_dflt (refine ListComp_DF (knd := PySem.strKind _ _) (by k_asm) (by with_unfolding_all rfl) (by decide) (by rfl) (by decide) (by rfl) ?_)) | fail)
  (k_with "lgok12" => first | (refine Hold.intro ?_) | fail)
  (k_with "lgok13" => first | (k_here; (with_reducible refine (?_ : wpAny _ _ (call (Value.type "dict") [Value.ref _]) _ _ _)); (rename PairsIn _ _ _ => lP); k_dflt (refine' dict_pairs_W ?k1_lgok13 ?k2_lgok13 ?k6_lgok13 ?k3_lgok13 ?hh_lgok13 lP ?sub_lgok13 ?nd_lgok13 ?k5_lgok13 ?_; (case k1_lgok13 => k_asm); (case k2_lgok13 => k_asm); (case k6_lgok13 => exact Top.nolimit (by k_asm)); (case k3_lgok13 => exact List.Mem.head _); (case hh_lgok13 => exact rfl); (case sub_lgok13 => exact fun p hp => List.Mem.tail _ (List.mem_append_left _ hp)); (case nd_lgok13 => assumption); (case k5_lgok13 => assumption)); intro d9' h9' tk9' o9' kvs9' F' N' l1 lo9' hd9' hw9'; (try k_lt l1); (try k_sweep)) | fail)
  trivial
theorem lgrp_ok {ws : Ws} {qx qy px py z : Str} {tr : Option Str} (hx0 : getOr ws (S "x") (S "") = qx) (hy0 : getOr ws (S "y") (S "") = qy) (lx : qx.length ≤ 4) (ly : qy.length ≤ 4) (hoc : (!(Builtin.Str.occurrences (qx ++ qy) (S "%") 0 (qx ++ qy).length 1).isEmpty) = false)
    (hx1 : getOr ws (S "x") (S "0") = px) (hy1 : getOr ws (S "y") (S "0") = py) (lx1 : px.length ≤ 4) (ly1 : py.length ≤ 4) (htr : wsGet ws (S "transform") = tr) (hlt : (tr.getD (S "")).length ≤ 20)
    (hzz : turnS ws = z) {t' : T} {w : World} {ids : List (Str × T)} {most n : Nat} (ih : LPutC w ids most n) {name text : Str} {kids : List T} {names : List Str} {made : Nat} {nx : Addr} {D all : Led} {bk idd x d l : Addr} {o od oi : Obj} {kvs kvi : List (Str × Value)} {tn tt : Tok} {y1 y2 nm : Str} {v : Value} {tgt : T} {vs : Array Value} {nl : Nat}
    (sub : ∀ p ∈ D, p ∈ all) (off : ∀ p ∈ all, @Ne Nat p.1 bk) (hx : TreeIn w D (.ref x) (.mk name ws kids text)) (hvt : TreeIn w D v tgt) (hok : OkT tgt) (hok2 : OkT (framedT ws tgt)) (hwz : ws.length ≤ 16)
    (mx : (x, ({ cls := .type "tuple", data := .seq #[.str name tn, .ref d, .ref l, .str text tt] } : Obj)) ∈ all)
    (mo : (d, od) ∈ all) (hd : od.IsDictOf (strKind prg w) kvs) (hw : WsAre kvs ws) (hlo : (d == sysModules) = false) (hU : BookOk w o idd most made)
    (mi : (idd, oi) ∈ all) (hi : oi.IsDictOf (strKind prg w) kvi) (hio : (idd == sysModules) = false) (hids : IdsIn w (TreeIn w) D idd ids) (e1 : getOr ws (S "xlink:href") (S "#") = y1) (e2 : getOr ws (S "href") y1 = y2) (e3 : Txt.slice y2 (some 1) none = nm) (hz : y2.length ≤ sizeLine)
    (hv : valueAt kvi nm = some v) (mnx : (nx, listOf vs nl) ∈ all) (hS : StrsV vs.toList names) (hb : (names.any (· == nm)) = false) (hn : (vs.size : Int) = (names.length : Int)) (hnz : names.length < 12) (hrk : rank (framedT ws tgt) (names ++ [nm]) ≤ n)
    {mm : Nat} (hres : putF ids most n (framedT ws tgt) (names ++ [nm]) made = (.ok t', mm)) {R : Res × Nat} (hR : R = (.ok (.mk (S "g") (groupWs ws) [t'] (S "")), mm)) :
    Call w (6 * n + 63) 353 [.ref bk, .ref x, .ref nx] ((bk, o) :: all) (LPost w bk idd most o D all R) := by
  obtain ⟨ta, tb, hbk⟩ := id hU
  subst hR
  subst e3
  have hnd : ((ws.filter isFill).map (·.1)).Nodup := (hw.keys ▸ isDictOf_nodup hd : (ws.map (·.1)).Nodup).sublist ((List.filter_sublist (p := isFill)).map _)
  have hfz : (ws.filter isFill).length ≤ 100 := Nat.le_trans (List.length_filter_le _ _) (Nat.le_trans hwz (by decide))
  have hl1 : (Str.ofString "translate(").length = 10 := by decide +kernel
  have hl2 : (Str.ofString " ").length = 1 := by decide +kernel
  have hl3 : (Str.ofString ")").length = 1 := by decide +kernel
  constructor
  intro dp un gd cn cs a ccd cl outer A₀ base h₀ L m sh sg sd st so mean mg mb Q E B F X N T hk hdp hun ret
  skip
  refine wpAny_call ?_
  k_dflt ktr_enter
  (repeat' (first | k_extra "sa" | k_extra "b125" | k_extra "b140" | k_extra "b141" | k_extra "b142" | k_extra "b143" | k_extra "b93" | k_extra "b144" | k_extra "b145" | k_extra "b146" | k_extra "b147" | k_extra "b13" | k_extra "b5" | k_extra "b14" | k_extra "b114" | k_extra "b20" | k_extra "b148" | k_extra "b22" | k_extra "b23" | k_extra "b2" | k_extra "b149" | k_extra "b150" | k_extra "sz"))
  unfold Hold
  refine' fill_src rfl ?zF ?zN ?zm hd hw hlo hwz ?zt ?zf
  case zF => k_asm
  case zN => k_asm
  case zm => k_mem
  case zt =>
    intro k v' t ys tl I oI C oC Dl m₂ h tk E' QC QN hget hC hx' F3 N3 hq1 hq2
    by_cases hf : k = S "fill"
    · subst hf
      (repeat' (first | k_extra "sa" | k_extra "b125" | k_extra "b114" | k_extra "b32" | k_extra "b24" | k_extra "sz"))
      exact hq1 _ _ _ [_, _] rfl (by k_asm) (by assumption) (by ktr_rel) ⟨_, _, _, _, rfl, .head _⟩
    · have hany : ([Str.ofString "fill"].any fun z => z == k) = false := by
        rw [List.any_cons, List.any_nil, Bool.or_false, beq_eq_false_iff_ne]
        exact fun e => hf e.symm
      k_steps
      exact hq2 _ _ [_] hf (by k_asm) (by assumption) (by ktr_rel)
  case zf =>
    intro ys tl Dl h tk fr hP F3 N3 offD
    cases tr with
    | none =>
      have hvt := hw.none htr
      dsimp only [Option.getD] at hlt
      (repeat' (first | k_extra "sa" | k_extra "b125" | k_extra "b141" | k_extra "b27" | k_extra "b28" | k_extra "b151" | k_extra "b147" | k_extra "b14" | k_extra "b20" | k_extra "b22" | k_extra "b23" | k_extra "b2" | k_extra "b24" | k_extra "sz"))
      obtain ⟨D', hN, hP⟩ := lg_ok (D := D) (ws := ws) (by assumption) fr (by assumption) (by assumption) offD (by ktr_rel) (by ktr_rel) (by ktr_rel) (by ktr_rel) (by ktr_rel) (by assumption) (by assumption) (by assumption) (by assumption) (by assumption) (by assumption) (by assumption) (by unfold turnS placeS; rw [htr, hx1, hy1])
      exact ret _ _ _ D' (by k_asm) hN hP
    | some v =>
      obtain ⟨tvt, hvt⟩ := hw.some htr
      dsimp only [Option.getD] at hlt
      (repeat' (first | k_extra "sa" | k_extra "b125" | k_extra "b141" | k_extra "b27" | k_extra "b28" | k_extra "b151" | k_extra "b147" | k_extra "b14" | k_extra "b114" | k_extra "b20" | k_extra "b32" | k_extra "b22" | k_extra "b23" | k_extra "b2" | k_extra "b24" | k_extra "sz"))
      obtain ⟨D', hN, hP⟩ := lg_ok (D := D) (ws := ws) (by assumption) fr (by assumption) (by assumption) offD (by ktr_rel) (by ktr_rel) (by ktr_rel) (by ktr_rel) (by ktr_rel) (by assumption) (by assumption) (by assumption) (by assumption) (by assumption) (by assumption) (by assumption) (by unfold turnS placeS; rw [htr, hx1, hy1])
      exact ret _ _ _ D' (by k_asm) hN hP
end
end

theorem reset_lputc : True := by
  (w_top off)
  (k_with "b152" => first | ((with_reducible refine (?_ : wpAny _ _ (setItem (Value.ref _) (Value.str _ _) _) _ _ _)); first | (with_reducible (k_extra "lputc3")) | fail) | fail)
  (k_with "b153" => first | ((with_reducible refine (?_ : wpAny _ _ (call (Value.ref _) _) _ _ _)); first | (with_reducible (k_extra "lputc4")) | fail) | fail)
  (k_with "b154" => first | ((with_reducible refine (?_ : wpAny _ _ (subscriptTail _ _ _ _) _ _ _)); first | (with_reducible (k_extra "lputc2")) | (with_reducible (k_extra "lputc1")) | fail) | fail)
  trivial
section
-- part lputc
section
theorem kw_lputc1 : True := by
  (k_with "lputc1" => first | (k_here; (with_reducible refine (?_ : wpAny _ _ (subscriptTail _ _ (Value.ref _) (Value.str (Str.ofString "made") _)) _ _ _)); k_dflt (refine' kda_item (knd := PySem.strKind _ _) ?k1_lputc1 ?k2_lputc1 ?k3_lputc1 (strKind_is _ _ _ _) (bk_made _ _ _ _ _) ?_; (case k1_lputc1 => k_asm); (case k3_lputc1 => assumption); (case k2_lputc1 => k_mem))) | fail)
  (k_with "lputc2" => first | (k_here; (with_reducible refine (?_ : wpAny _ _ (subscriptTail _ _ (Value.ref _) (Value.str (Str.ofString "most") _)) _ _ _)); k_dflt (refine' kda_item (knd := PySem.strKind _ _) ?k1_lputc2 ?k2_lputc2 ?k3_lputc2 (strKind_is _ _ _ _) (bk_most _ _ _ _ _) ?_; (case k1_lputc2 => k_asm); (case k3_lputc2 => assumption); (case k2_lputc2 => k_mem))) | fail)
  (k_with "lputc3" => first | (k_here; (with_reducible refine (?_ : wpAny _ _ (setItem (Value.ref _) (Value.str _ _) (Value.int _ _)) _ _ _)); k_dflt (refine' bk_set_K ?F_lputc3 ?N_lputc3 ?U_lputc3 ?d_lputc3 ?_; (case F_lputc3 => k_asm); (case N_lputc3 => k_asm); (case U_lputc3 => k_updF); (case d_lputc3 => assumption)); intro h9' o9' F' N' hd9'; (try dsimp only at N'); (try k_sweep)) | fail)
  (k_with "lputc4" => first | (k_here; (with_reducible refine (?_ : wpAny _ _ (call (Value.ref 353) _) _ _ _)); (rename LGrpC _ _ _ _ _ _ _ _ _ _ => lG); k_dflt (refine' Call.use (lG ?hU_lputc4) ?k1_lputc4 ?k2_lputc4 ?k3_lputc4 ?k4_lputc4 ?k5_lputc4 ?k6_lputc4 ?kd_lputc4 ?ku_lputc4 ?sub_lputc4 ?_; (case k1_lputc4 => k_asm); (case k2_lputc4 => k_asm); (case k3_lputc4 => k_asm); (case k4_lputc4 => k_asm); (case k5_lputc4 => k_asm); (case k6_lputc4 => exact rfl); (case kd_lputc4 => ktr_room); (case ku_lputc4 => ktr_units); (case sub_lputc4 => exact fun p hp => hp); (case hU_lputc4 => exact ⟨_, _, by assumption⟩); k_whole); intro v9 h9 tk9 D9 F9 N9 p9; (try k_sweep); (try dsimp only); (try k_fold)) | fail)
  trivial
theorem LPost.addr {w : World} {bk idd : Addr} {most : Nat} {o o1 : Obj} {D all : Led} {r : Res × Nat} {v : Value} {D' : Led} (h : LPost w bk idd most o1 D all r v D') : LPost w bk idd most o D all r v D' := by
  refine exC2 h ?_; (try clear h); intro o' tl hR; refine anC4 hR ?_; clear hR; intro a b c d
  exact ⟨o', tl, a, b, fun p hp q hq => (List.mem_cons.mp hq).elim (fun e => by subst e; exact c p hp (bk, o1) (.head _)) fun h => c p hp q (.tail _ h), d⟩
theorem lput_use {w : World} {ids : List (Str × T)} {most n : Nat} {text : Str} {ws : Ws} {names : List Str} {made : Nat} {nx : Addr} {D all : Led} {bk idd x d l : Addr} {o : Obj} {tn tt : Tok}
    (hU : BookOk w o idd most made) (amx : (x, ({ cls := .type "tuple", data := .seq #[.str (S "use") tn, .ref d, .ref l, .str text tt] } : Obj)) ∈ all) (off : ∀ p ∈ all, @Ne Nat p.1 bk)
    (hg : LGrpC w n [.ref bk, .ref x, .ref nx] bk idd most (made + 1) D all (grpR ids most n ws names (made + 1))) :
    Call w (6 * (n + 1) + 60) 348 [.ref bk, .ref x, .ref nx] ((bk, o) :: all)
      (LPost w bk idd most o D all (if made + 1 > most then (.limit, made + 1) else grpR ids most n ws names (made + 1))) := by
  obtain ⟨ta, tb, hbk⟩ := id hU
  constructor
  intro dp un gd cn cs a ccd cl outer A₀ base h₀ L m sh sg sd st so mean mg mb Q E B F X N T hk hdp hun ret
  skip
  refine wpAny_call ?_
  k_dflt ktr_enter
  (repeat' (first | k_extra "sa" | k_extra "b152" | k_extra "b0" | k_extra "b153" | k_extra "b13" | k_extra "b5" | k_extra "b1" | k_extra "b154" | k_extra "b24" | k_extra "sz"))
  · rw [if_pos (by omega)] at ret
    exact ret _ _ _ _ (by k_asm) (by assumption) ⟨_, [], rfl, ⟨_, _, by assumption⟩, fresh_nil, ⟨_, rfl⟩⟩
  · rw [if_neg (by omega)] at ret
    refine' ret _ _ _ _ ?zF ?zN ?zP
    (case zF => k_asm)
    (case zP => exact LPost.addr (by assumption))
    (case zN => assumption)
end
theorem lgrp_all {w : World} {ids : List (Str × T)} {most n : Nat} (hI : IdsOk ids) (hI0 : lookT ids (S "") = none) (ih : LPutC w ids most n) {text : Str} {ws : Ws} {names : List Str} {made : Nat} {nx : Addr} {D all : Led} {bk idd x : Addr}
    (sub : ∀ p ∈ D, p ∈ all) (off : ∀ p ∈ all, @Ne Nat p.1 bk) (hx : TreeIn w D (.ref x) (.mk (S "use") ws [] text)) (mn : LNamesIn D nx names) (mi : IdsIn w (TreeIn w) D idd ids)
    (hr : rank (.mk (S "use") ws [] text) names ≤ n + 1) (hwz : ws.length ≤ 16) (ok : WsOk ws) :
    LGrpC w n [.ref bk, .ref x, .ref nx] bk idd most made D all (grpR ids most n ws names made) := by
  intro o1 hU
  have hx0 := hx
  unfold TreeIn at hx
  (with_reducible refine (?_ : (let lG : Prop := _; lG))); intro lG; obtain ⟨x', d, l, k, vs, tn, tt, e, a1, ⟨od, kvs, a3, a4, a5, a6⟩, a7, a8⟩ := hx; k_unfold; clear lG
  cases e
  have mi0 := mi
  refine exC2 mi ?_; (try clear mi); intro oi kvi hR; refine anC4 hR ?_; clear hR; intro mio hi har hio
  (with_reducible refine (?_ : (let lG : Prop := _; lG))); intro lG; obtain ⟨hz, vn, kn, mnx, hS⟩ := mn; k_unfold; clear lG
  have hy2 : (getOr ws (S "href") (getOr ws (S "xlink:href") (S "#"))).length ≤ sizeLine := by
    refine Nat.le_trans (m := 16) ?_ (by decide)
    have hh : ∀ v : Str, EntOk (S "href") v → v.length ≤ 16 := fun v he => by
      rcases he with ⟨_, _, _, _, b⟩ | ⟨e, _⟩ | ⟨e, _⟩ | ⟨e, _⟩ | ⟨e, _⟩ | e | e | e | e
      · exact b
      all_goals exact absurd e (by decide)
    have hh2 : ∀ v : Str, EntOk (S "xlink:href") v → v.length ≤ 16 := fun v he => by
      rcases he with ⟨e, _⟩ | ⟨_, _, _, _, b⟩ | ⟨e, _⟩ | ⟨e, _⟩ | ⟨e, _⟩ | e | e | e | e
      · exact absurd e (by decide)
      · exact b
      all_goals exact absurd e (by decide)
    unfold getOr
    cases h1 : wsGet ws (S "href") with
    | some v => exact hh v (ok.look h1)
    | none =>
      cases h2 : wsGet ws (S "xlink:href") with
      | some v => exact hh2 v (ok.look h2)
      | none => decide +kernel
  have miss : lookT ids (nm0 ws) = none → Call w (6 * n + 63) 353 [.ref bk, .ref x, .ref nx] ((bk, o1) :: all) (LPost w bk idd most o1 D all (.sheet, made)) := fun h =>
    lgrp_miss (ids := ids) (names := names) (sub _ a1) (sub _ a3) a4 a5 a6 hU (sub _ mio) hi hio rfl rfl rfl hy2 (har.none h) rfl
  cases hl : linkName ws with
  | none =>
    rw [grpR_none hl]
    exact miss (by rw [nm0_none hl]; exact hI0)
  | some nm =>
    have hnm := nm0_some hl
    cases hk0 : lookT ids nm with
    | none =>
      rw [grpR_miss hl hk0]
      exact miss (by rw [hnm]; exact hk0)
    | some tgt =>
      obtain ⟨v, hv, hvt⟩ := har.some hk0
      have hsz : (vn.size : Int) = (names.length : Int) := by have := strsV_len hS; rw [Array.length_toList] at this; omega
      by_cases hlim : nm ∈ names ∨ 12 ≤ names.length
      · rw [grpR_lim hl hk0 hlim]
        refine lgrp_lim (ids := ids) (b := names.any (· == nm)) (sub _ a1) (sub _ a3) a4 a5 a6 hU (sub _ mio) hi hio rfl rfl hnm hy2 hv (sub _ mnx) hS rfl hsz hz ?_ rfl
        intro hb
        rcases hlim with h | h
        · have : names.any (· == nm) = true := List.any_eq_true.mpr ⟨nm, h, by simp⟩
          rw [this] at hb; cases hb
        · exact h
      · obtain ⟨p, hp, rfl⟩ := lookT_mem hk0
        obtain ⟨b1, b2, b3⟩ := hI p hp
        have hlt : names.length < 12 := Nat.lt_of_not_le fun h => hlim (.inr h)
        have hb : names.any (· == nm) = false := by
          rw [List.any_eq_false]
          intro z hz' e
          exact hlim (.inl (eq_of_beq e ▸ hz'))
        have hrk : rank (framedT ws p.2) (names ++ [nm]) ≤ n := rank_step b2 hr hlt
        rw [grpR_go hl hk0 hlim]
        cases hres : putF ids most n (framedT ws p.2) (names ++ [nm]) made with
        | mk res mm =>
        cases res with
        | limit => exact lgrp_limit ih sub off hx0 hvt b1 (framed_ok b1 b3) hwz (sub _ a1) (sub _ a3) a4 a5 a6 hU (sub _ mio) hi hio mi0 rfl rfl hnm hy2 hv (sub _ mnx) hS hb hsz hlt hrk hres rfl
        | sheet => exact lgrp_sheet ih sub off hx0 hvt b1 (framed_ok b1 b3) hwz (sub _ a1) (sub _ a3) a4 a5 a6 hU (sub _ mio) hi hio mi0 rfl rfl hnm hy2 hv (sub _ mnx) hS hb hsz hlt hrk hres rfl
        | ok t' =>
          have hxx : ∃ qx px, getOr ws (S "x") (S "") = qx ∧ getOr ws (S "x") (S "0") = px ∧ (qx = S "" ∨ qx = S "3" ∨ qx = S "-2" ∨ qx = S "0") ∧ (px = S "3" ∨ px = S "-2" ∨ px = S "0") := by
            unfold getOr
            cases hg : wsGet ws (S "x") with
            | none => exact ⟨_, _, rfl, rfl, .inl rfl, .inr (.inr rfl)⟩
            | some v => exact ⟨v, v, rfl, rfl, .inr (ent_x (ok.look hg)), ent_x (ok.look hg)⟩
          refine exC2 hxx ?_; (try clear hxx); intro qx px hR; refine anC4 hR ?_; clear hR; intro hx1 hx2 hxl hpl
          have lx : qx.length ≤ 4 := by rcases hxl with rfl | rfl | rfl | rfl <;> decide +kernel
          have lpx : px.length ≤ 4 := by rcases hpl with rfl | rfl | rfl <;> decide +kernel
          by_cases hb5 : wsGet ws (S "y") = some (S "50%")
          · have hbad : bad50 ws = true := by unfold bad50; rw [hb5]; decide +kernel
            refine lgrp_ok50 (qx := qx) (qy := S "50%") hx1 (by unfold getOr; rw [hb5]; rfl) lx (by decide +kernel) ?_ ih sub off hx0 hvt b1 (framed_ok b1 b3) hwz (sub _ a1) (sub _ a3) a4 a5 a6 hU (sub _ mio) hi hio mi0 rfl rfl hnm hy2 hv (sub _ mnx) hS hb hsz hlt hrk hres ?_
            · rcases hxl with rfl | rfl | rfl | rfl <;> decide +kernel
            · unfold goRes; dsimp only; rw [if_pos hbad]
          · have hbad : bad50 ws = false := by unfold bad50; simpa using hb5
            have hyy : ∃ qy py, getOr ws (S "y") (S "") = qy ∧ getOr ws (S "y") (S "0") = py ∧ (qy = S "" ∨ qy = S "7") ∧ (py = S "7" ∨ py = S "0") := by
              unfold getOr
              cases hg : wsGet ws (S "y") with
              | none => exact ⟨_, _, rfl, rfl, .inl rfl, .inr rfl⟩
              | some v =>
                rcases ent_y (ok.look hg) with h | h
                · exact exI2 v v ⟨rfl, rfl, .inr h, .inl h⟩
                · exact absurd (h ▸ hg) hb5
            refine exC2 hyy ?_; (try clear hyy); intro qy py hR; refine anC4 hR ?_; clear hR; intro hy1 hy2' hyl hql
            have htr : ∃ tr, wsGet ws (S "transform") = tr ∧ (tr = none ∨ tr = some (S "scale(2)")) := by
              cases hg : wsGet ws (S "transform") with
              | none => exact ⟨_, rfl, .inl rfl⟩
              | some v => exact ⟨_, rfl, .inr (by rw [ent_t (ok.look hg)])⟩
            obtain ⟨tr, htr, htl⟩ := htr
            refine lgrp_ok (qx := qx) (qy := qy) hx1 hy1 lx ?_ ?_ hx2 hy2' lpx ?_ htr ?_ rfl ih sub off hx0 hvt b1 (framed_ok b1 b3) hwz (sub _ a1) (sub _ a3) a4 a5 a6 hU (sub _ mio) hi hio mi0 rfl rfl hnm hy2 hv (sub _ mnx) hS hb hsz hlt hrk hres ?_
            · rcases hyl with rfl | rfl <;> decide +kernel
            · rcases hxl with rfl | rfl | rfl | rfl <;> rcases hyl with rfl | rfl <;> decide +kernel
            · rcases hql with rfl | rfl <;> decide +kernel
            · rcases htl with rfl | rfl <;> decide +kernel
            · unfold goRes; dsimp only; rw [if_neg (by rw [hbad]; exact Bool.false_ne_true)]
theorem lputC_zero {w : World} {ids : List (Str × T)} {most : Nat} : LPutC w ids most 0 := by
  intro t names made v nx D all bk idd o hU sub hx mn mi off hr ok
  cases t with
  | mk name ws kids text =>
    unfold rank height at hr
    omega
theorem lputC_succ {w : World} {ids : List (Str × T)} {most n : Nat} (hI : IdsOk ids) (hI0 : lookT ids (S "") = none) (ih : LPutC w ids most n) : LPutC w ids most (n + 1) := by
  intro t names made v nx D all bk idd o hU sub hx mn mi off hr ok
  cases t with
  | mk name ws kids text =>
    have hx0 := hx
    unfold TreeIn at hx
    (with_reducible refine (?_ : (let lG : Prop := _; lG))); intro lG; obtain ⟨x, d, l, k, vs, tn, tt, rfl, a1, a3, a4, a5⟩ := hx; k_unfold; clear lG
    by_cases hn : name = S "use"
    · subst hn
      have ok0 := ok
      unfold OkT at ok
      obtain ⟨hk0, hok⟩ := ok.2.2.1 rfl
      subst hk0
      rw [putF_use]
      exact lput_use hU (sub _ a1) off (lgrp_all hI hI0 ih sub off hx0 mn mi hr ok.1 hok)
    · exact lput_node ih (by simpa using hn) hU sub a1 a3 a4 a5 mn mi off hr ok
theorem lputC {w : World} {ids : List (Str × T)} {most : Nat} (hI : IdsOk ids) (hI0 : lookT ids (S "") = none) : ∀ n, LPutC w ids most n
  | 0 => lputC_zero
  | n + 1 => lputC_succ hI hI0 (lputC hI hI0 n)
end

theorem reset_eqt : True := by
  (w_top off)
  trivial
section
-- part eqt
section
variable {prog : Program} {w : World} {A : Around} {E : Value → Shared → Prop} {s : Shared}
theorem find_str {d : Addr} {o : Obj} {es : Array DictEntry} {ep j : Nat} {k : Str} {t : Tok} {h : Int} {Q : Option Nat → Shared → Prop} (ho : s.heap.get? d = some o) (hd : o.data = .dict es ep)
    (hk : ∀ e ∈ es, ∃ k t, e.key = .str k t) (hj : (es.findIdx? fun e => e.key.isStr k) = some j) (hQ : Q (some j) s) : wpAny (model prog w) A (dictFind d (.str k t) h) Q E s := by
  unfold dictFind
  refine wpAny_holding ?_
  refine wpAny_bind (wpAny_dictEntries ho hd ?_)
  have hall : (es.all fun e => isExactStrKey e.key) = true := Array.all_eq_true'.mpr fun e he => by
    obtain ⟨k, t, e1⟩ := hk e he
    rw [e1]; rfl
  dsimp only
  rw [if_pos hall]
  obtain ⟨hlt, hi, _⟩ := Array.findIdx?_eq_some_iff_getElem.mp hj
  obtain ⟨k', t', e1⟩ := hk es[j] (Array.getElem_mem hlt)
  unfold foundByValue
  rw [hj]
  dsimp only
  rw [Array.getElem?_eq_getElem hlt]
  dsimp only
  have hkk : (k' == k) = true := by rw [e1] at hi; exact hi
  rw [e1]
  refine wpAny_bind (wpAny_dictEpoch ho hd (wpAny_bind (SeqAt.EqAt.str_str k' t' k t prog w _ _ (wpAny_bind (wpAny_dictEpoch ho hd ?_)))))
  rw [if_neg (by simp), hkk]
  exact wpAny_bind (wpAny_rule (wpAny_pure hQ))
noncomputable def SameEs (es es' : Array DictEntry) : Prop :=
  es.size = es'.size ∧ (∀ e ∈ es', ∃ k t, e.key = .str k t) ∧ ∀ i (h : i < es.size), ∃ k t j v u u', es[i].key = .str k t ∧ (es'.findIdx? fun e => e.key.isStr k) = some j ∧ es[i].val = .str v u ∧ (es'[j]?.map (·.val)) = some (.str v u')
theorem same_pairs {nm : String} {a b : Addr} {oa ob : Obj} {es es' : Array DictEntry} {ep ep' : Nat} {Q : Bool → Shared → Prop} (la : (a == sysModules) = false) (lb : (b == sysModules) = false)
    (hoa : s.heap.get? a = some oa) (hda : oa.data = .dict es ep) (hob : s.heap.get? b = some ob) (hdb : ob.data = .dict es' ep') (hs : SameEs es es') (h : Q true s) :
    wpAny (model prog w) A (Builtin.Dict.samePairs nm a b) Q E s := by
  obtain ⟨hsz, hks, hent⟩ := hs
  unfold Builtin.Dict.samePairs Builtin.Dict.showsAll
  rw [if_neg (show ¬ (a == sysModules) = true by rw [la]; exact Bool.false_ne_true), if_neg (show ¬ (b == sysModules) = true by rw [lb]; exact Bool.false_ne_true)]
  refine wpAny_bind (wpAny_pure (wpAny_bind (wpAny_pure ?_)))
  refine wpAny_bind (wpAny_dictEntries hoa hda ?_)
  dsimp only
  refine wpAny_bind (wpAny_dictEntries hob hdb ?_)
  rw [if_neg (by rw [hsz]; simp)]
  refine wpAny_bind (wpAny_dictEpoch hoa hda ?_)
  refine wpAny_bind ?_
  rw [Std.Legacy.Range.forIn_eq_forIn_range']
  simp only [Std.Legacy.Range.size, Nat.sub_zero, Nat.add_sub_cancel, Nat.div_one]
  refine wpAny_forIn_list _ (fun rest q s' => s' = s ∧ q = (none, ()) ∧ ∃ i, rest = List.range' i (es.size - i) ∧ i ≤ es.size) _ ?_ ?_ _ _ ⟨rfl, rfl, 0, by simp, Nat.zero_le _⟩
  · intro x rest q s' hI9; (with_reducible refine (?_ : (let lG : Prop := _; lG))); intro lG; obtain ⟨rfl, rfl, i, hr, hi⟩ := hI9; k_unfold; clear lG
    have hlt : i < es.size := by
      rcases Nat.lt_or_ge i es.size with h | h
      · exact h
      · rw [Nat.sub_eq_zero_of_le h] at hr; simp at hr
    obtain ⟨rfl, hrest⟩ : x = i ∧ rest = List.range' (i + 1) (es.size - (i + 1)) := by
      have e : es.size - i = (es.size - (i + 1)) + 1 := sub_step hlt
      rw [e, List.range'_succ] at hr
      injection hr with h1 h2
      exact ⟨h1, h2⟩
    refine exC6 (hent x hlt) ?_; intro k t j v u u' hR; refine anC4 hR ?_; clear hR; intro e1 e2 e3 e4
    refine wpAny_bind (wpAny_dictEntries hoa hda ?_)
    rw [Array.getElem?_eq_getElem hlt]
    show wpAny _ _ (holding [es[x].key, es[x].val] _ >>= _) _ _ _
    rw [e1, e3]
    refine wpAny_bind (wpAny_holding (wpAny_bind (find_str hob hdb hks e2 ?_)))
    refine wpAny_bind (wpAny_dictEntries hob hdb ?_)
    cases hj : es'[j]? with
    | none => rw [hj] at e4; cases e4
    | some f =>
      rw [hj] at e4
      have e5 : f.val = .str v u' := Option.some.inj e4
      dsimp only
      refine wpAny_holding ?_
      rw [e5]
      refine SeqAt.EqAt.str_str v u v u' prog w _ _ ?_
      show wpAny _ _ (if (!(v == v)) = true then _ else _) _ _ _
      rw [if_neg (by simp)]
      refine wpAny_bind (wpAny_dictEpoch hoa hda ?_)
      rw [if_neg (by simp)]
      exact wpAny_pure ⟨rfl, rfl, x + 1, hrest, hlt⟩
  · intro q s' hI9; (with_reducible refine (?_ : (let lG : Prop := _; lG))); intro lG; obtain ⟨rfl, rfl, i, hr, hi⟩ := hI9; k_unfold; clear lG
    exact wpAny_pure h
theorem rc_dicts {a b : Addr} {oa ob : Obj} {es es' : Array DictEntry} {ep ep' : Nat} (la : (a == sysModules) = false) (lb : (b == sysModules) = false)
    (hoa : s.heap.get? a = some oa) (hca : oa.cls = .type "dict") (hda : oa.data = .dict es ep) (hob : s.heap.get? b = some ob) (hcb : ob.cls = .type "dict") (hdb : ob.data = .dict es' ep') (hs : SameEs es es') (hu : A.units < cLine) :
    SeqAt.RcAt A s (.ref a) (.ref b) true := fun prog w E Q h => by
  have ta : s.TypeIs (.ref a) "dict" := ⟨_, hoa, hca⟩
  have tb : s.TypeIs (.ref b) "dict" := ⟨_, hob, hcb⟩
  refine wpAny_richCompare_same_room (op := .Eq) ta tb PySem.F.slot_dict_eq (wpAny_call_entry PySem.F.slot_dict_eq ta PySem.F.entry_dict_eq ?_ (PySem.F.args_dict_eq_2 _ _)) hu
  show wpAny _ _ (Builtin.Dict.dictSlotArgs "__eq__" ⟨[.ref a, .ref b], []⟩ >>= _) _ _ s
  refine wpAny_bind ?_
  unfold Builtin.Dict.dictSlotArgs
  refine wpAny_bind (wpAny_notOrdered_dict ta ?_)
  show wpAny _ _ (pure (Value.ref a, Value.ref b)) _ _ s
  refine wpAny_pure ?_
  refine wpAny_bind (wpAny_isInstance (T := "dict") tb PySem.F.sub_dict_dict ?_)
  simp only [Bool.not_true, Bool.false_eq_true, if_false]
  refine wpAny_bind (wpAny_pure (wpAny_bind (wpAny_pure ?_)))
  refine wpAny_bind (same_pairs la lb hoa hda hob hdb hs ?_)
  refine wpAny_pure ⟨_, rfl, ?_, ?_⟩
  · exact fun x => nomatch x
  · simpa using h
theorem rc_ws {h₀ : Heap} {L a b : Addr} {D : Led} {ws : Ws} (N : News h₀ L s.heap D) (ha : DictIn w D a ws) (hb : DictIn w D b ws) (hu : A.units < cLine) : SeqAt.RcAt A s (.ref a) (.ref b) true := by
  (with_reducible refine (?_ : (let lG : Prop := _; lG))); intro lG; obtain ⟨oa, ka, ma, hda, hwa, la⟩ := ha; k_unfold; clear lG
  (with_reducible refine (?_ : (let lG : Prop := _; lG))); intro lG; obtain ⟨ob, kb, mb, hdb, hwb, lb⟩ := hb; k_unfold; clear lG
  refine exC2 hda ?_; (try clear hda); intro es ep hR; refine anC5 hR ?_; clear hR; intro xa da hka hpa hna
  refine exC2 hdb ?_; (try clear hdb); intro es' ep' hR; refine anC5 hR ?_; clear hR; intro xb db hkb hpb hnb
  have sa : es.size = ws.length := by rw [← hwa.len, ← hpa.length, Array.length_toList]
  have sb : es'.size = ws.length := by rw [← hwb.len, ← hpb.length, Array.length_toList]
  refine rc_dicts la lb (N _ ma).1 xa.1 da (N _ mb).1 xb.1 db ⟨sa.trans sb.symm, fun e he => ?_, fun i hi => ?_⟩ hu
  · obtain ⟨k, hk, _⟩ := hkb e he
    obtain ⟨t, ht⟩ := Value.isStrOf_shape hk
    exact ⟨k, t, ht⟩
  · have hi2 : i < ws.length := sa ▸ hi
    have hi3 : i < ka.length := by rw [hwa.len]; exact hi2
    obtain ⟨h1, h2⟩ := hpa.get? (i := i) (e := es[i]) (k := ka[i].1) (v := ka[i].2) (by rw [Array.getElem?_toList]; exact Array.getElem?_eq_getElem hi) (List.getElem?_eq_getElem hi3)
    obtain ⟨t, ht⟩ := Value.isStrOf_shape h1
    obtain ⟨e1, u, e2⟩ : ka[i].1 = ws[i].1 ∧ ∃ u, ka[i].2 = Value.str ws[i].2 u := by
      have gen : ∀ {kvs : List (Str × Value)} {ws : Ws} (i : Nat) (h1 : i < kvs.length) (h2 : i < ws.length), WsAre kvs ws → kvs[i].1 = ws[i].1 ∧ ∃ u, kvs[i].2 = Value.str ws[i].2 u := by
        intro kvs
        induction kvs with
        | nil => intro ws i h1; exact absurd h1 (Nat.not_lt_zero _)
        | cons p r ih =>
          intro ws i h1 h2 h
          cases ws with
          | nil => exact absurd h2 (Nat.not_lt_zero _)
          | cons q z =>
            cases i with
            | zero => exact h.1
            | succ i => exact ih i (Nat.lt_of_succ_lt_succ h1) (Nat.lt_of_succ_lt_succ h2) h.2
      exact gen i hi3 hi2 hwa
    have hnw : (ws.map (·.1)).Nodup := by
      have keys : ∀ {kvs : List (Str × Value)} {ws : Ws}, WsAre kvs ws → kvs.map (·.1) = ws.map (·.1) := by
        intro kvs
        induction kvs with
        | nil => intro ws h; cases ws with
          | nil => rfl
          | cons => exact h.elim
        | cons p r ih => intro ws h; cases ws with
          | nil => exact h.elim
          | cons q z => rw [List.map_cons, List.map_cons, h.1.1, ih h.2]
      exact keys hwa ▸ hna
    have hget : wsGet ws ws[i].1 = some ws[i].2 := by
      unfold wsGet
      have hsp : ws = ws.take i ++ ws[i] :: ws.drop (i + 1) := by rw [← List.drop_eq_getElem_cons hi2, List.take_append_drop]
      have hno : ∀ p ∈ ws.take i, ¬ p.1 = ws[i].1 := fun p hp e => by
        have n2 := hnw
        rw [hsp, List.map_append, List.map_cons, List.nodup_append] at n2
        exact n2.2.2 _ (List.mem_map_of_mem hp) _ (.head _) e
      generalize hq : ws[i] = q at hsp hno ⊢
      rw [hsp, List.find?_append, List.find?_eq_none.mpr fun p hp => by simpa using hno p hp, List.find?_cons]
      simp
    obtain ⟨u', hv'⟩ := hwb.some hget
    have hf : findBy (strKind prg w).is es' ws[i].1 = some (.str ws[i].2 u') := by
      rw [← hv', ← hpb.find]
      clear hpb hkb db sb
      obtain ⟨l⟩ := es'
      simp [findBy]
    rw [findBy_of_findIdx?] at hf
    have hfun : (fun e : DictEntry => (strKind prg w).is ws[i].1 e.key) = fun e => e.key.isStr ws[i].1 := funext fun e => (strKind prg w).strs ws[i].1 ws[i].1 t e.key (strKind_is _ _ _ _)
    rw [hfun] at hf
    cases hj : es'.findIdx? (fun e => e.key.isStr ws[i].1) with
    | none => rw [hj] at hf; cases hf
    | some j =>
      rw [hj] at hf
      exact exI6 (ws[i].1) t j (ws[i].2) u u' ⟨by rw [ht, e1], hj, by rw [h2, e2], hf⟩
theorem eq_of_rc {l b : Addr} (h : SeqAt.RcAt A s (.ref l) (.ref b) true) : SeqAt.EqAt A s (.ref l) (.ref b) true := by
  by_cases e : l = b
  · subst e; exact SeqAt.EqAt.same _
  · exact SeqAt.EqAt.of_refs e h
theorem all_true (n : Nat) : ((List.range n).all fun _ => true) = true := by simp
theorem tree_at {h₀ : Heap} {L : Addr} {D : Led} (N : News h₀ L s.heap D) {n : Nat} (ih : ∀ {t : T} {a b : Addr} {A : Around}, height t ≤ n → TreeIn w D (.ref a) t → TreeIn w D (.ref b) t → A.units + 2 * n < cLine → SeqAt.RcAt A s (.ref a) (.ref b) true)
    {t : T} {a b : Addr} {A : Around} (hh : height t ≤ n + 1) (ha : TreeIn w D (.ref a) t) (hb : TreeIn w D (.ref b) t) (hu : A.units + 2 * (n + 1) < cLine) :
    ∃ items items2, s.heap.IsTuple a items ∧ s.heap.IsTuple b items2 ∧ items.size = 4 ∧ items2.size = 4 ∧ ∀ j (h1 : j < items.size) (h2 : j < items2.size), SeqAt.EqAt A.in1 s items[j] items2[j] true := by
  cases t with
  | mk name ws kids text =>
    unfold TreeIn at ha hb
    unfold height at hh
    (with_reducible refine (?_ : (let lG : Prop := _; lG))); intro lG; obtain ⟨x, d, l, k, vs, tn, tt, e, a1, a2, a3, a4⟩ := ha; k_unfold; clear lG
    cases e
    (with_reducible refine (?_ : (let lG : Prop := _; lG))); intro lG; obtain ⟨x', d', l', k', vs', tn', tt', e', b1, b2, b3, b4⟩ := hb; k_unfold; clear lG
    cases e'
    have c1 := trees_all.mp a4
    have c2 := trees_all.mp b4
    have hsz : vs.size = vs'.size := by have e1 := c1.len; have e2 := c2.len; rw [Array.length_toList] at e1 e2; omega
    have hlist : SeqAt.RcAt A.in1 s (.ref l) (.ref l') true := by
      have h := SeqAt.RcAt.lists (A := A.in1) (e := fun _ => true) (News.isList N a3) (News.isList N b3) hsz (by simp only [units_in1]; omega) (fun j h1 h2 => by
        obtain ⟨t, q1, q2, q3⟩ := c1.get (i := j) (v := vs[j]) (by rw [Array.getElem?_toList]; exact Array.getElem?_eq_getElem h1)
        obtain ⟨t', r1, r2, r3⟩ := c2.get (i := j) (v := vs'[j]) (by rw [Array.getElem?_toList]; exact Array.getElem?_eq_getElem h2)
        rw [q1] at r1
        cases r1
        have hk := height_kid q2
        have sh : ∀ {v : Value} {t : T}, TreeIn w D v t → ∃ x, v = .ref x := by
          intro v t h
          cases t with
          | mk _ _ _ _ =>
            unfold TreeIn at h
            (with_reducible refine (?_ : (let lG : Prop := _; lG))); intro lG; obtain ⟨x, _, _, _, _, _, _, e, _⟩ := h; k_unfold; clear lG
            exact ⟨x, e⟩
        obtain ⟨x1, e1⟩ := sh q3
        obtain ⟨x2, e2⟩ := sh r3
        rw [e1] at q3 ⊢
        rw [e2] at r3 ⊢
        exact eq_of_rc (ih (by omega) q3 r3 (by simp only [units_in1]; omega)))
      rw [all_true] at h
      exact h
    refine ⟨_, _, News.isTup N a1, News.isTup N b1, rfl, rfl, fun j h1 h2 => ?_⟩
    match j, h1, h2 with
    | 0, _, _ => have q := SeqAt.EqAt.str_str (A := A.in1) (s := s) name tn name tn'; rw [beq_self_eq_true] at q; exact q
    | 1, _, _ => exact eq_of_rc (rc_ws N a2 b2 (by simp only [units_in1]; omega))
    | 2, _, _ => exact eq_of_rc hlist
    | 3, _, _ => have q := SeqAt.EqAt.str_str (A := A.in1) (s := s) text tt text tt'; rw [beq_self_eq_true] at q; exact q
    | j + 4, h1, _ => exact absurd h1 (by simp)
theorem rc_tree {h₀ : Heap} {L : Addr} {D : Led} (N : News h₀ L s.heap D) : ∀ n {t : T} {a b : Addr} {A : Around}, height t ≤ n → TreeIn w D (.ref a) t → TreeIn w D (.ref b) t → A.units + 2 * n < cLine → SeqAt.RcAt A s (.ref a) (.ref b) true := by
  intro n
  induction n with
  | zero =>
    intro t a b A hh _ _ _
    cases t with | mk _ _ _ _ => unfold height at hh; omega
  | succ n ih =>
    intro t a b A hh ha hb hu
    refine exC2 (tree_at N ih hh ha hb hu) ?_; intro items items2 hR; refine anC5 hR ?_; clear hR; intro h1 h2 z1 z2 he
    have h := SeqAt.RcAt.tuples (A := A) (e := fun _ => true) h1 h2 (by omega) he
    rw [all_true, Bool.true_and, z1, z2] at h
    exact h
theorem ne_tree {prog : Program} {w' : World} {E : Value → Shared → Prop} {h₀ : Heap} {L : Addr} {D : Led} (N : News h₀ L s.heap D) {n : Nat} {t : T} {a b : Addr} {Q : Value → Shared → Prop} (hh : height t ≤ n + 1) (ha : TreeIn w D (.ref a) t) (hb : TreeIn w D (.ref b) t) (hu : A.units + 2 * (n + 1) < cLine)
    (hQ : Q (.bool false) s) : wpAny (model prog w') A (compareOp .NotEq (.ref a) (.ref b)) Q E s := by
  refine exC2 (tree_at N (fun {t a b A} => rc_tree N n) hh ha hb hu) ?_; intro items items2 hR; refine anC5 hR ?_; clear hR; intro h1 h2 z1 z2 he
  have h := SeqAt.RcNeAt.tuples (A := A) (e := fun _ => true) h1 h2 (by omega) he
  rw [all_true, Bool.true_and, z1, z2] at h
  exact h prog w' E Q hQ
end
end

end
section
theorem reset_tryx : True := by
  (w_top off)
  trivial
section
-- part tryx
section
variable {prog : Program} {w : World} {A₀ A : Around} {s : Shared} {base h₀ : Heap} {L : Addr} {m : Str → Option Value} {env : Env} {news : Led} {K : Frag} {p : Program} {loose : List Str} {mean : ExcName → Option Value} {mg mb : Str → Option Value}
  {R : Result → Shared → Prop} {name qual : Str} {params : Arguments} {body : List Stmt} {scope : Scope} {dV kV doc pm cdv ct oc : Value} {an od : Option Addr} {osl : Array (Option Value)} {f : Addr} {args : Args} {binds : List (Str × Value)}
theorem code_defCS (B : Below A₀ base [] h₀) (F : Fr h₀ L s.heap m) (X₀ : K.In h₀) (N : News h₀ L s.heap news) (T : Top p loose mean mg mb h₀) (hA : A.frames = some [env]) (hf : env.frame = some L) (hke : env.scope.kind = .function)
    (ho : K.lookup f = some ⟨oc, od, .func (fnOf name qual params body scope dV kV doc pm an cdv ct), osl⟩) (hcd : codeIn K cdv qual = true) (hroom : A.depth < recursionLimit)
    (hbind : BindsTo s (fnOf name qual params body scope dV kV doc pm an cdv ct) args binds) (hkind : (binds.all fun y => scope.names.lookup y.1 == some .local || scope.names.lookup y.1 == some .cell) = true)
    (hnd : ((cellsFrom 0 scope.names []).map (·.1)).Nodup)
    (h : ∀ g L' h₁ tk cells, Fr h₀ L g m → Fr g L' h₁ (bindL (envOfC qual scope L' f cdv).kindOf binds fun _ => none) → News g L' h₁ (cells ++ news) →
      CellsAre (bindC (envOfC qual scope L' f cdv).kindOf binds fun _ => none) (cellsFrom (L' + 1) scope.names []) cells → Below A base [env] g → K.In g → Top p loose mean mg mb g → KtsDicts ([env].filterMap (·.frame)) g → (∀ p ∈ news, p.1 < L') →
      wpAny (model prog w) (A.deeper (envOfC qual scope L' f cdv)) (execs body (envOfC qual scope L' f cdv))
        (fun fl s' => LeaveS0 ([env].filterMap (·.frame)) h₀ L m g R (match fl with | .ret v => v | _ => .none) s')
        (fun e s' => wpAny (model prog w) (A.deeper (envOfC qual scope L' f cdv)) (leaving (envOfC qual scope L' f cdv) e) (fun _ s'' => R (.error e) s'') (fun e' s'' => R (.error e') s'') s')
        { s with heap := h₁, toks := tk })
    (hco : scope.isCoroutine = false) (hgen : scope.isGenerator = false) (hk : scope.kind = .function) : codeAny (model prog w) A (.call (.ref f) args) R s := by
  refine anC4 (groundX (R := R) B F N hA hf hke) ?_; intro FG BG st _
  have X := X₀.keeps F.keep
  have one : ∀ b, b ∈ [env].filterMap (·.frame) ↔ b = L := fun b => by
    rw [List.filterMap_cons, hf]; simp
  refine codeAny_call_function hroom (X _ _ ho) rfl hco hgen rfl (codeRec_of X hcd) (hbind _ _ _ _ ?_)
  refine wpAny_newFunctionEnv_cells hk (kindsX hkind _) fun env' he s' x => ?_
  subst he
  refine ⟨(T.nolimit.keeps F.keep).keeps x.toInCall.keep, codeAny_func ?_⟩
  refine exC2 (x.done) ?_; intro h₁ tk hR; refine anC2 hR ?_; clear hR; intro hO2 _; subst hO2
  have kept := x.toInCall.keep
  obtain ⟨cells, NC, Y⟩ := Cl.news (h₀ := s.heap) (Nat.le_refl _) fun n c hm => ⟨x.cell n c (lookup_of_mem_nodup (cellsFrom_names scope.names 0 (s.heap.objs.size + 1) [] [] rfl ▸ hnd) hm), x.above n c hm⟩
  have F₁ : Fr (hideAll s.heap (news.map (·.1))) s.heap.objs.size h₁ _ := ⟨x.toInCall.ns, fun b o e => kept b o (of_hideAll _ e), Nat.le_of_eq (hideAll_size _ _)⟩
  have N₁ : News (hideAll s.heap (news.map (·.1))) s.heap.objs.size h₁ (cells ++ news) := fun p hp => by
    rcases List.mem_append.mp hp with hp | hp
    · refine ⟨(NC p hp).1, (NC p hp).2.1, ?_⟩
      cases q : (hideAll s.heap (news.map (·.1))).get? p.1 with
      | none => rfl
      | some o =>
        have z := of_hideAll _ q
        rw [(NC p hp).2.2] at z; cases z
    · exact ⟨kept _ _ (N p hp).1, Nat.ne_of_lt (Heap.lt_size (N p hp).1), hideAll_none _ (List.mem_map_of_mem hp)⟩
  refine exC3 (id FG.ns) ?_; intro oL es ep hR; refine anC4 hR ?_; clear hR; intro hLg hLd hLk hLf
  have D : KtsDicts ([env].filterMap (·.frame)) (hideAll s.heap (news.map (·.1))) := fun b hb => by
    rw [(one b).mp hb]
    exact exI3 oL es ep ⟨hLg, hLd⟩
  refine wpAny_mono (h _ s.heap.objs.size h₁ tk cells FG F₁ N₁ Y BG (X₀.keeps st) (T.keeps st) D (fun p hp => Heap.lt_size (N p hp).1)) (fun fl s' hl => ?_) fun _ _ y => y
  refine exC4 hl ?_; (try clear hl); intro g' L' m' news' hR; refine anC4 hR ?_; clear hR; intro T' F' N' k
  have low : h₀.get? L = none := kts_self F
  obtain ⟨sl, hs⟩ := T'.up hLg
  refine k ⟨⟨_, es, ep, F'.keep _ _ hs, hLd, hLk, hLf⟩, fun b o e => ?_, F.above⟩ fun p hp => ⟨(N' p hp).1, fun q => ?_, ?_⟩
  · refine F'.keep b o (T'.other b o (st b o e) fun q => ?_)
    rw [(one b).mp q, low] at e
    cases e
  · have z := (N' p hp).2.2
    rw [q, hs] at z
    cases z
  · cases q : h₀.get? p.1 with
    | none => rfl
    | some o =>
      obtain ⟨sl', hs'⟩ := T'.up (st _ _ q)
      have z := (N' p hp).2.2
      rw [hs'] at z
      cases z
end
noncomputable def clsOff (K : Frag) (C C' : Addr) : Bool := match K.lookup C with
  | some ⟨.type "type", _, .cls cd, _⟩ => !cd.mro.contains (.ref C')
  | _ => false
section
variable {M : Model} {A : Around} {E : Value → Shared → Prop} {s : Shared}
theorem matches_not {nm q nm' q' : Str} {C C' N N' : Addr} {bs bm bs' bm' : List Value} {hdct hdct' : Bool} {sn sn' : List Str} {sub sub' : List Value} {ab ab' : Bool} {col col' : Option Bool} {dd dd' : Option Addr} {k0 k1 k2 k3 k5 j0 j1 j2 j3 j5 : Option Value} {newId newId' : String}
    {h : Heap} {g : Array GenState} {d : Drawn} {t : Nat} {os : OsState} {e : Addr} {oe : Obj} {Q : Bool → Shared → Prop}
    (hC : h.get? C = some (excClassObj nm q C N bs bm hdct sn sub ab col dd k0 k1 k2 k3 k5 newId)) (hC' : h.get? C' = some (excClassObj nm' q' C' N' bs' bm' hdct' sn' sub' ab' col' dd' j0 j1 j2 j3 j5 newId')) (he : h.get? e = some oe) (hcls : oe.cls = .ref C) (hbase : bm'.contains (.type "BaseException") = true)
    (hno : (Value.ref C :: bm).contains (.ref C') = false) (hq : Q false ⟨h, g, d, t, os⟩) : wpAny M A (excMatches (.ref e) (.ref C')) Q E ⟨h, g, d, t, os⟩ := by
  have hcB : (Value.ref C' :: bm').contains (.type "BaseException") = true := by rw [List.contains_cons, hbase, Bool.or_true]
  have f := tc_notTuple
  unfold excMatches
  repeat (first | (with_reducible refine wpAny_loadPart_at he ?_; rw [hcls]) | with_reducible refine wpAny_loadPart_at hC' ?_ | (with_reducible refine wpAny_isSubtype_exc hC' ?_; rw [hcB]) | (with_reducible refine wpAny_isSubtype_exc hC ?_; rw [hno]) | wp_step)
  exact hq
end
theorem cls_at {K : Frag} {h : Heap} {C C' : Addr} (X : K.In h) (q : ktsIn K C "BaseException" = true) (q2 : clsOff K C C' = true) : ∃ nm qn N bs bm hdct sn sub ab col dd k0 k1 k2 k3 k5 newId,
    h.get? C = some (excClassObj nm qn C N bs bm hdct sn sub ab col dd k0 k1 k2 k3 k5 newId) ∧ bm.contains (.type "BaseException") = true ∧ (Value.ref C :: bm).contains (.ref C') = false := by
  (with_reducible refine (?_ : (let lG : Prop := _; lG))); intro lG; obtain ⟨nm, qn, N, bs, bm, hdct, sn, sub, ab, col, dd, k0, k1, k2, k3, k5, newId, hC, hb, _⟩ := kts_cls X q; k_unfold; clear lG
  refine exI12 nm qn N bs bm hdct sn sub ab col dd k0 ⟨k1, k2, k3, k5, newId, hC, hb, ?_⟩
  unfold clsOff at q2
  split at q2
  · rename_i dd' cd sl ho
    have e := Option.some.inj (hC.symm.trans (X _ _ ho))
    have e2 := congrArg Obj.data e
    injection e2 with e3
    rw [← e3] at q2
    simpa using q2
  · cases q2
section
variable {prog : Program} {w : World} {A₀ : Around} {E : Value → Shared → Prop} {s' : Shared} {base g g₀ G : Heap} {outer : List Env} {L a e t C C1 C2 : Addr} {m : Str → Option Value} {name : Str} {scope : Scope} {cd : Value} {cl : List (Str × Addr)}
  {vs : List Value} {b1 b2 : Stmt} {su1 su2 : List Stmt} {pos1 np1 pos2 np2 : Pos} {Q : Flow → Shared → Prop} {news : Led} {KF : Frag}
  {p : Program} {loose : List Str} {mean : ExcName → Option Value} {mg mb : Str → Option Value} {x1 x2 : Str}
theorem lands_ground {M : Model} {A : Around} {B h₅ : Heap} {Q : Unit → Shared → Prop} (F : Fr g L G m) (K : Below A₀ base outer g) (XB : KF.In base) (TB : Top p loose mean mg mb base) (D : KtsDicts (outer.filterMap (·.frame)) g) (T0 : KtsTurn (outer.filterMap (·.frame)) g₀ g)
    (hBG : ∀ b o, G.get? b = some o → b ∉ (envX name scope L a cd cl :: outer).filterMap (·.frame) → B.get? b = some o) (hl : ∀ q ∈ news, B.get? q.1 = some q.2 ∧ G.get? q.1 = none ∧ base.get? q.1 = none) (hL : B.get? L = none)
    (hsm : G.UpToSlots h₅) (hfl : Heap.FlyingW B (envX name scope L a cd cl :: outer) e (.ref C) (.ref t) h₅)
    (k : ∀ h' g', KtsTurn (outer.filterMap (·.frame)) g₀ g' → Fr g' L h' m → News g' L h' news → Below A₀ base outer g' → KF.In g' → Top p loose mean mg mb g' → KtsDicts (outer.filterMap (·.frame)) g' → Q () { s' with heap := h' }) :
    wpAny M A (setFlight (.ref e) none) Q E { s' with heap := h₅ } := by
  refine lands_againW hfl fun h₆ hfl₆ hsm₆ => ?_
  refine exC1 (kts_ground (name := name) (scope := scope) (a := a) (cd := cd) K F hBG hfl₆.1 (hsm.trans hsm₆)) ?_; intro g₆ hR; refine anC3 hR ?_; clear hR; intro T₆ F₆ K₆
  exact k h₆ g₆ (T0.trans T₆) F₆ (fun q hq => ⟨hfl₆.1 _ _ (hl q hq).1, (fun z => by have := (hl q hq).1; rw [z, hL] at this; cases this), T₆.none_ _ (kts_none F.keep (hl q hq).2.1)⟩) K₆ (XB.keeps K₆.stays) (TB.keeps K₆.stays) (D.turn T₆)
theorem caught_both (R : RaisedS base G (envX name scope L a cd cl :: outer) e (.ref C) t vs news s'.heap) (F : Fr g L G m) (K : Below A₀ base outer g) (hsm : G.UpToSlots s'.heap) (XB : KF.In base) (TB : Top p loose mean mg mb base)
    (D : KtsDicts (outer.filterMap (·.frame)) g) (T0 : KtsTurn (outer.filterMap (·.frame)) g₀ g)
    (ex1 : nsIn KF mainGlobals x1 = some (some (.ref C1))) (ex2 : nsIn KF mainGlobals x2 = some (some (.ref C2))) (q1 : ktsIn KF C1 "BaseException" = true) (q2 : ktsIn KF C2 "BaseException" = true) (qn : clsOff KF C2 C1 = true) (hC : C = C1 ∨ C = C2)
    (k1 : C = C1 → ∀ h' g', KtsTurn (outer.filterMap (·.frame)) g₀ g' → Fr g' L h' m → News g' L h' news → Below A₀ base outer g' → KF.In g' → Top p loose mean mg mb g' → KtsDicts (outer.filterMap (·.frame)) g' →
      wpAny (model prog w) ((A₀.deeper (envX name scope L a cd cl)).mark (some (.ref e))) (execs (b1 :: su1) (envX name scope L a cd cl)) Q E { s' with heap := h' })
    (k2 : C = C2 → ∀ h' g', KtsTurn (outer.filterMap (·.frame)) g₀ g' → Fr g' L h' m → News g' L h' news → Below A₀ base outer g' → KF.In g' → Top p loose mean mg mb g' → KtsDicts (outer.filterMap (·.frame)) g' →
      wpAny (model prog w) ((A₀.deeper (envX name scope L a cd cl)).mark (some (.ref e))) (execs (b2 :: su2) (envX name scope L a cd cl)) Q E { s' with heap := h' })
    (hk : scope.kind = .function := by rfl) (hx1 : (envX name scope L a cd cl).kindOf x1 = some .globalImplicit := by rfl) (hx2 : (envX name scope L a cd cl).kindOf x2 = some .globalImplicit := by rfl) (hd1 : (x1 == ("__debug__" : Str)) = false := by decide) (hd2 : (x2 == ("__debug__" : Str)) = false := by decide)
    (hE : PassesOwnAt (model prog w) ((A₀.deeper (envX name scope L a cd cl)).mark (some (.ref e))) (A₀.deeper (envX name scope L a cd cl)) (envX name scope L a cd cl) E := by passes_own) :
    wpAny (model prog w) (A₀.deeper (envX name scope L a cd cl)) (noteFrame (.ref e) (envX name scope L a cd cl))
      (fun _ s₂ => wpAny (model prog w) (A₀.deeper (envX name scope L a cd cl)) (setFlight (.ref e) none) (fun _ s₃ =>
        wpAny (model prog w) (A₀.deeper (envX name scope L a cd cl)) (handleBy (.ref e) (envX name scope L a cd cl) [.ExceptHandler (some (.Name x1 np1)) none (b1 :: su1) pos1, .ExceptHandler (some (.Name x2 np2)) none (b2 :: su2) pos2]) Q E s₃) E s₂) E s' := by
  obtain ⟨⟨B, hB, hBG, hl, hfl, hnew⟩, htup⟩ := R
  have hL : B.get? L = none := by
    obtain ⟨_, ⟨L', _, hf, hn', _⟩, _⟩ := hfl.2.2.1
    obtain rfl : L = L' := Option.some.inj hf
    exact hn'
  refine wpAny_looks_onW (Around.frames_deeper K.stack) rfl hfl fun h₄ hheld₄ hsm₄ => ?_
  refine wpAny_landsW hheld₄ fun h₅ hheld hsm₅' => ?_
  have hsm₅ := hsm.trans (hsm₄.trans hsm₅')
  refine exC1 (kts_ground (name := name) (scope := scope) (a := a) (cd := cd) K F hBG hheld.1 hsm₅) ?_; intro g₅ hR; refine anC3 hR ?_; clear hR; intro T₅ F₅ K₅
  have X₅ : KF.In g₅ := XB.keeps K₅.stays
  have P₅ : TopRead p loose mg mb g₅ := topRead_of (TB.keeps K₅.stays)
  obtain ⟨ob, hob, hobc⟩ := hheld.there
  by_cases h1 : C = C1
  · subst h1
    (with_reducible refine (?_ : (let lG : Prop := _; lG))); intro lG; obtain ⟨nm, q', N, bs, bm, hdct, sn, sub, ab, col, dd, j0, j1, j2, j3, j5, newId, hCl, hbase, _⟩ := kts_cls X₅ q1; k_unfold; clear lG
    refine wpAny_handleBy_cons (codeAny_handlers_test (nameX_K F₅ X₅ P₅ ex1 ?_ hk hx1 hd1)) (by intro q; cases q)
    refine wpAny_excMatches_sub_self (F₅.keep _ _ hCl) hob hobc hbase (codeAny_handlers_suite ?_)
    exact lands_ground (s' := s') (name := name) (scope := scope) (a := a) (cd := cd) (cl := cl) F K XB TB D T0 hBG hl hL hsm₅ hheld fun h' g' a1 a2 a3 a4 a5 a6 a7 => wpAny_passesOwnAt hE (k1 rfl h' g' a1 a2 a3 a4 a5 a6 a7)
  · have h2 : C = C2 := hC.resolve_left h1
    subst h2
    (with_reducible refine (?_ : (let lG : Prop := _; lG))); intro lG; obtain ⟨nm, q', N, bs, bm, hdct, sn, sub, ab, col, dd, j0, j1, j2, j3, j5, newId, hCl, hbase, _⟩ := kts_cls X₅ q1; k_unfold; clear lG
    (with_reducible refine (?_ : (let lG : Prop := _; lG))); intro lG; obtain ⟨nm', q'', N', bs', bm', hdct', sn', sub', ab', col', dd', i0, i1, i2, i3, i5, newId', hCl', hbase', hno⟩ := cls_at X₅ q2 qn; k_unfold; clear lG
    refine wpAny_handleBy_cons (codeAny_handlers_test (nameX_K F₅ X₅ P₅ ex1 ?_ hk hx1 hd1)) (by intro q; cases q)
    refine matches_not (F₅.keep _ _ hCl') (F₅.keep _ _ hCl) hob hobc hbase hno ?_
    refine wpAny_handleBy_cons (codeAny_handlers_test (nameX_K F₅ X₅ P₅ ex2 ?_ hk hx2 hd2)) (by intro q; cases q)
    refine wpAny_excMatches_sub_self (F₅.keep _ _ hCl') hob hobc hbase' (codeAny_handlers_suite ?_)
    exact lands_ground (s' := s') (name := name) (scope := scope) (a := a) (cd := cd) (cl := cl) F K XB TB D T0 hBG hl hL hsm₅ hheld fun h' g' a1 a2 a3 a4 a5 a6 a7 => wpAny_passesOwnAt hE (k2 rfl h' g' a1 a2 a3 a4 a5 a6 a7)
end
end

end
section
local macro_rules | `(tactic| k_ne) => `(tactic| k_extra "mapc;0")
theorem reset_right : True := by
  (w_top off)
  trivial
section
-- part right
structure CallT (w : World) (k : Nat) (f : Addr) (args : List Value) (D₀ : Led) (post : Value → Led → Prop) : Prop where
  run : ∀ {dp un : Nat} {gd : Option (List Code)} {cn : Str} {cs : Scope} {a : Addr} {ccd : Value} {cl : List (Str × Addr)} {A₀ : Around} {base h₀ : Heap} {L : Addr} {m : Str → Option Value} {s : Shared} {mean : ExcName → Option Value} {mg mb : Str → Option Value} {Q E : Value → Shared → Prop},
    Below A₀ base [] h₀ → (hd.heap_1 w.params).In base → Top vw lse mean mg mb base → Fr h₀ L s.heap m → (hd.heap_1 w.params).In h₀ → News h₀ L s.heap D₀ → Top vw lse mean mg mb h₀ → cs.kind = .function → dp + k < 690 → un + 30 * k < 9000 →
    (∀ v h' tk' D', Fr h₀ L h' m → News h₀ L h' D' → post v D' → Q v { s with heap := h', toks := tk' }) →
    wpAny (model PySem.Challenge.rw_pf0193_01.row.toRowW.prog w) (ktrTop dp un gd cn cs L a ccd cl []) (call (.ref f) args) Q E s
noncomputable def EPairs (w : World) (D : Led) : List Value → List (Str × T) → Prop
  | [], [] => True
  | v :: vs, p :: ps => (∃ x n t e, v = .ref x ∧ (x, tupObj #[.str p.1 t, e] n) ∈ D ∧ ElemIn w D e p.2) ∧ EPairs w D vs ps
  | _, _ => False
theorem EPairs.mono {w : World} {D D' : Led} (h : ∀ p ∈ D, p ∈ D') : ∀ {vs : List Value} {ws : List (Str × T)}, EPairs w D vs ws → EPairs w D' vs ws
  | [], [], _ => trivial
  | [], _ :: _, x => x.elim
  | _ :: _, [], x => x.elim
  | _ :: _, _ :: _, ⟨⟨x, n, t, e, e1, m, me⟩, r⟩ => ⟨⟨x, n, t, e, e1, h _ m, ElemIn.mono h me⟩, EPairs.mono h r⟩
theorem EPairs.snoc {w : World} {D : Led} {v : Value} {p : Str × T} : ∀ {vs : List Value} {ws : List (Str × T)}, EPairs w D vs ws → (∃ x n t e, v = .ref x ∧ (x, tupObj #[.str p.1 t, e] n) ∈ D ∧ ElemIn w D e p.2) → EPairs w D (vs ++ [v]) (ws ++ [p])
  | [], [], _, x => ⟨x, trivial⟩
  | [], _ :: _, h, _ => h.elim
  | _ :: _, [], h, _ => h.elim
  | _ :: _, _ :: _, h, x => ⟨h.1, EPairs.snoc h.2 x⟩
theorem EPairs.kvs {w : World} {D : Led} : ∀ {vs : List Value} {ws : List (Str × T)}, EPairs w D vs ws → ∃ kvs, IdsAre w (ElemIn w D) kvs ws ∧ vs.length = kvs.length ∧ ∀ (j : Nat) (v : Value), vs[j]? = some v → ∃ (k : Str) (x : Value) (t : Tok) (T : Addr) (n : Nat), kvs[j]? = some (k, x) ∧ v = Value.ref T ∧ (T, tupObj #[Value.str k t, x] n) ∈ D
  | [], [], _ => ⟨[], trivial, rfl, fun j v h => by simp at h⟩
  | [], _ :: _, h => h.elim
  | _ :: _, [], h => h.elim
  | v :: vs, (a, b) :: ws, ⟨⟨x, n, t, e, e1, m, me⟩, r⟩ => by
    refine exC1 (EPairs.kvs r) ?_; intro kvs hR; refine anC3 hR ?_; clear hR; intro h1 h2 h3
    refine ⟨(a, e) :: kvs, ⟨⟨rfl, me⟩, h1⟩, by rw [List.length_cons, List.length_cons, h2], fun j u hj => ?_⟩
    cases j with
    | zero =>
      cases hj
      exact exI5 a _ t x n ⟨rfl, e1, m⟩
    | succ j => exact h3 j u (by simpa using hj)
theorem IdsAre.keys {w : World} {R : Value → T → Prop} : ∀ {kvs : List (Str × Value)} {ids : List (Str × T)}, IdsAre w R kvs ids → kvs.map (·.1) = ids.map (·.1)
  | [], [], _ => rfl
  | [], _ :: _, h => h.elim
  | _ :: _, [], h => h.elim
  | _ :: _, _ :: _, h => by rw [List.map_cons, List.map_cons, h.1.1, IdsAre.keys h.2]
theorem IdsAre.len {w : World} {R : Value → T → Prop} : ∀ {kvs : List (Str × Value)} {ids : List (Str × T)}, IdsAre w R kvs ids → kvs.length = ids.length
  | [], [], _ => rfl
  | [], _ :: _, h => h.elim
  | _ :: _, [], h => h.elim
  | _ :: _, _ :: _, h => by rw [List.length_cons, List.length_cons, IdsAre.len h.2]
theorem IdsAre.get {w : World} {R : Value → T → Prop} : ∀ {kvs : List (Str × Value)} {ids : List (Str × T)} {i : Nat} {k : Str} {v : Value}, IdsAre w R kvs ids → kvs[i]? = Option.some (k, v) → ∃ t, ids[i]? = Option.some (k, t) ∧ R v t
  | [], _, _, _, _, _, h => by simp at h
  | _ :: _, [], _, _, _, h, _ => h.elim
  | p :: r, q :: z, 0, k, v, h, e => by
    cases e
    obtain ⟨a, b⟩ := q
    obtain ⟨⟨e1, h1⟩, _⟩ := h
    dsimp only at e1
    exact ⟨b, by rw [e1]; rfl, h1⟩
  | p :: r, q :: z, i + 1, k, v, h, e => by
    obtain ⟨t, h1, h2⟩ := IdsAre.get h.2 (i := i) (k := k) (v := v) (by simpa using e)
    exact ⟨t, by simpa using h1, h2⟩
section
variable {prog : Program} {w : World} {A : Around} {E : Value → Shared → Prop} {s : Shared} {h₀ : Heap} {L : Addr} {m : Str → Option Value} {env : Env} {all : Led}
theorem dict_pairs_E {D : Led} {l : Addr} {ys : List Value} {nl : Nat} {ids : List (Str × T)} {Q : Value → Shared → Prop}
    (F : Fr h₀ L s.heap m) (N : News h₀ L s.heap all) (hbig : h₀.NoLimit) (ml : (l, listOf ys.toArray nl) ∈ all) (hh : A.handled = none) (P : EPairs w D ys ids) (sub : ∀ p ∈ D, p ∈ all) (nd : (ids.map (·.1)).Nodup) (hsz : ids.length ≤ 100)
    (h : ∀ d h' tk o kvs, Fr h₀ L h' m → News h₀ L h' ((d, o) :: all) → (∀ p ∈ all, p.1 < d) → (d == sysModules) = false → o.IsDictOf (strKind prg w) kvs → IdsAre w (ElemIn w D) kvs ids → Q (.ref d) { s with heap := h', toks := tk }) :
    wpAny (model prg w) A (call (.type "dict") [.ref l]) Q E s := by
  refine exC1 (P.kvs) ?_; intro kvs hR; refine anC3 hR ?_; clear hR; intro h1 h2 h3
  refine dict_pairs_K (items := ys.toArray) F N hbig ml hh (by rw [List.size_toArray]; exact h2) (h1.keys ▸ nd) (by rw [h1.len]; exact hsz) (fun j v hj => ?_) fun d h' tk o a b c e f => ?_
  · refine exC5 (h3 j v (by simpa using hj)) ?_; intro k x t T n hR; refine anC3 hR ?_; clear hR; intro a1 a2 a3
    exact exI5 k x t T n ⟨a1, a2, sub _ a3⟩
  · exact h d h' tk o kvs a b c e f h1
end
theorem valueAt_idx : ∀ {kvs : List (Str × Value)} {i : Nat} {k : Str} {v : Value}, (kvs.map (·.1)).Nodup → kvs[i]? = some (k, v) → valueAt kvs k = some v := by
  intro kvs i k v nd h
  obtain ⟨hi, he⟩ := List.getElem?_eq_some_iff.mp h
  have hsp : kvs = kvs.take i ++ (k, v) :: kvs.drop (i + 1) := by rw [← he, ← List.drop_eq_getElem_cons hi, List.take_append_drop]
  unfold valueAt
  have hno : ∀ p ∈ kvs.take i, ¬ p.1 = k := fun p hp e => by
    have n2 := nd
    rw [hsp, List.map_append, List.map_cons, List.nodup_append] at n2
    exact n2.2.2 _ (List.mem_map_of_mem hp) _ (.head _) e
  rw [hsp, List.find?_append, List.find?_eq_none.mpr fun p hp => by simpa using hno p hp, List.find?_cons]
  simp
theorem off1_all {D : Addr} : ∀ {l : Led}, LCg.Off1 D l → ∀ p ∈ l, @Ne Nat p.1 D := by
  intro l
  induction l with
  | nil => intro _ p h; cases h
  | cons a r ih =>
    intro x p h
    unfold LCg.Off1 at x
    rcases List.mem_cons.mp h with rfl | h
    · exact x.1
    · exact ih x.2 p h
section
variable {w : World} {A : Around} {E : Value → Shared → Prop} {s : Shared} {h₀ : Heap} {L : Addr} {m : Str → Option Value} {env : Env}
theorem elem_src {elt : Expr} {x : Str} {scope : Scope} {cl : List (Str × Addr)} {ids : List (Str × T)} {kvs : List (Str × Value)} {d : Addr} {od : Obj} {all : Led} {Q : Value → Shared → Prop}
    (hh : A.handled = none) (F : Fr h₀ L s.heap m) (N : News h₀ L s.heap all) (hm : (d, od) ∈ all) (hd : od.IsDictOf (strKind prg w) kvs) (har : IdsAre w (TreeIn w all) kvs ids) (lo : (d == sysModules) = false) (hz : ids.length ≤ 16)
    (turn : ∀ {k : Str} {v : Value} {t : T} {tt : Tok} {ys : List Value} {tl : Led} {I : Addr} {oI : Obj} {C : Addr} {oC : Obj} {Dl : Addr} {m₂ : Str → Option Value} {h : Heap} {tk : Nat} {E' : Value → Shared → Prop} {QC : Value → Shared → Prop}, valueAt kvs k = some v → TreeIn w all v t → (k, t) ∈ ids → LCg.NsObj oC m₂ → m₂ x = some (.str k tt) → Fr h₀ L h m →
      News h₀ L h ((I, oI) :: (C, oC) :: (Dl, LCg.lst ys) :: (tl ++ all)) →
      (∀ y h' tk' tl', Fr h₀ L h' m → News h₀ L h' (tl' ++ ((I, oI) :: (C, oC) :: (Dl, LCg.lst ys) :: (tl ++ all))) → Fresh ((I, oI) :: (C, oC) :: (Dl, LCg.lst ys) :: (tl ++ all)) tl' → (∃ x n t' e, y = .ref x ∧ (x, tupObj #[.str k t', e] n) ∈ tl' ∧ ElemIn w tl' e t) → QC y { s with heap := h', toks := tk' }) →
      wpAny (model prg w) A (eval elt (compEnvC scope cl C env)) QC E' { s with heap := h, toks := tk })
    (fin : ∀ {ys : List Value} {tl : Led} {D : Addr} {h : Heap} {tk : Nat}, Fresh all tl → EPairs w tl ys ids → Fr h₀ L h m → News h₀ L h ((D, LCg.lst ys) :: (tl ++ all)) → (∀ p ∈ tl ++ all, @Ne Nat p.1 D) → Q (.ref D) { s with heap := h, toks := tk }) :
    SrcD prg w (strKind prg w) A h₀ L m env elt x scope cl (fun s₂ => LCg.FinE h₀ L m s₂ Q) (.ref d) s := by
  have hlen := har.len
  refine exI4 d od kvs all ⟨rfl, hh, F, N, hm, hd, lo, by rw [hlen]; exact Nat.le_trans hz (by decide), ?_⟩
  rintro s₂ ⟨g, rfl⟩
  refine compRest_ind (fun i ys news => ∃ tl, news = tl ++ all ∧ Fresh all tl ∧ EPairs w tl ys (ids.take i)) ?_ ?_ _ (Nat.zero_add _) ⟨[], rfl, fresh_nil, by rw [List.take_zero]; trivial⟩
  · rintro i v ys news I oI C oC D m₂ h tk E' hi ⟨tl, rfl, fr, ha⟩ ⟨key, val, hkv, hkey⟩ hC hx F' N' off
    obtain ⟨t, rfl⟩ := Value.isStrOf_shape hkey
    obtain ⟨tr, hit, htr⟩ := har.get hkv
    refine turn (valueAt_idx (isDictOf_nodup hd) hkv) htr (List.mem_of_getElem? hit) hC hx F' N' fun y h' tk' tl' F2 N2 fr' hy => ?_
    refine LCg.CompEnd.intro F2 N2 (tl' ++ (tl ++ all)) (fun p hp => ?_) (LCg.Off3.of fun p hp => ?_) ?_ ⟨tl' ++ tl, by rw [List.append_assoc], ?_, ?_⟩
    · simp only [List.mem_cons, List.mem_append] at hp ⊢
      grind
    · rcases List.mem_append.mp hp with hp | hp
      · exact ⟨Ne.symm (fr' p hp (I, oI) (.head _)), Ne.symm (fr' p hp (C, oC) (.tail _ (.head _))), Ne.symm (fr' p hp (D, LCg.lst ys) (.tail _ (.tail _ (.head _))))⟩
      · exact off.mem p hp
    · exact List.mem_append_right _ (List.mem_append_right _ hm)
    · exact fresh_app (fr'.sub fun p hp => .tail _ (.tail _ (.tail _ (List.mem_append_right _ hp)))) fr
    · rw [List.take_add_one, hit]
      refine (ha.mono fun p hp => List.mem_append_right _ hp).snoc ?_
      refine exC4 hy ?_; (try clear hy); intro x n t1 e hR; refine anC3 hR ?_; clear hR; intro e1 e2 e3
      exact ⟨x, n, t1, e, e1, List.mem_append_left _ e2, ElemIn.mono (fun p hp => List.mem_append_left _ hp) e3⟩
  · intro ys news hI9; refine exC1 hI9 ?_; (try clear hI9); intro tl hR; refine anC3 hR ?_; clear hR; intro hO1 fr ha; subst hO1
    intro D h tk F' N' o1
    have e : ids.take kvs.length = ids := by rw [hlen]; exact List.take_length
    rw [e] at ha
    exact fin fr ha F' N' (off1_all o1)
theorem check_src {ct elt : Expr} {x : Str} {scope : Scope} {cl : List (Str × Addr)} {ids : List (Str × T)} {kvs : List (Str × Value)} {d : Addr} {od : Obj} {all : Led} {Q : Value → Shared → Prop}
    (hh : A.handled = none) (F : Fr h₀ L s.heap m) (N : News h₀ L s.heap all) (hm : (d, od) ∈ all) (hd : od.IsDictOf (strKind prg w) kvs) (har : IdsAre w (TreeIn w all) kvs ids) (lo : (d == sysModules) = false) (hz : ids.length ≤ 16)
    (turn : ∀ {k : Str} {v : Value} {t : T} {tt : Tok} {tl : Led} {I : Addr} {oI : Obj} {C : Addr} {oC : Obj} {Dl : Addr} {m₂ : Str → Option Value} {h : Heap} {tk : Nat} {E' : Value → Shared → Prop} {QC : Value → Shared → Prop} {QN : Shared → Prop}, valueAt kvs k = some v → TreeIn w all v t → (k, t) ∈ ids → LCg.NsObj oC m₂ → m₂ x = some (.str k tt) → Fr h₀ L h m →
      News h₀ L h ((I, oI) :: (C, oC) :: (Dl, LCg.lst []) :: (tl ++ all)) →
      (∀ h' tk' tl', Fr h₀ L h' m → News h₀ L h' (tl' ++ ((I, oI) :: (C, oC) :: (Dl, LCg.lst []) :: (tl ++ all))) → Fresh ((I, oI) :: (C, oC) :: (Dl, LCg.lst []) :: (tl ++ all)) tl' → QN { s with heap := h', toks := tk' }) →
      wpAny (model prg w) A (isTrue ct (compEnvC scope cl C env) (eval ct (compEnvC scope cl C env))) (fun ok s' => if ok = true then wpAny (model prg w) A (eval elt (compEnvC scope cl C env)) QC E' s' else QN s') E' { s with heap := h, toks := tk })
    (fin : ∀ {tl : Led} {D : Addr} {h : Heap} {tk : Nat}, Fresh all tl → Fr h₀ L h m → News h₀ L h ((D, LCg.lst []) :: (tl ++ all)) → (∀ p ∈ tl ++ all, @Ne Nat p.1 D) → Q (.ref D) { s with heap := h, toks := tk }) :
    SrcDT prg w (strKind prg w) A h₀ L m env ct elt x scope cl (fun s₂ => LCg.FinE h₀ L m s₂ Q) (.ref d) s := by
  have hlen := har.len
  refine exI4 d od kvs all ⟨rfl, hh, F, N, hm, hd, lo, by rw [hlen]; exact Nat.le_trans hz (by decide), ?_⟩
  rintro s₂ ⟨g, rfl⟩
  refine compRestT_ind (fun i ys news => ∃ tl, news = tl ++ all ∧ Fresh all tl ∧ ys = []) ?_ ?_ _ (Nat.zero_add _) ⟨[], rfl, fresh_nil, rfl⟩
  · rintro i v ys news I oI C oC D m₂ h tk E' hi ⟨tl, rfl, fr, rfl⟩ ⟨key, val, hkv, hkey⟩ hC hx F' N' off ne
    obtain ⟨t, rfl⟩ := Value.isStrOf_shape hkey
    obtain ⟨tr, hit, htr⟩ := har.get hkv
    refine turn (QN := LCg.CompEnd h₀ L m { s with heap := h, toks := tk } I oI C oC D (LCg.lst []) (fun nw => (d, od) ∈ nw) (fun _ news' => ∃ tl, news' = tl ++ all ∧ Fresh all tl ∧ ([] : List Value) = []) Value.none) (valueAt_idx (isDictOf_nodup hd) hkv) htr (List.mem_of_getElem? hit) hC hx F' N' fun h' tk' tl' F2 N2 fr' => ?_
    refine LCg.CompEnd.intro F2 N2 (tl' ++ (tl ++ all)) (fun p hp => ?_) (LCg.Off3.of fun p hp => ?_) ?_ ⟨tl' ++ tl, by rw [List.append_assoc], ?_, rfl⟩
    · simp only [List.mem_cons, List.mem_append] at hp ⊢
      grind
    · rcases List.mem_append.mp hp with hp | hp
      · exact ⟨Ne.symm (fr' p hp (I, oI) (.head _)), Ne.symm (fr' p hp (C, oC) (.tail _ (.head _))), Ne.symm (fr' p hp (D, LCg.lst []) (.tail _ (.tail _ (.head _))))⟩
      · exact off.mem p hp
    · exact List.mem_append_right _ (List.mem_append_right _ hm)
    · exact fresh_app (fr'.sub fun p hp => .tail _ (.tail _ (.tail _ (List.mem_append_right _ hp)))) fr
  · intro ys news hI9; refine exC1 hI9 ?_; (try clear hI9); intro tl hR; refine anC3 hR ?_; clear hR; intro hO1 fr hO3; subst hO1; subst hO3
    intro D h tk F' N' o1
    exact fin fr F' N' (off1_all o1)
end
end

theorem reset_rwalk : True := by
  (w_top off)
  (k_with "b155" => first | ((with_reducible refine (?_ : wpAny _ _ (eval (Expr.ListComp _ _ _ _) _) _ _ _)); first | (with_reducible (k_extra "rwalk2")) | fail) | fail)
  (k_with "b156" => first | ((fail_if_success (with_reducible refine (?_ : wpAny _ _ _ _ _ _))); first | ((with_reducible (show SrcD ..)); first | (with_reducible (k_extra "rwalk10")) | fail) | fail) | fail)
  (k_with "b157" => first | ((with_reducible refine (?_ : wpAny _ _ (call (Value.ref _) _) _ _ _)); first | (with_reducible (k_extra "rwalk11")) | fail) | fail)
  (k_with "b158" => first | ((with_reducible refine (?_ : wpAny _ _ (compareOp CmpOp.NotEq (Value.ref _) (Value.ref _)) _ _ _)); first | (with_reducible (k_extra "rwalk8")) | fail) | fail)
  (k_with "b159" => first | ((with_reducible refine (?_ : wpAny _ _ (call (Value.type "dict") _) _ _ _)); first | (with_reducible (k_extra "rwalk13")) | fail) | fail)
  (k_with "b160" => first | ((with_reducible refine (?_ : wpAny _ _ (call (Value.ref _) _) _ _ _)); first | (with_reducible (k_extra "rwalk12")) | (with_reducible (k_extra "rwalk11")) | (with_reducible (k_extra "rwalk7")) | (with_reducible (k_extra "rwalk6")) | (with_reducible (k_extra "call:2")) | fail) | fail)
  (k_with "b161" => first | ((with_reducible refine (?_ : wpAny _ _ (exec (Stmt.Try _ _ _ _ _) _) _ _ _)); first | (with_reducible (k_extra "rwalk5")) | fail) | fail)
  (k_with "b162" => first | ((with_reducible refine (?_ : wpAny _ _ (eval (Expr.Dict _ _ _) _) _ _ _)); first | (with_reducible (k_extra "rwalk3")) | fail) | fail)
  (k_with "b163" => first | ((with_reducible refine (?_ : wpAny _ _ (eval (Expr.ListComp _ _ _ _) _) _ _ _)); first | (with_reducible (k_extra "rwalk1")) | fail) | fail)
  (k_with "b164" => first | ((with_reducible refine (?_ : wpAny _ _ (eval (Expr.Name _ _) _) _ _ _)); first | (with_reducible (k_extra "call:10")) | (with_reducible (k_extra "call:6")) | fail) | fail)
  (k_with "b165" => first | ((fail_if_success (with_reducible refine (?_ : wpAny _ _ _ _ _ _))); first | ((with_reducible (show SrcDT ..)); first | (with_reducible (k_extra "rwalk9")) | fail) | ((with_reducible refine (?_ : KdnMade ..)); first | (with_reducible (k_extra "rwalk4")) | fail) | ((with_reducible refine (?_ : (@ite _ _ (_) _ _))); first | (with_reducible (k_extra "call:3")) | fail) | fail) | fail)
  (k_with "b166" => first | ((with_reducible refine (?_ : wpAny _ _ (call (Value.ref _) _) _ _ _)); first | (with_reducible (k_extra "rwalk12")) | fail) | fail)
  trivial
section
-- part rwalk
noncomputable def PutOk (w : World) (ud idd : Addr) (most : Nat) (o : Obj) (D all : Led) (t' : T) (mm : Nat) (v : Value) (D' : Led) : Prop :=
  ∃ o' tl, D' = (ud, o') :: (tl ++ all) ∧ UsesOk o' idd most mm ∧ Fresh ((ud, o) :: all) tl ∧ ElemIn w (tl ++ D) v t'
theorem PutOk.elim {w : World} {ud idd : Addr} {most : Nat} {o : Obj} {D all : Led} {t' : T} {mm : Nat} {v : Value} {D' : Led} (h : PutOk w ud idd most o D all t' mm v D') : ∃ o' tl, D' = (ud, o') :: (tl ++ all) ∧ UsesOk o' idd most mm ∧ Fresh ((ud, o) :: all) tl ∧ ElemIn w (tl ++ D) v t' := h
theorem put_okC {w : World} {k : Nat} {f : Addr} {args : List Value} {D₀ Dk : Led} {ud idd : Addr} {most : Nat} {o : Obj} {D all : Led} {t' : T} {mm : Nat} {res : Res × Nat} (C : CallX w k f args D₀ Dk (PutPost w ud idd most o D all res) (PutBad res)) (e : res = (.ok t', mm)) : Call w k f args D₀ (PutOk w ud idd most o D all t' mm) := by
  subst e
  refine ⟨fun B F X N T hk hd hu ret => C.run B F X N T hk hd hu (fun v h' tk' D' F' N' p => ret v h' tk' D' F' N' ?_) fun _ C' _ _ _ _ _ _ _ _ b => ?_⟩
  · refine exC4 p ?_; (try clear p); intro t2 m2 o' tl hR; refine anC5 hR ?_; clear hR; intro e1 e2 e3 e4 e5
    cases e1
    exact exI2 o' tl ⟨e2, e3, e4, e5⟩
  · rcases b with ⟨_, h⟩ | ⟨_, h⟩ <;> cases h
theorem put_limC {w : World} {k : Nat} {f : Addr} {args : List Value} {D₀ Dk : Led} {ud idd : Addr} {most : Nat} {o : Obj} {D all : Led} {mm : Nat} {res : Res × Nat} (C : CallX w k f args D₀ Dk (PutPost w ud idd most o D all res) (PutBad res)) (e : res = (.limit, mm)) : CallX w k f args D₀ Dk (fun _ _ => False) (fun C => C = 75) := by
  subst e
  refine ⟨fun B F X N T hk hd hu ret exc => C.run B F X N T hk hd hu (fun v h' tk' D' F' N' p => ?_) fun ea C' t vs h' tk' G FG U R b => exc ea C' t vs h' tk' G FG U R ?_⟩
  · refine exC4 p ?_; (try clear p); intro t2 m2 o' tl hR; refine anC2 hR ?_; clear hR; intro e1 _
    cases e1
  · rcases b with ⟨h, _⟩ | ⟨_, h⟩
    · exact h
    · cases h
theorem put_sheC {w : World} {k : Nat} {f : Addr} {args : List Value} {D₀ Dk : Led} {ud idd : Addr} {most : Nat} {o : Obj} {D all : Led} {mm : Nat} {res : Res × Nat} (C : CallX w k f args D₀ Dk (PutPost w ud idd most o D all res) (PutBad res)) (e : res = (.sheet, mm)) : CallX w k f args D₀ Dk (fun _ _ => False) (fun C => C = 63) := by
  subst e
  refine ⟨fun B F X N T hk hd hu ret exc => C.run B F X N T hk hd hu (fun v h' tk' D' F' N' p => ?_) fun ea C' t vs h' tk' G FG U R b => exc ea C' t vs h' tk' G FG U R ?_⟩
  · refine exC4 p ?_; (try clear p); intro t2 m2 o' tl hR; refine anC2 hR ?_; clear hR; intro e1 _
    cases e1
  · rcases b with ⟨_, h⟩ | ⟨h, _⟩
    · cases h
    · exact h
theorem ListComp_DG {prog : Program} {w : World} {A : Around} {E : Value → Shared → Prop} {s : Shared} {h₀ : Heap} {L : Addr} {m : Str → Option Value} {env : Env} {K : Type} [DecidableEq K] {knd : KeyKind prog w K} {elt iter : Expr} {x : Str} {px : Pos} {scope : Scope} {cl : List (Str × Addr)} {pos : Pos} {Q : Value → Shared → Prop}
    (_F₀ : Fr h₀ L s.heap m) (hclos : closureFor scope env = pure cl) (hcell : ∀ y ∈ scope.names, y.2 ≠ .cell) (hkind : scope.kind = .function)
    (hnames : ∀ y ∈ scope.names, y.2 = .local → scope.names.lookup y.1 = some .local) (hx : scope.names.lookup x = some .local)
    (h : wpAny (model prog w) A (eval iter env) (SrcD prog w knd A h₀ L m env elt x scope cl (fun s₂ => LCg.FinE h₀ L m s₂ Q)) E s)
    (hs : ∀ x, foldedSetIterable iter env x = pure x := by intro _; rfl) :
    wpAny (model prog w) A (eval (.ListComp elt [⟨.Name x px, iter, [], 0⟩] scope pos) env) Q E s := ListComp_D' hclos hcell hkind hnames hx h hs
theorem lookT_of_mem {ids : List (Str × T)} {k : Str} {t : T} (nd : (ids.map (·.1)).Nodup) (h : (k, t) ∈ ids) : lookT ids k = some t := by
  unfold lookT
  induction ids with
  | nil => cases h
  | cons p r ih =>
    rw [List.map_cons, List.nodup_cons] at nd
    rw [List.find?_cons]
    rcases List.mem_cons.mp h with rfl | h
    · simp
    · have : ¬ p.1 = k := fun e => nd.1 (e ▸ List.mem_map_of_mem (f := (·.1)) h)
      simp only [this, decide_false]
      exact ih nd.2 h
theorem tree_ref {w : World} {D : Led} {v : Value} {t : T} (h : TreeIn w D v t) : ∃ x, v = .ref x := by
  cases t with
  | mk _ _ _ _ =>
    unfold TreeIn at h
    (with_reducible refine (?_ : (let lG : Prop := _; lG))); intro lG; obtain ⟨x, _, _, _, _, _, _, e, _⟩ := h; k_unfold; clear lG
    exact ⟨x, e⟩
noncomputable def ToPost (w : World) (all : Led) (t : T) (v' : Value) (D' : Led) : Prop := ∃ x tl, v' = .ref x ∧ D' = tl ++ all ∧ Fresh all tl ∧ TreeIn w tl (.ref x) t
theorem ToPost.elim {w : World} {all : Led} {t : T} {v' : Value} {D' : Led} (h : ToPost w all t v' D') : ∃ x tl, v' = .ref x ∧ D' = tl ++ all ∧ Fresh all tl ∧ TreeIn w tl (.ref x) t := h
theorem c_to {w : World} {t : T} {v : Value} {all : Led} (he : ElemIn w all v t) (hh : height t ≤ 28) (hs : SzT t) : Call w 188 334 [v] all (ToPost w all t) :=
  (toC_all 28 he hh hs).post fun v' D' => by
    intro hI9; refine exC1 hI9 ?_; (try clear hI9); intro tl hR; refine anC3 hR ?_; clear hR; intro e1 e2 e3
    obtain ⟨x, rfl⟩ := tree_ref e3
    exact exI2 x tl ⟨rfl, e1, e2, e3⟩
noncomputable abbrev usesO (idd : Addr) (most : Nat) (h1 h2 h3 : Int) (t1 t2 t3 t4 t5 : Tok) : Obj := dictOf [⟨h1, .str (S "ids") t1, .ref idd⟩, ⟨h2, .str (S "most") t2, .int (most : Int) t4⟩, ⟨h3, .str (S "made") t3, .int 0 t5⟩] 3
theorem put_28 {w : World} {ids : List (Str × T)} {most : Nat} (hI : IdsOk ids) {t : T} {v : Value} {all : Led} {u ud idd : Addr} {h1 h2 h3 : Int} {t1 t2 t3 t4 t5 : Tok} (hx : ElemIn w all v t)
    (mu : (u, instObj 264 ud) ∈ all) (mi : IdsIn w (ElemIn w) all idd ids) (off : ∀ p ∈ all, @Ne Nat p.1 ud) (hr : rank t [] ≤ 28) (ok : OkT t) :
    CallX w 228 254 [.ref u, v] ((ud, usesO idd most h1 h2 h3 t1 t2 t3 t4 t5) :: all) all (PutPost w ud idd most (usesO idd most h1 h2 h3 t1 t2 t3 t4 t5) all all (putF ids most 28 t [] 0)) (PutBad (putF ids most 28 t [] 0)) := put_top (n := 27) hI ⟨h1, h2, h3, t1, t2, t3, t4, t5, rfl⟩ (fun _ h => h) hx mu mi off hr ok
theorem lput_28 {w : World} {ids : List (Str × T)} {most : Nat} (hI : IdsOk ids) (hI0 : lookT ids (S "") = none) {t : T} {v : Value} {all : Led} {bk nx idd : Addr} {o : Obj} {k : Nat} (hU : BookOk w o idd most 0) (hx : TreeIn w all v t)
    (mn : (nx, listOf #[] k) ∈ all) (mi : IdsIn w (TreeIn w) all idd ids) (off : ∀ p ∈ all, @Ne Nat p.1 bk) (hr : rank t [] ≤ 28) (ok : OkT t) :
    Call w 228 348 [.ref bk, v, .ref nx] ((bk, o) :: all) (LPost w bk idd most o all all (putF ids most 28 t [] 0)) := lputC hI hI0 28 hU (fun _ h => h) hx ⟨by decide, #[], k, mn, trivial⟩ mi off hr ok
theorem sub_consB {a l : Led} {x : Addr × Obj} (h : ∀ p ∈ a, p ∈ l) : ∀ p ∈ x :: a, p ∈ x :: l := fun p hp => (List.mem_cons.mp hp).elim (fun e => e ▸ .head _) fun hp => .tail _ (h p hp)
theorem news_sub {h₀ h : Heap} {L : Addr} {all all' : Led} (N : News h₀ L h all') (s : ∀ p ∈ all, p ∈ all') : News h₀ L h all := fun p hp => N p (s p hp)
theorem off_two {all : Led} {L : Nat} (h : ∀ p ∈ all, @LT.lt Nat _ p.1 L) : ∀ p ∈ all, @Ne Nat p.1 (L + 1 + 1) := fun p hp => Nat.ne_of_lt (Nat.lt_succ_of_lt (Nat.lt_succ_of_lt (h p hp)))
section
theorem kw_rwalkw75 : True := by
  (k_with "rwalk;75" => first | (refine' code_defCS ?k1_rwalkw75 ?k2_rwalkw75 ?k3_rwalkw75 ?k4_rwalkw75 ?k5_rwalkw75 ?kA_rwalkw75 ?kF_rwalkw75 ?kK_rwalkw75 ?k6_rwalkw75 ?k7_rwalkw75 ?k8_rwalkw75 ?k9_rwalkw75 ?kB_rwalkw75 ?kD_rwalkw75 ?_ ?c2_rwalkw75 ?c3_rwalkw75 ?c4_rwalkw75; (case kA_rwalkw75 => exact rfl); (case kF_rwalkw75 => exact rfl); (case kK_rwalkw75 => assumption); (case k1_rwalkw75 => k_asm); (case k2_rwalkw75 => k_asm); (case k3_rwalkw75 => k_asm); (case k4_rwalkw75 => k_asm); (case k5_rwalkw75 => k_asm); (case k6_rwalkw75 => k_is); (case k7_rwalkw75 => k_is); (case k8_rwalkw75 => ktr_room); (case k9_rwalkw75 => first | exact BindsTo.of_eq rfl | exact binds_K (by k_in) rfl (by k_is) rfl rfl rfl); (case kB_rwalkw75 => exact rfl); (case kD_rwalkw75 => decide +kernel); (case c2_rwalkw75 => exact rfl); (case c3_rwalkw75 => exact rfl); (case c4_rwalkw75 => exact rfl); k_whole; intro g' L' h' tk' cells' FG' F' N' Y' B' X' T' D' l1; (have lC9 := off_two l1); (try k_lt l1); k_cells Y'; (try simp only [List.cons_append, List.nil_append] at N'); (try dsimp only); (try k_fold)) | fail)
  trivial
local macro_rules | `(tactic| ktr_enter) => `(tactic| k_extra "rwalk;75")
theorem kw_rwalk1 : True := by
  (k_with "rwalk1" => first | (k_here; (with_reducible refine (?_ : wpAny _ _ (eval (Expr.ListComp _ [⟨_, _, [_], _⟩] _ _) _) _ _ _)); k_dflt (refine ListComp_DF (knd := PySem.strKind _ _) (by k_asm) (by with_unfolding_all rfl) (by decide) (by rfl) (by decide) (by rfl) ?_)) | fail)
  (k_with "rwalk2" => first | (k_here; (with_reducible refine (?_ : wpAny _ _ (eval (Expr.ListComp _ [⟨_, _, [], _⟩] _ _) _) _ _ _)); k_dflt (refine ListComp_DG (knd := PySem.strKind _ _) (by k_asm) (by with_unfolding_all rfl) (by decide) (by rfl) (by decide) (by rfl) ?_)) | fail)
  (k_with "rwalk;78" => first | (refine Nat.ne_of_gt ?_; (try dsimp only); omega) | (refine Nat.ne_of_lt ?_; (try dsimp only); omega) | fail)
  trivial
local macro_rules | `(tactic| k_ne) => `(tactic| k_extra "rwalk;78")
theorem kw_rwalkw79 : True := by
  (k_with "rwalk;79" => first | (refine all_cons ?_ ?_; focus (k_ne); assumption) | fail)
  trivial
local macro_rules | `(tactic| k_all) => `(tactic| k_extra "rwalk;79")
theorem kw_rwalk3 : True := by
  (k_with "rwalk3" => first | (k_here; k_dflt (refine' kdn_str ?q_rwalk3 ?F_rwalk3 ?N_rwalk3 ?b_rwalk3 ?a_rwalk3 ?l_rwalk3 ?e_rwalk3 ?n_rwalk3 ?_; (case q_rwalk3 => rfl); (case F_rwalk3 => k_asm); (case N_rwalk3 => k_asm); (case b_rwalk3 => exact Top.nolimit (by k_asm)); (case a_rwalk3 => rfl); (case l_rwalk3 => rfl); (case e_rwalk3 => exact List.cons_ne_nil _ _); (case n_rwalk3 => exact Nat.le_of_ble_eq_true rfl)); intro d' h' o' F' N' l1 lo' hd'; (try k_lt l1)) | fail)
  (k_with "rwalk4" => first | (k_here; k_dflt (refine' kdn_made_str ?F_rwalk4 ?N_rwalk4 ?U_rwalk4 ?d_rwalk4 ?k_rwalk4 ?n_rwalk4 ?_; (case F_rwalk4 => k_asm); (case N_rwalk4 => k_asm); (case U_rwalk4 => exact UpdF.head (by ((repeat' (first | assumption | refine all_cons ?_ ?_ | refine all_app ?_ ?_ | (exact Nat.ne_of_gt (by assumption)) | (exact Nat.ne_of_lt (by assumption)) | (exact fun p hp => Nat.ne_of_lt (ltAll (by assumption) p hp)) | (refine' fresh_ne ?f_rwalk4 ?m_rwalk4; (case f_rwalk4 => assumption); (case m_rwalk4 => k_mem)) | (refine Nat.ne_of_gt ?_; dsimp only; omega) | (refine Nat.ne_of_lt ?_; dsimp only; omega)))))); (case d_rwalk4 => k_asm); (case k_rwalk4 => rfl); (case n_rwalk4 => exact of_decide_eq_true (by first | rfl | kernel_rfl!)); intro h' o' F' N' hd'); (try dsimp only at N')) | fail)
  (k_with "rwalk5" => first | (k_here; refine wpAny_Try_except ?_) | fail)
  (k_with "rwalk6" => first | (k_here; (with_reducible refine (?_ : wpAny _ _ (call (Value.ref 254) _) _ _ _)); (try ((fail_if_success (fail_if_success k_fold)); (refine fold1 ?_); intro qk)); k_dflt ((((refine' Call.use (put_okC (put_28 ?hI_rwalk6 ?hx_rwalk6 ?mu_rwalk6 ?mi_rwalk6 ?off_rwalk6 ?hr_rwalk6 ?ok_rwalk6) ?hres_rwalk6) ?k1_rwalk6 ?k2_rwalk6 ?k3_rwalk6 ?k4_rwalk6 ?k5_rwalk6 ?k6_rwalk6 ?kd_rwalk6 ?ku_rwalk6 (Cut.all ?kC_rwalk6) ?_; (case k1_rwalk6 => k_asm); (case k2_rwalk6 => k_asm); (case k3_rwalk6 => k_asm); (case k4_rwalk6 => k_asm); (case k5_rwalk6 => k_asm); (case k6_rwalk6 => first | exact rfl | assumption); (case kd_rwalk6 => ktr_room); (case ku_rwalk6 => ktr_units); (case kC_rwalk6 => (repeat' (first | exact Cut.here | refine' Cut.there ?_ | refine' Cut.app ?_)))))); (case hI_rwalk6 => assumption); (case hx_rwalk6 => (refine' ElemIn.mono ?s_rwalk6 ?h_rwalk6; (case h_rwalk6 => assumption); (case s_rwalk6 => ((repeat' (first | exact (fun _ h => h) | (exact fun _ h => List.mem_append_left _ h) | assumption | (refine sub_consB ?_) | refine sub_consI ?_ | refine sub_appI ?_)))))); (case mu_rwalk6 => k_mem); (case mi_rwalk6 => (refine' ⟨_, _, ?m1_rwalk6, ?m2_rwalk6, IdsAre.mono (fun _ _ z => ElemIn.mono ?m3_rwalk6 z) ?m4_rwalk6, ?m5_rwalk6⟩; (case m4_rwalk6 => assumption); (case m2_rwalk6 => assumption); (case m1_rwalk6 => k_mem); (case m3_rwalk6 => ((repeat' (first | exact (fun _ h => h) | (exact fun _ h => List.mem_append_left _ h) | assumption | (refine sub_consB ?_) | refine sub_consI ?_ | refine sub_appI ?_)))); (case m5_rwalk6 => assumption))); (case off_rwalk6 => ((repeat' (first | assumption | refine all_cons ?_ ?_ | refine all_app ?_ ?_ | (exact Nat.ne_of_gt (by assumption)) | (exact Nat.ne_of_lt (by assumption)) | (exact fun p hp => Nat.ne_of_lt (ltAll (by assumption) p hp)) | (refine' fresh_ne ?f_rwalk6 ?m_rwalk6; (case f_rwalk6 => assumption); (case m_rwalk6 => k_mem)) | (refine Nat.ne_of_gt ?_; dsimp only; omega) | (refine Nat.ne_of_lt ?_; dsimp only; omega))))); (case hr_rwalk6 => assumption); (case ok_rwalk6 => assumption); (case hres_rwalk6 => assumption); k_whole); (k_dflt (refine' ret_uok ?_)); intro v9 o9 tl9 h9 tk9 F9 N9 g09 g19 g29; (try k_sweep); (try dsimp only); (try k_fold)) | fail)
  (k_with "rwalk7" => first | (k_here; (with_reducible refine (?_ : wpAny _ _ (call (Value.ref 348) _) _ _ _)); (try ((fail_if_success (fail_if_success k_fold)); (refine fold1 ?_); intro qk)); k_dflt ((((refine' Call.use (l_ok (lput_28 ?hI_rwalk7 ?hI0_rwalk7 ?hU_rwalk7 ?hx_rwalk7 ?mn_rwalk7 ?mi_rwalk7 ?off_rwalk7 ?hr_rwalk7 ?ok_rwalk7) ?hres_rwalk7 (fun _ h => h)) ?k1_rwalk7 ?k2_rwalk7 ?k3_rwalk7 ?k4_rwalk7 ?k5_rwalk7 ?k6_rwalk7 ?kd_rwalk7 ?ku_rwalk7 (Cut.all ?kC_rwalk7) ?_; (case k1_rwalk7 => k_asm); (case k2_rwalk7 => k_asm); (case k3_rwalk7 => k_asm); (case k4_rwalk7 => k_asm); (case k5_rwalk7 => k_asm); (case k6_rwalk7 => first | exact rfl | assumption); (case kd_rwalk7 => ktr_room); (case ku_rwalk7 => ktr_units); (case kC_rwalk7 => (repeat' (first | exact Cut.here | refine' Cut.there ?_ | refine' Cut.app ?_)))))); (case hI_rwalk7 => assumption); (case hI0_rwalk7 => assumption); (case hU_rwalk7 => exact ⟨_, _, by assumption⟩); (case hx_rwalk7 => (refine' TreeIn.mono ?s_rwalk7 ?h_rwalk7; (case h_rwalk7 => assumption); (case s_rwalk7 => ((repeat' (first | exact (fun _ h => h) | (exact fun _ h => List.mem_append_left _ h) | assumption | (refine sub_consB ?_) | refine sub_consI ?_ | refine sub_appI ?_)))))); (case mn_rwalk7 => k_mem); (case mi_rwalk7 => (refine' idsT_mono ?h_rwalk7 ?s_rwalk7; (case h_rwalk7 => assumption); (case s_rwalk7 => ((repeat' (first | exact (fun _ h => h) | (exact fun _ h => List.mem_append_left _ h) | assumption | (refine sub_consB ?_) | refine sub_consI ?_ | refine sub_appI ?_)))))); (case off_rwalk7 => ((repeat' (first | assumption | refine all_cons ?_ ?_ | refine all_app ?_ ?_ | (exact Nat.ne_of_gt (by assumption)) | (exact Nat.ne_of_lt (by assumption)) | (exact fun p hp => Nat.ne_of_lt (ltAll (by assumption) p hp)) | (refine' fresh_ne ?f_rwalk7 ?m_rwalk7; (case f_rwalk7 => assumption); (case m_rwalk7 => k_mem)) | (refine Nat.ne_of_gt ?_; dsimp only; omega) | (refine Nat.ne_of_lt ?_; dsimp only; omega))))); (case hr_rwalk7 => assumption); (case ok_rwalk7 => assumption); (case hres_rwalk7 => assumption); k_whole); (k_dflt (refine' ret_lok ?_)); intro x9 tup9 o9 tl9 h9 tk9 F9 N9 g09 g19 g29 g39 g49; (try k_sweep); (try dsimp only); (try k_fold)) | fail)
  (k_with "rwalk8" => first | (k_here; k_dflt (refine' ne_tree (n := 27) ?N_rwalk8 ?hh_rwalk8 ?ha_rwalk8 ?hb_rwalk8 ?hu_rwalk8 ?_; (case N_rwalk8 => k_asm); (case ha_rwalk8 => (refine' TreeIn.mono ?s_rwalk8 ?h_rwalk8; (case h_rwalk8 => assumption); (case s_rwalk8 => ((repeat' (first | exact (fun _ h => h) | (exact fun _ h => List.mem_append_left _ h) | assumption | (refine sub_consB ?_) | refine sub_consI ?_ | refine sub_appI ?_)))))); (case hb_rwalk8 => (refine' TreeIn.mono ?s_rwalk8 ?h_rwalk8; (case h_rwalk8 => assumption); (case s_rwalk8 => ((repeat' (first | exact (fun _ h => h) | (exact fun _ h => List.mem_append_left _ h) | assumption | (refine sub_consB ?_) | refine sub_consI ?_ | refine sub_appI ?_)))))); (case hh_rwalk8 => assumption); (case hu_rwalk8 => ((try simp +zetaDelta only [units_in1, units_deeper, Around.mark_units, units_caller]); (try dsimp only [ktrTop]); first | exact room2 (by assumption) rfl rfl | ((try rw [show cLine = 9900 from rfl]); omega))); k_whole)) | fail)
  (k_with "rwalk9" => first | (refine Hold.intro ?_) | fail)
  (k_with "rwalk10" => first | (refine Hold.intro ?_) | fail)
  (k_with "rwalk11" => first | (k_here; (with_reducible refine (?_ : wpAny _ _ (call (Value.ref 329) _) _ _ _)); (try ((fail_if_success (fail_if_success k_fold)); (refine fold1 ?_); intro qk)); k_dflt (refine' Call.use (c_el ?ht_rwalk11 ?hh_rwalk11 ?ok_rwalk11) ?k1_rwalk11 ?k2_rwalk11 ?k3_rwalk11 ?k4_rwalk11 ?k5_rwalk11 ?k6_rwalk11 ?kd_rwalk11 ?ku_rwalk11 (fun _ h => h) ?_; (case k1_rwalk11 => k_asm); (case k2_rwalk11 => k_asm); (case k3_rwalk11 => k_asm); (case k4_rwalk11 => k_asm); (case k5_rwalk11 => k_asm); (case k6_rwalk11 => first | exact rfl | assumption); (case kd_rwalk11 => ktr_room); (case ku_rwalk11 => ktr_units); (case ht_rwalk11 => (refine' TreeIn.mono ?s_rwalk11 ?h_rwalk11; (case h_rwalk11 => assumption); (case s_rwalk11 => ((repeat' (first | exact (fun _ h => h) | (exact fun _ h => List.mem_append_left _ h) | assumption | (refine sub_consB ?_) | refine sub_consI ?_ | refine sub_appI ?_)))))); (case hh_rwalk11 => assumption); (case ok_rwalk11 => assumption); k_whole); (k_dflt (refine' ret_tl ?_)); intro v9 tl9 h9 tk9 F9 N9 g09 g19; (try k_sweep); (try dsimp only); (try k_fold)) | fail)
  (k_with "rwalk12" => first | (k_here; (with_reducible refine (?_ : wpAny _ _ (call (Value.ref 334) _) _ _ _)); (try ((fail_if_success (fail_if_success k_fold)); (refine fold1 ?_); intro qk)); k_dflt (refine' Call.use (c_to ?ht_rwalk12 ?hh_rwalk12 ?ok_rwalk12) ?k1_rwalk12 ?k2_rwalk12 ?k3_rwalk12 ?k4_rwalk12 ?k5_rwalk12 ?k6_rwalk12 ?kd_rwalk12 ?ku_rwalk12 (fun _ h => h) ?_; (case k1_rwalk12 => k_asm); (case k2_rwalk12 => k_asm); (case k3_rwalk12 => k_asm); (case k4_rwalk12 => k_asm); (case k5_rwalk12 => k_asm); (case k6_rwalk12 => first | exact rfl | assumption); (case kd_rwalk12 => ktr_room); (case ku_rwalk12 => ktr_units); (case ht_rwalk12 => (refine' ElemIn.mono ?s_rwalk12 ?h_rwalk12; (case h_rwalk12 => assumption); (case s_rwalk12 => ((repeat' (first | exact (fun _ h => h) | (exact fun _ h => List.mem_append_left _ h) | assumption | (refine sub_consB ?_) | refine sub_consI ?_ | refine sub_appI ?_)))))); (case hh_rwalk12 => assumption); (case ok_rwalk12 => assumption); k_whole); (k_dflt (refine' ret_to ?_)); intro x9 tl9 h9 tk9 F9 N9 g09 g19; (try k_sweep); (try dsimp only); (try k_fold)) | fail)
  (k_with "rwalk13" => first | (k_here; (with_reducible refine (?_ : wpAny _ _ (call (Value.type "dict") [Value.ref _]) _ _ _)); (rename EPairs _ _ _ _ => lP); k_dflt (refine' dict_pairs_E ?k1_rwalk13 ?k2_rwalk13 ?k6_rwalk13 ?k3_rwalk13 ?hh_rwalk13 lP ?sub_rwalk13 ?nd_rwalk13 ?k5_rwalk13 ?_; (case k1_rwalk13 => k_asm); (case k2_rwalk13 => k_asm); (case k6_rwalk13 => exact Top.nolimit (by k_asm)); (case k3_rwalk13 => exact List.Mem.head _); (case hh_rwalk13 => exact rfl); (case sub_rwalk13 => exact fun p hp => List.Mem.tail _ (List.mem_append_left _ hp)); (case nd_rwalk13 => assumption); (case k5_rwalk13 => omega)); intro d9' h9' tk9' o9' kv9' F' N' l1 lo9' hd9' hi9'; (try k_lt l1); (try k_sweep)) | fail)
  trivial
theorem right_ok {t' : T} (hth : height t' ≤ 28) (hts : SzT t') {w : World} {ids : List (Str × T)} {most : Nat} (hI : IdsOk ids) (hI0 : lookT ids (S "") = none) (hz : ids.length ≤ 16) {t : T} {v : Value} {all : Led} {idd : Addr} {tk : Tok} (mi : IdsIn w (TreeIn w) all idd ids) (ht : TreeIn w all v t) (ok : OkT t) (hh : height t ≤ 3) (hr : rank t [] ≤ 28)
    {mm : Nat} (hres : putF ids most 28 t [] 0 = (.ok t', mm)) :
    CallT w 240 358 [.ref idd, v, .int (most : Int) tk] all (fun v' D' => v' = .bool true ∧ D' = all) := by
  refine exC2 (id mi) ?_; intro oi kvi hR; refine anC4 hR ?_; clear hR; intro mio hi har hio
  have nd : (ids.map (·.1)).Nodup := har.keys ▸ isDictOf_nodup hi
  constructor
  intro dp un gd cn cs a ccd cl A₀ base h₀ L m s mean mg mb Q E B XB TB F X N T hk hdp hun ret
  skip
  refine wpAny_call ?_
  k_dflt ktr_enter
  (repeat' (first | k_extra "sa" | k_extra "b155" | k_extra "b14" | k_extra "b156" | k_extra "sz"))
  unfold Hold
  refine' elem_src (ids := ids) rfl ?zF ?zN ?zm hi ?zr hio hz ?zt ?zf
  case zF => k_asm
  case zN => k_asm
  case zm => k_mem
  case zr => exact har.mono fun _ _ z => TreeIn.mono (by ((repeat' (first | exact (fun _ h => h) | (exact fun _ h => List.mem_append_left _ h) | assumption | (refine sub_consB ?_) | refine sub_consI ?_ | refine sub_appI ?_)))) z
  case zt =>
    intro k v' t1 tt ys tl I oI C oC Dl m₂ h tk1 E' QC hv htr hmem hC hx F3 N3 hq
    have b1 : height t1 ≤ 3 := Nat.le_trans (hI _ hmem).2.1 (by decide)
    have b2 : OkT t1 := (hI _ hmem).1
    (repeat' (first | k_extra "sa" | k_extra "b157" | k_extra "b102" | k_extra "sz"))
    exact hq _ _ _ (_ :: _) (by k_asm) (by assumption) (by ktr_rel) ⟨_, _, _, _, rfl, .head _, ElemIn.mono (fun p hp => .tail _ hp) (by assumption)⟩
  case zf =>
    intro ys tl Dl h tk1 fr hP F3 N3 offD
    (repeat' (first | k_extra "sa" | k_extra "b158" | k_extra "b159" | k_extra "b160" | k_extra "b161" | k_extra "b162" | k_extra "b163" | k_extra "b5" | k_extra "b164" | k_extra "b2" | k_extra "b165" | k_extra "sz"))
    unfold Hold
    (rename IdsAre _ (ElemIn _ _) _ _ => harh)
    refine' check_src (ids := ids) rfl ?yF ?yN ?ym hi ?yr hio hz ?yt ?yf
    case yF => k_asm
    case yN => k_asm
    case ym => k_mem
    case yr => exact har.mono fun _ _ z => TreeIn.mono (by ((repeat' (first | exact (fun _ h => h) | (exact fun _ h => List.mem_append_left _ h) | assumption | (refine sub_consB ?_) | refine sub_consI ?_ | refine sub_appI ?_)))) z
    case yt =>
      intro k v' t1 tt tl I oI C oC Dl m₂ h tk1 E' QC QN hv htr hmem hC hx F4 N4 hq
      obtain ⟨y, rfl⟩ := tree_ref htr
      obtain ⟨ve, hve, hel⟩ := harh.some (lookT_of_mem nd hmem)
      have b1 : height t1 ≤ 28 := Nat.le_trans (hI _ hmem).2.1 (by decide)
      have b2 : SzT t1 := szT_of (hI _ hmem).1
      (repeat' (first | k_extra "sa" | k_extra "b158" | k_extra "b166" | k_extra "b102" | k_extra "b24" | k_extra "sz"))
      exact hq _ _ _ (by k_asm) (by assumption) (by assumption)
    case yf =>
      intro tl D1 h tk1 fr1 F4 N4 offD1
      k_steps
      exact ret _ _ _ all (by k_asm) (news_sub (by assumption) (by ((repeat' (first | exact (fun _ h => h) | (exact fun _ h => List.mem_append_left _ h) | assumption | (refine sub_consB ?_) | refine sub_consI ?_ | refine sub_appI ?_))))) ⟨rfl, rfl⟩
end
end

theorem reset_rexc : True := by
  (w_top off)
  (k_with "b167" => first | ((with_reducible refine (?_ : wpAny _ _ (eval (Expr.ListComp _ _ _ _) _) _ _ _)); first | (with_reducible (k_extra "rexc2")) | fail) | fail)
  (k_with "b168" => first | ((fail_if_success (with_reducible refine (?_ : wpAny _ _ _ _ _ _))); first | ((with_reducible (show SrcD ..)); first | (with_reducible (k_extra "rexc10")) | fail) | fail) | fail)
  (k_with "b169" => first | ((with_reducible refine (?_ : wpAny _ _ (call (Value.ref _) _) _ _ _)); first | (with_reducible (k_extra "rexc11")) | fail) | fail)
  (k_with "b170" => first | ((with_reducible refine (?_ : wpAny _ _ (call (Value.ref _) _) _ _ _)); first | (with_reducible (k_extra "rexc16")) | (with_reducible (k_extra "rexc15")) | (with_reducible (k_extra "rexc11")) | (with_reducible (k_extra "call:2")) | fail) | fail)
  (k_with "b171" => first | ((with_reducible refine (?_ : wpAny _ _ (noteFrame (Value.ref _) _) _ _ _)); first | (with_reducible (k_extra "rexc14")) | fail) | fail)
  (k_with "b172" => first | ((with_reducible refine (?_ : wpAny _ _ (call (Value.type "dict") _) _ _ _)); first | (with_reducible (k_extra "rexc13")) | fail) | fail)
  (k_with "b173" => first | ((with_reducible refine (?_ : wpAny _ _ (exec (Stmt.Try _ _ _ _ _) _) _ _ _)); first | (with_reducible (k_extra "rexc5")) | fail) | fail)
  (k_with "b174" => first | ((with_reducible refine (?_ : wpAny _ _ (eval (Expr.Dict _ _ _) _) _ _ _)); first | (with_reducible (k_extra "rexc3")) | fail) | fail)
  (k_with "b175" => first | ((with_reducible refine (?_ : wpAny _ _ (eval (Expr.ListComp _ _ _ _) _) _ _ _)); first | (with_reducible (k_extra "rexc1")) | fail) | fail)
  (k_with "b176" => first | ((fail_if_success (with_reducible refine (?_ : wpAny _ _ _ _ _ _))); first | ((with_reducible (show SrcDT ..)); first | (with_reducible (k_extra "rexc9")) | fail) | ((with_reducible refine (?_ : KdnMade ..)); first | (with_reducible (k_extra "rexc4")) | fail) | ((with_reducible refine (?_ : (@ite _ _ (_) _ _))); first | (with_reducible (k_extra "call:3")) | fail) | fail) | fail)
  (k_with "b177" => first | ((with_reducible refine (?_ : wpAny _ _ (compareOp CmpOp.NotEq (Value.ref _) (Value.ref _)) _ _ _)); first | (with_reducible (k_extra "rexc8")) | fail) | fail)
  (k_with "b178" => first | ((with_reducible refine (?_ : wpAny _ _ (call (Value.ref _) _) _ _ _)); first | (with_reducible (k_extra "rexc12")) | fail) | fail)
  trivial
section
-- part rexc
section
theorem kw_rexcw8 : True := by
  (k_with "rexc;8" => first | (refine' code_defCS ?k1_rexcw8 ?k2_rexcw8 ?k3_rexcw8 ?k4_rexcw8 ?k5_rexcw8 ?kA_rexcw8 ?kF_rexcw8 ?kK_rexcw8 ?k6_rexcw8 ?k7_rexcw8 ?k8_rexcw8 ?k9_rexcw8 ?kB_rexcw8 ?kD_rexcw8 ?_ ?c2_rexcw8 ?c3_rexcw8 ?c4_rexcw8; (case kA_rexcw8 => exact rfl); (case kF_rexcw8 => exact rfl); (case kK_rexcw8 => assumption); (case k1_rexcw8 => k_asm); (case k2_rexcw8 => k_asm); (case k3_rexcw8 => k_asm); (case k4_rexcw8 => k_asm); (case k5_rexcw8 => k_asm); (case k6_rexcw8 => k_is); (case k7_rexcw8 => k_is); (case k8_rexcw8 => ktr_room); (case k9_rexcw8 => first | exact BindsTo.of_eq rfl | exact binds_K (by k_in) rfl (by k_is) rfl rfl rfl); (case kB_rexcw8 => exact rfl); (case kD_rexcw8 => decide +kernel); (case c2_rexcw8 => exact rfl); (case c3_rexcw8 => exact rfl); (case c4_rexcw8 => exact rfl); k_whole; intro g' L' h' tk' cells' FG' F' N' Y' B' X' T' D' l1; (have lC9 := off_two l1); (try k_lt l1); k_cells Y'; (try simp only [List.cons_append, List.nil_append] at N'); (try dsimp only); (try k_fold)) | fail)
  trivial
local macro_rules | `(tactic| ktr_enter) => `(tactic| k_extra "rexc;8")
theorem kw_rexc1 : True := by
  (k_with "rexc1" => first | (k_here; (with_reducible refine (?_ : wpAny _ _ (eval (Expr.ListComp _ [⟨_, _, [_], _⟩] _ _) _) _ _ _)); k_dflt (refine ListComp_DF (knd := PySem.strKind _ _) (by k_asm) (by with_unfolding_all rfl) (by decide) (by rfl) (by decide) (by rfl) ?_)) | fail)
  (k_with "rexc2" => first | (k_here; (with_reducible refine (?_ : wpAny _ _ (eval (Expr.ListComp _ [⟨_, _, [], _⟩] _ _) _) _ _ _)); k_dflt (refine ListComp_DG (knd := PySem.strKind _ _) (by k_asm) (by with_unfolding_all rfl) (by decide) (by rfl) (by decide) (by rfl) ?_)) | fail)
  (k_with "rexc;11" => first | (refine Nat.ne_of_gt ?_; (try dsimp only); omega) | (refine Nat.ne_of_lt ?_; (try dsimp only); omega) | fail)
  trivial
local macro_rules | `(tactic| k_ne) => `(tactic| k_extra "rexc;11")
theorem kw_rexcw12 : True := by
  (k_with "rexc;12" => first | (refine all_cons ?_ ?_; focus (k_ne); assumption) | fail)
  trivial
local macro_rules | `(tactic| k_all) => `(tactic| k_extra "rexc;12")
theorem kw_rexc3 : True := by
  (k_with "rexc3" => first | (k_here; k_dflt (refine' kdn_str ?q_rexc3 ?F_rexc3 ?N_rexc3 ?b_rexc3 ?a_rexc3 ?l_rexc3 ?e_rexc3 ?n_rexc3 ?_; (case q_rexc3 => rfl); (case F_rexc3 => k_asm); (case N_rexc3 => k_asm); (case b_rexc3 => exact Top.nolimit (by k_asm)); (case a_rexc3 => rfl); (case l_rexc3 => rfl); (case e_rexc3 => exact List.cons_ne_nil _ _); (case n_rexc3 => exact Nat.le_of_ble_eq_true rfl)); intro d' h' o' F' N' l1 lo' hd'; (try k_lt l1)) | fail)
  (k_with "rexc4" => first | (k_here; k_dflt (refine' kdn_made_str ?F_rexc4 ?N_rexc4 ?U_rexc4 ?d_rexc4 ?k_rexc4 ?n_rexc4 ?_; (case F_rexc4 => k_asm); (case N_rexc4 => k_asm); (case U_rexc4 => exact UpdF.head (by ((repeat' (first | assumption | refine all_cons ?_ ?_ | refine all_app ?_ ?_ | (exact Nat.ne_of_gt (by assumption)) | (exact Nat.ne_of_lt (by assumption)) | (exact fun p hp => Nat.ne_of_lt (ltAll (by assumption) p hp)) | (refine' fresh_ne ?f_rexc4 ?m_rexc4; (case f_rexc4 => assumption); (case m_rexc4 => k_mem)) | (refine Nat.ne_of_gt ?_; dsimp only; omega) | (refine Nat.ne_of_lt ?_; dsimp only; omega)))))); (case d_rexc4 => k_asm); (case k_rexc4 => rfl); (case n_rexc4 => exact of_decide_eq_true (by first | rfl | kernel_rfl!)); intro h' o' F' N' hd'); (try dsimp only at N')) | fail)
  (k_with "rexc5" => first | (k_here; refine wpAny_Try_except ?_) | fail)
  (k_with "rexc8" => first | (k_here; k_dflt (refine' ne_tree (n := 27) ?N_rexc8 ?hh_rexc8 ?ha_rexc8 ?hb_rexc8 ?hu_rexc8 ?_; (case N_rexc8 => k_asm); (case ha_rexc8 => (refine' TreeIn.mono ?s_rexc8 ?h_rexc8; (case h_rexc8 => assumption); (case s_rexc8 => ((repeat' (first | exact (fun _ h => h) | (exact fun _ h => List.mem_append_left _ h) | assumption | (refine sub_consB ?_) | refine sub_consI ?_ | refine sub_appI ?_)))))); (case hb_rexc8 => (refine' TreeIn.mono ?s_rexc8 ?h_rexc8; (case h_rexc8 => assumption); (case s_rexc8 => ((repeat' (first | exact (fun _ h => h) | (exact fun _ h => List.mem_append_left _ h) | assumption | (refine sub_consB ?_) | refine sub_consI ?_ | refine sub_appI ?_)))))); (case hh_rexc8 => assumption); (case hu_rexc8 => ((try simp +zetaDelta only [units_in1, units_deeper, Around.mark_units, units_caller]); (try dsimp only [ktrTop]); first | exact room2 (by assumption) rfl rfl | ((try rw [show cLine = 9900 from rfl]); omega))); k_whole)) | fail)
  (k_with "rexc9" => first | (refine Hold.intro ?_) | fail)
  (k_with "rexc10" => first | (refine Hold.intro ?_) | fail)
  (k_with "rexc11" => first | (k_here; (with_reducible refine (?_ : wpAny _ _ (call (Value.ref 329) _) _ _ _)); (try ((fail_if_success (fail_if_success k_fold)); (refine fold1 ?_); intro qk)); k_dflt (refine' Call.use (c_el ?ht_rexc11 ?hh_rexc11 ?ok_rexc11) ?k1_rexc11 ?k2_rexc11 ?k3_rexc11 ?k4_rexc11 ?k5_rexc11 ?k6_rexc11 ?kd_rexc11 ?ku_rexc11 (fun _ h => h) ?_; (case k1_rexc11 => k_asm); (case k2_rexc11 => k_asm); (case k3_rexc11 => k_asm); (case k4_rexc11 => k_asm); (case k5_rexc11 => k_asm); (case k6_rexc11 => first | exact rfl | assumption); (case kd_rexc11 => ktr_room); (case ku_rexc11 => ktr_units); (case ht_rexc11 => (refine' TreeIn.mono ?s_rexc11 ?h_rexc11; (case h_rexc11 => assumption); (case s_rexc11 => ((repeat' (first | exact (fun _ h => h) | (exact fun _ h => List.mem_append_left _ h) | assumption | (refine sub_consB ?_) | refine sub_consI ?_ | refine sub_appI ?_)))))); (case hh_rexc11 => assumption); (case ok_rexc11 => assumption); k_whole); (k_dflt (refine' ret_tl ?_)); intro v9 tl9 h9 tk9 F9 N9 g09 g19; (try k_sweep); (try dsimp only); (try k_fold)) | fail)
  (k_with "rexc12" => first | (k_here; (with_reducible refine (?_ : wpAny _ _ (call (Value.ref 334) _) _ _ _)); (try ((fail_if_success (fail_if_success k_fold)); (refine fold1 ?_); intro qk)); k_dflt (refine' Call.use (c_to ?ht_rexc12 ?hh_rexc12 ?ok_rexc12) ?k1_rexc12 ?k2_rexc12 ?k3_rexc12 ?k4_rexc12 ?k5_rexc12 ?k6_rexc12 ?kd_rexc12 ?ku_rexc12 (fun _ h => h) ?_; (case k1_rexc12 => k_asm); (case k2_rexc12 => k_asm); (case k3_rexc12 => k_asm); (case k4_rexc12 => k_asm); (case k5_rexc12 => k_asm); (case k6_rexc12 => first | exact rfl | assumption); (case kd_rexc12 => ktr_room); (case ku_rexc12 => ktr_units); (case ht_rexc12 => (refine' ElemIn.mono ?s_rexc12 ?h_rexc12; (case h_rexc12 => assumption); (case s_rexc12 => ((repeat' (first | exact (fun _ h => h) | (exact fun _ h => List.mem_append_left _ h) | assumption | (refine sub_consB ?_) | refine sub_consI ?_ | refine sub_appI ?_)))))); (case hh_rexc12 => assumption); (case ok_rexc12 => assumption); k_whole); (k_dflt (refine' ret_to ?_)); intro x9 tl9 h9 tk9 F9 N9 g09 g19; (try k_sweep); (try dsimp only); (try k_fold)) | fail)
  (k_with "rexc13" => first | (k_here; (with_reducible refine (?_ : wpAny _ _ (call (Value.type "dict") [Value.ref _]) _ _ _)); (rename EPairs _ _ _ _ => lP); k_dflt (refine' dict_pairs_E ?k1_rexc13 ?k2_rexc13 ?k6_rexc13 ?k3_rexc13 ?hh_rexc13 lP ?sub_rexc13 ?nd_rexc13 ?k5_rexc13 ?_; (case k1_rexc13 => k_asm); (case k2_rexc13 => k_asm); (case k6_rexc13 => exact Top.nolimit (by k_asm)); (case k3_rexc13 => exact List.Mem.head _); (case hh_rexc13 => exact rfl); (case sub_rexc13 => exact fun p hp => List.Mem.tail _ (List.mem_append_left _ hp)); (case nd_rexc13 => assumption); (case k5_rexc13 => omega)); intro d9' h9' tk9' o9' kv9' F' N' l1 lo9' hd9' hi9'; (try k_lt l1); (try k_sweep)) | fail)
  (k_with "rexc14" => first | (k_here; k_dflt (refine' caught_both (C1 := 75) (C2 := 63) ?R_rexc14 ?F_rexc14 ?K_rexc14 ?U_rexc14 ?XB_rexc14 ?TB_rexc14 ?D_rexc14 ?T0_rexc14 ?ex1_rexc14 ?ex2_rexc14 ?q1_rexc14 ?q2_rexc14 ?qn_rexc14 ?hC_rexc14 ?k1_rexc14 ?k2_rexc14; (case R_rexc14 => assumption); (case F_rexc14 => assumption); (case K_rexc14 => assumption); (case U_rexc14 => assumption); (case XB_rexc14 => assumption); (case TB_rexc14 => assumption); (case D_rexc14 => assumption); (case T0_rexc14 => exact KtsTurn.refl); (case ex1_rexc14 => k_is); (case ex2_rexc14 => k_is); (case q1_rexc14 => kts_isx); (case q2_rexc14 => kts_isx); (case qn_rexc14 => kernel_rfl); (case hC_rexc14 => first | exact .inl rfl | exact .inr rfl); (first | (case k2_rexc14 => (intro e9; exact absurd e9 (by decide))) | (case k1_rexc14 => (intro e9; exact absurd e9 (by decide)))); k_whole); intro e9 h9 g9 T9 F9 N9 B9 X9 P9 D9; (try k_sweep); (try dsimp only)) | fail)
  (k_with "rexc15" => first | (k_here; (with_reducible refine (?_ : wpAny _ _ (call (Value.ref 254) _) _ _ _)); first | ((k_dflt ((((refine' CallX.use (put_limC (put_28 ?hI_rexc15 ?hx_rexc15 ?mu_rexc15 ?mi_rexc15 ?off_rexc15 ?hr_rexc15 ?ok_rexc15) ?hres_rexc15) ?k1_rexc15 ?k2_rexc15 ?k3_rexc15 ?k4_rexc15 ?k5_rexc15 ?k6_rexc15 ?kd_rexc15 ?ku_rexc15 (Cut.all ?kC_rexc15) (fun _ _ _ _ _ _ h => h.elim) ?_; (case k1_rexc15 => k_asm); (case k2_rexc15 => k_asm); (case k3_rexc15 => k_asm); (case k4_rexc15 => k_asm); (case k5_rexc15 => k_asm); (case k6_rexc15 => first | exact rfl | assumption); (case kd_rexc15 => ktr_room); (case ku_rexc15 => ktr_units); (case kC_rexc15 => (repeat' (first | exact Cut.here | refine' Cut.there ?_ | refine' Cut.app ?_)))))); (case hI_rexc15 => assumption); (case hx_rexc15 => (refine' ElemIn.mono ?s_rexc15 ?h_rexc15; (case h_rexc15 => assumption); (case s_rexc15 => ((repeat' (first | exact (fun _ h => h) | (exact fun _ h => List.mem_append_left _ h) | assumption | (refine sub_consB ?_) | refine sub_consI ?_ | refine sub_appI ?_)))))); (case mu_rexc15 => k_mem); (case mi_rexc15 => (refine' ⟨_, _, ?m1_rexc15, ?m2_rexc15, IdsAre.mono (fun _ _ z => ElemIn.mono ?m3_rexc15 z) ?m4_rexc15, ?m5_rexc15⟩; (case m4_rexc15 => assumption); (case m2_rexc15 => assumption); (case m1_rexc15 => k_mem); (case m3_rexc15 => ((repeat' (first | exact (fun _ h => h) | (exact fun _ h => List.mem_append_left _ h) | assumption | (refine sub_consB ?_) | refine sub_consI ?_ | refine sub_appI ?_)))); (case m5_rexc15 => assumption))); (case off_rexc15 => ((repeat' (first | assumption | refine all_cons ?_ ?_ | refine all_app ?_ ?_ | (exact Nat.ne_of_gt (by assumption)) | (exact Nat.ne_of_lt (by assumption)) | (exact fun p hp => Nat.ne_of_lt (ltAll (by assumption) p hp)) | (refine' fresh_ne ?f_rexc15 ?m_rexc15; (case f_rexc15 => assumption); (case m_rexc15 => k_mem)) | (refine Nat.ne_of_gt ?_; dsimp only; omega) | (refine Nat.ne_of_lt ?_; dsimp only; omega))))); (case hr_rexc15 => assumption); (case ok_rexc15 => assumption); (case hres_rexc15 => assumption); k_whole); intro ea9 C9 t9 vs9 h9 tk9 G9 F9 U9 R9 b9; subst b9; (try k_sweep); (try dsimp only); (try k_fold))) | ((k_dflt ((((refine' CallX.use (put_sheC (put_28 ?hI_rexc15 ?hx_rexc15 ?mu_rexc15 ?mi_rexc15 ?off_rexc15 ?hr_rexc15 ?ok_rexc15) ?hres_rexc15) ?k1_rexc15 ?k2_rexc15 ?k3_rexc15 ?k4_rexc15 ?k5_rexc15 ?k6_rexc15 ?kd_rexc15 ?ku_rexc15 (Cut.all ?kC_rexc15) (fun _ _ _ _ _ _ h => h.elim) ?_; (case k1_rexc15 => k_asm); (case k2_rexc15 => k_asm); (case k3_rexc15 => k_asm); (case k4_rexc15 => k_asm); (case k5_rexc15 => k_asm); (case k6_rexc15 => first | exact rfl | assumption); (case kd_rexc15 => ktr_room); (case ku_rexc15 => ktr_units); (case kC_rexc15 => (repeat' (first | exact Cut.here | refine' Cut.there ?_ | refine' Cut.app ?_)))))); (case hI_rexc15 => assumption); (case hx_rexc15 => (refine' ElemIn.mono ?s_rexc15 ?h_rexc15; (case h_rexc15 => assumption); (case s_rexc15 => ((repeat' (first | exact (fun _ h => h) | (exact fun _ h => List.mem_append_left _ h) | assumption | (refine sub_consB ?_) | refine sub_consI ?_ | refine sub_appI ?_)))))); (case mu_rexc15 => k_mem); (case mi_rexc15 => (refine' ⟨_, _, ?m1_rexc15, ?m2_rexc15, IdsAre.mono (fun _ _ z => ElemIn.mono ?m3_rexc15 z) ?m4_rexc15, ?m5_rexc15⟩; (case m4_rexc15 => assumption); (case m2_rexc15 => assumption); (case m1_rexc15 => k_mem); (case m3_rexc15 => ((repeat' (first | exact (fun _ h => h) | (exact fun _ h => List.mem_append_left _ h) | assumption | (refine sub_consB ?_) | refine sub_consI ?_ | refine sub_appI ?_)))); (case m5_rexc15 => assumption))); (case off_rexc15 => ((repeat' (first | assumption | refine all_cons ?_ ?_ | refine all_app ?_ ?_ | (exact Nat.ne_of_gt (by assumption)) | (exact Nat.ne_of_lt (by assumption)) | (exact fun p hp => Nat.ne_of_lt (ltAll (by assumption) p hp)) | (refine' fresh_ne ?f_rexc15 ?m_rexc15; (case f_rexc15 => assumption); (case m_rexc15 => k_mem)) | (refine Nat.ne_of_gt ?_; dsimp only; omega) | (refine Nat.ne_of_lt ?_; dsimp only; omega))))); (case hr_rexc15 => assumption); (case ok_rexc15 => assumption); (case hres_rexc15 => assumption); k_whole); intro ea9 C9 t9 vs9 h9 tk9 G9 F9 U9 R9 b9; subst b9; (try k_sweep); (try dsimp only); (try k_fold)))) | fail)
  (k_with "rexc16" => first | (k_here; (with_reducible refine (?_ : wpAny _ _ (call (Value.ref 348) _) _ _ _)); first | (((try ((fail_if_success (fail_if_success k_fold)); (refine fold1 ?_); intro qk)); k_dflt ((((refine' Call.use (l_limit (lput_28 ?hI_rexc16 ?hI0_rexc16 ?hU_rexc16 ?hx_rexc16 ?mn_rexc16 ?mi_rexc16 ?off_rexc16 ?hr_rexc16 ?ok_rexc16) ?hres_rexc16) ?k1_rexc16 ?k2_rexc16 ?k3_rexc16 ?k4_rexc16 ?k5_rexc16 ?k6_rexc16 ?kd_rexc16 ?ku_rexc16 (Cut.all ?kC_rexc16) ?_; (case k1_rexc16 => k_asm); (case k2_rexc16 => k_asm); (case k3_rexc16 => k_asm); (case k4_rexc16 => k_asm); (case k5_rexc16 => k_asm); (case k6_rexc16 => first | exact rfl | assumption); (case kd_rexc16 => ktr_room); (case ku_rexc16 => ktr_units); (case kC_rexc16 => (repeat' (first | exact Cut.here | refine' Cut.there ?_ | refine' Cut.app ?_)))))); (case hI_rexc16 => assumption); (case hI0_rexc16 => assumption); (case hU_rexc16 => exact ⟨_, _, by assumption⟩); (case hx_rexc16 => (refine' TreeIn.mono ?s_rexc16 ?h_rexc16; (case h_rexc16 => assumption); (case s_rexc16 => ((repeat' (first | exact (fun _ h => h) | (exact fun _ h => List.mem_append_left _ h) | assumption | (refine sub_consB ?_) | refine sub_consI ?_ | refine sub_appI ?_)))))); (case mn_rexc16 => k_mem); (case mi_rexc16 => (refine' idsT_mono ?h_rexc16 ?s_rexc16; (case h_rexc16 => assumption); (case s_rexc16 => ((repeat' (first | exact (fun _ h => h) | (exact fun _ h => List.mem_append_left _ h) | assumption | (refine sub_consB ?_) | refine sub_consI ?_ | refine sub_appI ?_)))))); (case off_rexc16 => ((repeat' (first | assumption | refine all_cons ?_ ?_ | refine all_app ?_ ?_ | (exact Nat.ne_of_gt (by assumption)) | (exact Nat.ne_of_lt (by assumption)) | (exact fun p hp => Nat.ne_of_lt (ltAll (by assumption) p hp)) | (refine' fresh_ne ?f_rexc16 ?m_rexc16; (case f_rexc16 => assumption); (case m_rexc16 => k_mem)) | (refine Nat.ne_of_gt ?_; dsimp only; omega) | (refine Nat.ne_of_lt ?_; dsimp only; omega))))); (case hr_rexc16 => assumption); (case ok_rexc16 => assumption); (case hres_rexc16 => assumption); k_whole); (k_dflt (refine' ret_lstr ?_)); intro t9 o9 tl9 h9 tk9 F9 N9 g09 g19; (try k_sweep); (try dsimp only); (try k_fold))) | (((try ((fail_if_success (fail_if_success k_fold)); (refine fold1 ?_); intro qk)); k_dflt ((((refine' Call.use (l_sheet (lput_28 ?hI_rexc16 ?hI0_rexc16 ?hU_rexc16 ?hx_rexc16 ?mn_rexc16 ?mi_rexc16 ?off_rexc16 ?hr_rexc16 ?ok_rexc16) ?hres_rexc16) ?k1_rexc16 ?k2_rexc16 ?k3_rexc16 ?k4_rexc16 ?k5_rexc16 ?k6_rexc16 ?kd_rexc16 ?ku_rexc16 (Cut.all ?kC_rexc16) ?_; (case k1_rexc16 => k_asm); (case k2_rexc16 => k_asm); (case k3_rexc16 => k_asm); (case k4_rexc16 => k_asm); (case k5_rexc16 => k_asm); (case k6_rexc16 => first | exact rfl | assumption); (case kd_rexc16 => ktr_room); (case ku_rexc16 => ktr_units); (case kC_rexc16 => (repeat' (first | exact Cut.here | refine' Cut.there ?_ | refine' Cut.app ?_)))))); (case hI_rexc16 => assumption); (case hI0_rexc16 => assumption); (case hU_rexc16 => exact ⟨_, _, by assumption⟩); (case hx_rexc16 => (refine' TreeIn.mono ?s_rexc16 ?h_rexc16; (case h_rexc16 => assumption); (case s_rexc16 => ((repeat' (first | exact (fun _ h => h) | (exact fun _ h => List.mem_append_left _ h) | assumption | (refine sub_consB ?_) | refine sub_consI ?_ | refine sub_appI ?_)))))); (case mn_rexc16 => k_mem); (case mi_rexc16 => (refine' idsT_mono ?h_rexc16 ?s_rexc16; (case h_rexc16 => assumption); (case s_rexc16 => ((repeat' (first | exact (fun _ h => h) | (exact fun _ h => List.mem_append_left _ h) | assumption | (refine sub_consB ?_) | refine sub_consI ?_ | refine sub_appI ?_)))))); (case off_rexc16 => ((repeat' (first | assumption | refine all_cons ?_ ?_ | refine all_app ?_ ?_ | (exact Nat.ne_of_gt (by assumption)) | (exact Nat.ne_of_lt (by assumption)) | (exact fun p hp => Nat.ne_of_lt (ltAll (by assumption) p hp)) | (refine' fresh_ne ?f_rexc16 ?m_rexc16; (case f_rexc16 => assumption); (case m_rexc16 => k_mem)) | (refine Nat.ne_of_gt ?_; dsimp only; omega) | (refine Nat.ne_of_lt ?_; dsimp only; omega))))); (case hr_rexc16 => assumption); (case ok_rexc16 => assumption); (case hres_rexc16 => assumption); k_whole); (k_dflt (refine' ret_lstr ?_)); intro t9 o9 tl9 h9 tk9 F9 N9 g09 g19; (try k_sweep); (try dsimp only); (try k_fold)))) | fail)
  trivial
theorem right_limit {w : World} {ids : List (Str × T)} {most : Nat} (hI : IdsOk ids) (hI0 : lookT ids (S "") = none) (hz : ids.length ≤ 16) {t : T} {v : Value} {all : Led} {idd : Addr} {tk : Tok} (mi : IdsIn w (TreeIn w) all idd ids) (ht : TreeIn w all v t) (ok : OkT t) (hh : height t ≤ 3) (hr : rank t [] ≤ 28)
    {mm : Nat} (hres : putF ids most 28 t [] 0 = (.limit, mm)) :
    CallT w 240 358 [.ref idd, v, .int (most : Int) tk] all (fun v' D' => v' = .bool true ∧ D' = all) := by
  refine exC2 (id mi) ?_; intro oi kvi hR; refine anC4 hR ?_; clear hR; intro mio hi har hio
  have nd : (ids.map (·.1)).Nodup := har.keys ▸ isDictOf_nodup hi
  constructor
  intro dp un gd cn cs a ccd cl A₀ base h₀ L m s mean mg mb Q E B XB TB F X N T hk hdp hun ret
  skip
  refine wpAny_call ?_
  k_dflt ktr_enter
  (repeat' (first | k_extra "sa" | k_extra "b167" | k_extra "b14" | k_extra "b168" | k_extra "sz"))
  unfold Hold
  refine' elem_src (ids := ids) rfl ?zF ?zN ?zm hi ?zr hio hz ?zt ?zf
  case zF => k_asm
  case zN => k_asm
  case zm => k_mem
  case zr => exact har.mono fun _ _ z => TreeIn.mono (by ((repeat' (first | exact (fun _ h => h) | (exact fun _ h => List.mem_append_left _ h) | assumption | (refine sub_consB ?_) | refine sub_consI ?_ | refine sub_appI ?_)))) z
  case zt =>
    intro k v' t1 tt ys tl I oI C oC Dl m₂ h tk1 E' QC hv htr hmem hC hx F3 N3 hq
    have b1 : height t1 ≤ 3 := Nat.le_trans (hI _ hmem).2.1 (by decide)
    have b2 : OkT t1 := (hI _ hmem).1
    (repeat' (first | k_extra "sa" | k_extra "b169" | k_extra "b102" | k_extra "sz"))
    exact hq _ _ _ (_ :: _) (by k_asm) (by assumption) (by ktr_rel) ⟨_, _, _, _, rfl, .head _, ElemIn.mono (fun p hp => .tail _ hp) (by assumption)⟩
  case zf =>
    intro ys tl Dl h tk1 fr hP F3 N3 offD
    (repeat' (first | k_extra "sa" | k_extra "b170" | k_extra "b171" | k_extra "b172" | k_extra "b173" | k_extra "b174" | k_extra "b175" | k_extra "b38" | k_extra "b5" | k_extra "b164" | k_extra "b176" | k_extra "sz"))
    unfold Hold
    (rename IdsAre _ (ElemIn _ _) _ _ => harh)
    refine' check_src (ids := ids) rfl ?yF ?yN ?ym hi ?yr hio hz ?yt ?yf
    case yF => k_asm
    case yN => k_asm
    case ym => k_mem
    case yr => exact har.mono fun _ _ z => TreeIn.mono (by ((repeat' (first | exact (fun _ h => h) | (exact fun _ h => List.mem_append_left _ h) | assumption | (refine sub_consB ?_) | refine sub_consI ?_ | refine sub_appI ?_)))) z
    case yt =>
      intro k v' t1 tt tl I oI C oC Dl m₂ h tk1 E' QC QN hv htr hmem hC hx F4 N4 hq
      obtain ⟨y, rfl⟩ := tree_ref htr
      obtain ⟨ve, hve, hel⟩ := harh.some (lookT_of_mem nd hmem)
      have b1 : height t1 ≤ 28 := Nat.le_trans (hI _ hmem).2.1 (by decide)
      have b2 : SzT t1 := szT_of (hI _ hmem).1
      (repeat' (first | k_extra "sa" | k_extra "b177" | k_extra "b178" | k_extra "b102" | k_extra "b24" | k_extra "sz"))
      exact hq _ _ _ (by k_asm) (by assumption) (by assumption)
    case yf =>
      intro tl D1 h tk1 fr1 F4 N4 offD1
      k_steps
      exact ret _ _ _ all (by k_asm) (news_sub (by assumption) (by ((repeat' (first | exact (fun _ h => h) | (exact fun _ h => List.mem_append_left _ h) | assumption | (refine sub_consB ?_) | refine sub_consI ?_ | refine sub_appI ?_))))) ⟨rfl, rfl⟩
theorem right_sheet {w : World} {ids : List (Str × T)} {most : Nat} (hI : IdsOk ids) (hI0 : lookT ids (S "") = none) (hz : ids.length ≤ 16) {t : T} {v : Value} {all : Led} {idd : Addr} {tk : Tok} (mi : IdsIn w (TreeIn w) all idd ids) (ht : TreeIn w all v t) (ok : OkT t) (hh : height t ≤ 3) (hr : rank t [] ≤ 28)
    {mm : Nat} (hres : putF ids most 28 t [] 0 = (.sheet, mm)) :
    CallT w 240 358 [.ref idd, v, .int (most : Int) tk] all (fun v' D' => v' = .bool true ∧ D' = all) := by
  refine exC2 (id mi) ?_; intro oi kvi hR; refine anC4 hR ?_; clear hR; intro mio hi har hio
  have nd : (ids.map (·.1)).Nodup := har.keys ▸ isDictOf_nodup hi
  constructor
  intro dp un gd cn cs a ccd cl A₀ base h₀ L m s mean mg mb Q E B XB TB F X N T hk hdp hun ret
  skip
  refine wpAny_call ?_
  k_dflt ktr_enter
  (repeat' (first | k_extra "sa" | k_extra "b167" | k_extra "b14" | k_extra "b168" | k_extra "sz"))
  unfold Hold
  refine' elem_src (ids := ids) rfl ?zF ?zN ?zm hi ?zr hio hz ?zt ?zf
  case zF => k_asm
  case zN => k_asm
  case zm => k_mem
  case zr => exact har.mono fun _ _ z => TreeIn.mono (by ((repeat' (first | exact (fun _ h => h) | (exact fun _ h => List.mem_append_left _ h) | assumption | (refine sub_consB ?_) | refine sub_consI ?_ | refine sub_appI ?_)))) z
  case zt =>
    intro k v' t1 tt ys tl I oI C oC Dl m₂ h tk1 E' QC hv htr hmem hC hx F3 N3 hq
    have b1 : height t1 ≤ 3 := Nat.le_trans (hI _ hmem).2.1 (by decide)
    have b2 : OkT t1 := (hI _ hmem).1
    (repeat' (first | k_extra "sa" | k_extra "b169" | k_extra "b102" | k_extra "sz"))
    exact hq _ _ _ (_ :: _) (by k_asm) (by assumption) (by ktr_rel) ⟨_, _, _, _, rfl, .head _, ElemIn.mono (fun p hp => .tail _ hp) (by assumption)⟩
  case zf =>
    intro ys tl Dl h tk1 fr hP F3 N3 offD
    (repeat' (first | k_extra "sa" | k_extra "b170" | k_extra "b171" | k_extra "b172" | k_extra "b173" | k_extra "b174" | k_extra "b175" | k_extra "b38" | k_extra "b5" | k_extra "b164" | k_extra "b176" | k_extra "sz"))
    unfold Hold
    (rename IdsAre _ (ElemIn _ _) _ _ => harh)
    refine' check_src (ids := ids) rfl ?yF ?yN ?ym hi ?yr hio hz ?yt ?yf
    case yF => k_asm
    case yN => k_asm
    case ym => k_mem
    case yr => exact har.mono fun _ _ z => TreeIn.mono (by ((repeat' (first | exact (fun _ h => h) | (exact fun _ h => List.mem_append_left _ h) | assumption | (refine sub_consB ?_) | refine sub_consI ?_ | refine sub_appI ?_)))) z
    case yt =>
      intro k v' t1 tt tl I oI C oC Dl m₂ h tk1 E' QC QN hv htr hmem hC hx F4 N4 hq
      obtain ⟨y, rfl⟩ := tree_ref htr
      obtain ⟨ve, hve, hel⟩ := harh.some (lookT_of_mem nd hmem)
      have b1 : height t1 ≤ 28 := Nat.le_trans (hI _ hmem).2.1 (by decide)
      have b2 : SzT t1 := szT_of (hI _ hmem).1
      (repeat' (first | k_extra "sa" | k_extra "b177" | k_extra "b178" | k_extra "b102" | k_extra "b24" | k_extra "sz"))
      exact hq _ _ _ (by k_asm) (by assumption) (by assumption)
    case yf =>
      intro tl D1 h tk1 fr1 F4 N4 offD1
      k_steps
      exact ret _ _ _ all (by k_asm) (news_sub (by assumption) (by ((repeat' (first | exact (fun _ h => h) | (exact fun _ h => List.mem_append_left _ h) | assumption | (refine sub_consB ?_) | refine sub_consI ?_ | refine sub_appI ?_))))) ⟨rfl, rfl⟩
end
theorem c_right {w : World} {ids : List (Str × T)} {most : Nat} (hI : IdsOk ids) (hI0 : lookT ids (S "") = none) (hz : ids.length ≤ 16) {t : T} {v : Value} {all : Led} {idd : Addr} {tk : Tok} (mi : IdsIn w (TreeIn w) all idd ids) (ht : TreeIn w all v t) (ok : OkT t) (hh : height t ≤ 3) :
    CallT w 240 358 [.ref idd, v, .int (most : Int) tk] all (fun v' D' => v' = .bool true ∧ D' = all) := by
  have hr : rank t [] ≤ 28 := by
    unfold rank
    rw [List.length_nil]
    omega
  cases hres : putF ids most 28 t [] 0 with
  | mk res mm =>
    cases res with
    | ok t' =>
      obtain ⟨a, b⟩ := putF_sz hI 28 ok hres
      exact right_ok a b hI hI0 hz mi ht ok hh hr hres
    | limit => exact right_limit hI hI0 hz mi ht ok hh hr hres
    | sheet => exact right_sheet hI hI0 hz mi ht ok hh hr hres
end

theorem reset_luse : True := by
  (w_top off)
  (k_with "b179" => first | ((with_reducible refine (?_ : wpAny _ _ (exec (Stmt.If _ _ _ _) _) _ _ _)); first | (with_reducible (k_extra "luse2")) | fail) | fail)
  (k_with "b180" => first | ((with_reducible refine (?_ : wpAny _ _ (call (Value.ref _) _) _ _ _)); first | (with_reducible (k_extra "luse7")) | (with_reducible (k_extra "take:1")) | fail) | fail)
  (k_with "b181" => first | ((with_reducible refine (?_ : wpAny _ _ (exec (Stmt.For (Expr.Tuple _ _ _) _ _ [] _) _) _ _ _)); first | (with_reducible (k_extra "luse3")) | fail) | fail)
  (k_with "b182" => first | ((with_reducible refine (?_ : wpAny _ _ (pyIter (Value.ref _)) _ _ _)); first | (with_reducible (k_extra "luse4")) | fail) | fail)
  (k_with "b183" => first | ((with_reducible refine (?_ : wpAny _ _ (newTuple _) _ _ _)); first | (with_reducible (k_extra "luse1")) | fail) | fail)
  (k_with "b184" => first | ((fail_if_success (with_reducible refine (?_ : wpAny _ _ _ _ _ _))); first | ((with_reducible refine (?_ : ItemsRest ..)); first | (with_reducible (k_extra "luse5")) | fail) | fail) | fail)
  (k_with "b185" => first | ((with_reducible refine (?_ : wpAny _ _ (call (Value.ref _) _) _ _ _)); first | (with_reducible (k_extra "luse6")) | (with_reducible (k_extra "take:1")) | fail) | fail)
  trivial
section
-- part luse
theorem WsOk.put {ws : Ws} {k v : Str} (h : WsOk ws) (e : EntOk k v) : WsOk (wsPut ws k v) := by
  intro p hp
  unfold wsPut at hp
  split at hp
  · obtain ⟨q, hq, rfl⟩ := List.mem_map.mp hp
    by_cases hk : q.1 = k
    · rw [if_pos hk, hk]; exact e
    · rw [if_neg hk]; exact h q hq
  · rcases List.mem_append.mp hp with hp | hp
    · exact h p hp
    · rw [List.mem_singleton.mp hp]; exact e
theorem WsOk.nil : WsOk [] := fun p hp => nomatch hp
theorem ent_href (b : Bool) {s : Str} (h1 : Txt.slice s none (some 1) = S "#") (h2 : s.length ≤ 16) : EntOk (if b then S "href" else S "xlink:href") s := by
  cases b with
  | true => exact .inl ⟨rfl, _, h1, rfl, h2⟩
  | false => exact .inr (.inl ⟨rfl, _, h1, rfl, h2⟩)
theorem c_one2 {w : World} {src th : Addr} {o : Obj} {a b : Str} {ta tb : Tok} {k : Nat} {D : Led} (hS : SrcOk o) (off : ∀ p ∈ D, @Ne Nat p.1 src) (mt : (th, listOf #[.str a ta, .str b tb] k) ∈ D) :
    Call w 8 310 [.ref src, .ref th] ((src, o) :: D) fun v D' => ∃ c t o, v = .str (if c = true then a else b) t ∧ D' = (src, o) :: D ∧ SrcOk o :=
  (c_one hS off mt (Nat.succ_pos _) (by show 2 < 1000; decide)).post fun v D' => by
    intro hI9; refine exC1 hI9 ?_; (try clear hI9); intro o hR; refine anC3 hR ?_; clear hR; intro hO1 e2 e3; obtain ⟨i, h, e⟩ := hO1
    have hi : i = 0 ∨ i = 1 := by
      have : i < 2 := h
      omega
    rcases hi with rfl | rfl
    · exact exI3 true ta o ⟨e, e2, e3⟩
    · exact exI3 false tb o ⟨e, e2, e3⟩
theorem c_oneP {w : World} {src th : Addr} {o : Obj} {vs : Array Value} {k : Nat} {D : Led} {P : Str → Prop} (hS : SrcOk o) (off : ∀ p ∈ D, @Ne Nat p.1 src) (mt : (th, listOf vs k) ∈ D) (z0 : 0 < vs.size) (z1 : vs.size < 1000) (hP : ∀ (i : Nat) (h : i < vs.size), ∃ s t, vs[i] = Value.str s t ∧ P s) :
    Call w 8 310 [.ref src, .ref th] ((src, o) :: D) fun v D' => ∃ s t o, v = .str s t ∧ P s ∧ D' = (src, o) :: D ∧ SrcOk o :=
  (c_one hS off mt z0 z1).post fun v D' => by
    intro hI9; refine exC1 hI9 ?_; (try clear hI9); intro o hR; refine anC3 hR ?_; clear hR; intro hO1 e2 e3; obtain ⟨i, h, e⟩ := hO1
    refine exC2 (hP i h) ?_; intro s t hR; refine anC2 hR ?_; clear hR; intro e4 e5
    exact exI3 s t o ⟨e.trans e4, e5, e2, e3⟩
inductive MenuIn (D : Led) (v : Value) : Prop
  | mk (T : Addr) (name : Str) (tn : Tok) (n : Nat) (l : Addr) (vs : Array Value) (k : Nat) (q1 : v = .ref T) (q2 : (T, tupObj #[.str name tn, .ref l] n) ∈ D) (q3 : (l, listOf vs k) ∈ D) (q4 : 0 < vs.size) (q5 : vs.size < 1000) (q6 : ∀ (i : Nat) (h : i < vs.size), ∃ s t, vs[i] = Value.str s t ∧ EntOk name s)
noncomputable def PairIn (D : Led) (v : Value) : Prop := ∃ T name tn told tt n, v = .ref T ∧ (T, tupObj #[.str name tn, .str told tt] n) ∈ D ∧ EntOk name told
structure LuOff (src wd : Addr) (R : Led) (I : Addr) : Prop where
  s : ∀ p ∈ R, @Ne Nat p.1 src
  d : ∀ p ∈ R, @Ne Nat p.1 wd
  n : @Ne Nat wd src
  i : ∀ p ∈ R, @LT.lt Nat _ p.1 I
  is : @LT.lt Nat _ src I
  id : @LT.lt Nat _ wd I
inductive LuInv (w : World) (src wd : Addr) (R : Led) (P : Led → Value → Prop) (m₀ : Str → Option Value) (n1 n2 : Str) (k : Nat) (I : Addr) (xs : List Itm) (m : Str → Option Value) (news : Led) : Prop
  | mk (vr : List Value) (o od : Obj) (kvs : List (Str × Value)) (ws : Ws) (x1 x2 : Option Value) (q1 : LuOff src wd R I) (q2 : xs = vr.map Itm.val) (q3 : (∀ v ∈ vr, P R v)) (q4 : SrcOk o) (q5 : od.IsDictOf (strKind prg w) kvs) (q6 : WsAre kvs ws) (q7 : WsOk ws) (q8 : ws.length + vr.length ≤ k) (q9 : (src, o) ∈ news) (q10 : (wd, od) ∈ news) (q11 : (∀ p ∈ R, p ∈ news)) (q12 : m = (fun z => if z = n2 then x2 else if z = n1 then x1 else m₀ z))
theorem lu_init {w : World} {src wd I : Addr} {R R1 news : Led} {P : Led → Value → Prop} {m₀ : Str → Option Value} {n1 n2 : Str} {k : Nat} {vr : List Value} {o od : Obj} {kvs : List (Str × Value)} {ws : Ws} (hne : n1 ≠ n2) (C1 : Cut (src, o) news R1) (C2 : Cut (wd, od) R1 R) (hoff : LuOff src wd R I)
    (hP : ∀ v ∈ vr, P R v) (hS : SrcOk o) (hd : od.IsDictOf (strKind prg w) kvs) (hw : WsAre kvs ws) (hk : WsOk ws) (hz : ws.length + vr.length ≤ k) : LuInv w src wd R P m₀ n1 n2 k I (vr.map Itm.val) m₀ news := by
  refine ⟨vr, o, od, kvs, ws, m₀ n1, m₀ n2, hoff, rfl, hP, hS, hd, hw, hk, hz, C1.sub.1, C1.sub.2 _ C2.sub.1, fun p hp => C1.sub.2 _ (C2.sub.2 p hp), ?_⟩
  funext z
  by_cases h : z = n2
  · rw [if_pos h, h]
  · rw [if_neg h]
    by_cases h : z = n1
    · rw [if_pos h, h]
    · rw [if_neg h]
theorem lu_news {g h : Heap} {L src wd I : Addr} {o od oI : Obj} {R news : Led} (N : News g L h ((I, oI) :: news)) (h1 : (src, o) ∈ news) (h2 : (wd, od) ∈ news) (h3 : ∀ p ∈ R, p ∈ news) : News g L h ((I, oI) :: (src, o) :: (wd, od) :: R) := fun p hp => by
  rcases List.mem_cons.mp hp with rfl | hp
  · exact N _ (.head _)
  rcases List.mem_cons.mp hp with rfl | hp
  · exact N _ (.tail _ h1)
  rcases List.mem_cons.mp hp with rfl | hp
  · exact N _ (.tail _ h2)
  · exact N _ (.tail _ (h3 p hp))
theorem lu_news0 {g h : Heap} {L src wd : Addr} {o od : Obj} {R news : Led} (N : News g L h news) (h1 : (src, o) ∈ news) (h2 : (wd, od) ∈ news) (h3 : ∀ p ∈ R, p ∈ news) : News g L h ((src, o) :: (wd, od) :: R) := fun p hp => by
  rcases List.mem_cons.mp hp with rfl | hp
  · exact N _ h1
  rcases List.mem_cons.mp hp with rfl | hp
  · exact N _ h2
  · exact N _ (h3 p hp)
theorem lu_turn {w : World} {src wd I l L : Addr} {o od oI lo : Obj} {R all : Led} {P : Led → Value → Prop} {m₀ m' : Str → Option Value} {n1 n2 : Str} {k tk : Nat} {vr : List Value} {kvs : List (Str × Value)} {ws : Ws} {g h : Heap} {s : Shared}
    (F : Fr g L h m') (N : News g L h all) (C0 : Cut (I, oI) all ((src, o) :: (wd, od) :: R)) (hoff : LuOff src wd R I) (ml : (l, lo) ∈ R) (hP : ∀ v ∈ vr, P R v) (hS : SrcOk o) (hd : od.IsDictOf (strKind prg w) kvs) (hw : WsAre kvs ws) (hk : WsOk ws) (hz : ws.length + vr.length ≤ k)
    (hm : ∃ x1 x2, m' = (fun z => if z = n2 then x2 else if z = n1 then x1 else m₀ z)) :
    UnrEndW g L s [(I, oI)] (fun m' n' => SubL [(l, lo)] n' ∧ LuInv w src wd R P m₀ n1 n2 k I (vr.map Itm.val) m' n') { s with heap := h, toks := tk } := by
  obtain ⟨x1, x2, rfl⟩ := hm
  refine ⟨h, tk, _, (src, o) :: (wd, od) :: R, rfl, F, fun p hp => N p (C0.all p hp), fun p hp q hq => ?_, ⟨.tail _ (.tail _ ml), trivial⟩, vr, o, od, kvs, ws, x1, x2, hoff, rfl, hP, hS, hd, hw, hk, hz, .head _, .tail _ (.head _), fun p hp => .tail _ (.tail _ hp), rfl⟩
  rw [List.mem_singleton] at hq
  subst hq
  rcases List.mem_cons.mp hp with rfl | hp
  · exact Nat.ne_of_lt hoff.is
  rcases List.mem_cons.mp hp with rfl | hp
  · exact Nat.ne_of_lt hoff.id
  · exact Nat.ne_of_lt (hoff.i p hp)
theorem fold_list {es : List Expr} {pos : Pos} {env : Env} {x : Value} : foldedSetIterable (Expr.List es pos) env x = pure x := rfl
theorem sub_consU {a l : Led} {x : Addr × Obj} (h : ∀ p ∈ a, p ∈ l) : ∀ p ∈ a, p ∈ x :: l := fun p hp => .tail _ (h p hp)
theorem all_consL {b : Addr} {p : Addr × Obj} {l : Led} (h1 : @LT.lt Nat _ p.1 b) (h2 : ∀ q ∈ l, @LT.lt Nat _ q.1 b) : ∀ q ∈ p :: l, @LT.lt Nat _ q.1 b := List.forall_mem_cons.mpr ⟨h1, h2⟩
theorem news_subU {h₀ h : Heap} {L : Addr} {all all' : Led} (N : News h₀ L h all') (s : ∀ p ∈ all, p ∈ all') : News h₀ L h all := fun p hp => N p (s p hp)
theorem lu_sub {x y : Addr × Obj} {all R : Led} (h : ∀ p ∈ all, p ∈ R) : ∀ p ∈ x :: y :: all, p ∈ x :: y :: R := fun p hp => by
  rcases List.mem_cons.mp hp with rfl | hp
  · exact .head _
  rcases List.mem_cons.mp hp with rfl | hp
  · exact .tail _ (.head _)
  · exact .tail _ (.tail _ (h p hp))
theorem m_sub2 {x y z : Addr × Obj} {D : Led} : ∀ p ∈ x :: y :: D, p ∈ x :: z :: y :: D := fun p hp => by
  rcases List.mem_cons.mp hp with rfl | hp
  · exact .head _
  · exact .tail _ (.tail _ hp)
theorem lu_sub_off {d : Addr} {all R : Led} (h : ∀ p ∈ R, @Ne Nat p.1 d) (s : ∀ p ∈ all, p ∈ R) : ∀ p ∈ all, @Ne Nat p.1 d := fun p hp => h p (s p hp)
theorem lu_len {ws : Ws} {n k : Nat} {a b : Str} (h : List.length ws + (n + 1) ≤ k) : List.length (wsPut ws a b) + n ≤ k := by
  have := wsPut_len ws a b
  omega
theorem lu_map {n1 n2 : Str} {a1 a2 x1 x2 : Option Value} {m₀ : Str → Option Value} :
    ∃ y1 y2, (fun z => if z = n2 then a2 else if z = n1 then a1 else if z = n2 then x2 else if z = n1 then x1 else m₀ z) = fun z => if z = n2 then y2 else if z = n1 then y1 else m₀ z := by
  refine ⟨a1, a2, ?_⟩
  funext z
  by_cases h2 : z = n2
  · simp only [if_pos h2]
  · by_cases h1 : z = n1
    · simp only [if_neg h2, if_pos h1]
    · simp only [if_neg h2, if_neg h1]
theorem lu_end {w : World} {src wd I : Addr} {o od : Obj} {R : Led} {P : Led → Value → Prop} {m₀ m' : Str → Option Value} {n1 n2 : Str} {k : Nat} {vr : List Value} {kvs : List (Str × Value)} {ws : Ws}
    (hoff : LuOff src wd R I) (hP : ∀ v ∈ vr, P R v) (hS : SrcOk o) (hd : od.IsDictOf (strKind prg w) kvs) (hw : WsAre kvs ws) (hk : WsOk ws) (hz : List.length ws + vr.length ≤ k)
    (hm : ∃ x1 x2, m' = (fun z => if z = n2 then x2 else if z = n1 then x1 else m₀ z)) : LuInv w src wd R P m₀ n1 n2 k I (vr.map Itm.val) m' ((src, o) :: (wd, od) :: R) := by
  obtain ⟨x1, x2, rfl⟩ := hm
  exact ⟨vr, o, od, kvs, ws, x1, x2, hoff, rfl, hP, hS, hd, hw, hk, hz, .head _, .tail _ (.head _), fun p hp => .tail _ (.tail _ hp), rfl⟩
section
variable {w : World} {A : Around} {E : Value → Shared → Prop} {s : Shared} {env : Env} {h₀ : Heap} {target : Expr} {body : List Stmt} {Q : Flow → Shared → Prop} {src wd I : Addr} {R keep : Led} {P : Led → Value → Prop} {m₀ : Str → Option Value} {n1 n2 : Str} {k : Nat} {ty : String} {xs : List Itm} {m : Str → Option Value} {news : Led}
theorem lu_ind (hstep : ∀ (vr : List Value) (o od : Obj) (kvs : List (Str × Value)) (ws : Ws) (x1 x2 : Option Value) (v : Value) (h : Heap) (tk : Nat) (oI : Obj), LuOff src wd R I → (∀ v ∈ vr, P R v) → SrcOk o → od.IsDictOf (strKind prg w) kvs → WsAre kvs ws → WsOk ws → List.length ws + (vr.length + 1) ≤ k → P R v → oI.cls = .type ty → Fr h₀ env.locals h (fun z => if z = n2 then x2 else if z = n1 then x1 else m₀ z) → News h₀ env.locals h ((I, oI) :: (src, o) :: (wd, od) :: R) →
      wpAny (model prg w) A (assign target env v) (fun _ s₂ => wpAny (model prg w) A (execs body env) (UnrPostW h₀ env.locals { s with heap := h, toks := tk } [(I, oI)] (fun m' n' => SubL keep n' ∧ LuInv w src wd R P m₀ n1 n2 k I (vr.map Itm.val) m' n') Q) E s₂) E { s with heap := h, toks := tk })
    (hdone : ∀ (o od : Obj) (kvs : List (Str × Value)) (ws : Ws) (x1 x2 : Option Value) (h : Heap) (tk : Nat), LuOff src wd R I → SrcOk o → od.IsDictOf (strKind prg w) kvs → WsAre kvs ws → WsOk ws → List.length ws ≤ k → Fr h₀ env.locals h (fun z => if z = n2 then x2 else if z = n1 then x1 else m₀ z) → News h₀ env.locals h ((src, o) :: (wd, od) :: R) → Q .next { s with heap := h, toks := tk })
    (h : LuInv w src wd R P m₀ n1 n2 k I xs m news) : ItemsRest prg w A E h₀ env target body Q s [(I, ty)] keep xs m news := by
  refine items_ind1 (LuInv w src wd R P m₀ n1 n2 k) ?_ ?_ h
  · intro a r m1 news1 hI9 v h tk1 oI hv hcl F3 N3; (with_reducible refine (?_ : (let lG : Prop := _; lG))); intro lG; obtain ⟨vr, o', od', kvs, ws, x1, x2, hoff, hxs, hP, hS', hd, hw, hk', hz, q1, q2, q3, rfl⟩ := hI9; k_unfold; clear lG
    cases vr with
    | nil => cases hxs
    | cons v1 vr =>
    rw [List.map_cons, List.cons.injEq] at hxs
    obtain ⟨rfl, rfl⟩ := hxs
    cases hv
    exact hstep vr o' od' kvs ws x1 x2 v h tk1 oI hoff (fun v hv => hP v (.tail _ hv)) hS' hd hw hk' hz (hP v (.head _)) hcl F3 (lu_news N3 q1 q2 q3)
  · intro m1 news1 hI9 h tk1 F3 N3; (with_reducible refine (?_ : (let lG : Prop := _; lG))); intro lG; obtain ⟨vr, o', od', kvs, ws, x1, x2, hoff, hxs, hP, hS', hd, hw, hk', hz, q1, q2, q3, rfl⟩ := hI9; k_unfold; clear lG
    have hv0 : vr = [] := List.map_eq_nil_iff.mp hxs.symm
    subst hv0
    exact hdone o' od' kvs ws x1 x2 h tk1 hoff hS' hd hw hk' hz F3 (lu_news0 N3 q1 q2 q3)
end
theorem lu_len0 {n j k : Nat} (h : n + (j + 1) ≤ k) : n + j ≤ k := Nat.le_of_succ_le h
theorem lu_100 {n j k : Nat} (h : n + (j + 1) ≤ k) (b : Nat.ble k 100 = true) : n ≤ 100 := Nat.le_trans (Nat.le_trans (Nat.le_add_right _ _) h) (Nat.le_of_ble_eq_true b)
theorem menu_is {D : Led} {v : Value} {G : Value → Prop} (h : MenuIn D v) (k : ∀ T nm tn n l vs kl, (T, tupObj #[.str nm tn, .ref l] n) ∈ D → (l, listOf vs kl) ∈ D → 0 < vs.size → vs.size < 1000 → (∀ (i : Nat) (hi : i < vs.size), ∃ s u, vs[i] = Value.str s u ∧ EntOk nm s) → G (.ref T)) : G v := by
  (with_reducible refine (?_ : (let lG : Prop := _; lG))); intro lG; obtain ⟨T, nm, tn, n, l, vs, kl, rfl, a, b, c, d, e⟩ := h; k_unfold; clear lG
  exact k T nm tn n l vs kl a b c d e
theorem pair_is {D : Led} {v : Value} {G : Value → Prop} (h : PairIn D v) (k : ∀ T nm tn td tt n, (T, tupObj #[.str nm tn, .str td tt] n) ∈ D → EntOk nm td → G (.ref T)) : G v := by
  refine exC6 h ?_; (try clear h); intro T nm tn td tt n hR; refine anC3 hR ?_; clear hR; intro hO6 a b; subst hO6
  exact k T nm tn td tt n a b
theorem menu1 {k a : Str} {t : Tok} (h : EntOk k a) : ∀ (i : Nat) (hi : i < #[Value.str a t].size), ∃ s u, #[Value.str a t][i] = Value.str s u ∧ EntOk k s := fun i hi => by
  have : i = 0 := by have : i < 1 := hi; omega
  subst this
  exact ⟨a, t, rfl, h⟩
theorem menu2 {k a b : Str} {t u : Tok} (h : EntOk k a) (h2 : EntOk k b) : ∀ (i : Nat) (hi : i < #[Value.str a t, Value.str b u].size), ∃ s u', #[Value.str a t, Value.str b u][i] = Value.str s u' ∧ EntOk k s := fun i hi => by
  exact lt2_all (P := fun i => ∀ hi : i < #[Value.str a t, Value.str b u].size, ∃ s u', #[Value.str a t, Value.str b u][i] = Value.str s u' ∧ EntOk k s) (fun _ => ⟨a, t, rfl, h⟩) (fun _ => ⟨b, u, rfl, h2⟩) i hi hi
theorem menu3 {k a b c : Str} {t u v : Tok} (h : EntOk k a) (h2 : EntOk k b) (h3 : EntOk k c) : ∀ (i : Nat) (hi : i < #[Value.str a t, Value.str b u, Value.str c v].size), ∃ s u', #[Value.str a t, Value.str b u, Value.str c v][i] = Value.str s u' ∧ EntOk k s := fun i hi => by
  exact lt3_all (P := fun i => ∀ hi : i < #[Value.str a t, Value.str b u, Value.str c v].size, ∃ s u', #[Value.str a t, Value.str b u, Value.str c v][i] = Value.str s u' ∧ EntOk k s) (fun _ => ⟨a, t, rfl, h⟩) (fun _ => ⟨b, u, rfl, h2⟩) (fun _ => ⟨c, v, rfl, h3⟩) i hi hi
theorem ent_x3 : EntOk (S "x") (S "3") := .inr (.inr (.inl ⟨rfl, .inl rfl⟩))
theorem ent_xm : EntOk (S "x") (S "-2") := .inr (.inr (.inl ⟨rfl, .inr (.inl rfl)⟩))
theorem ent_x0 : EntOk (S "x") (S "0") := .inr (.inr (.inl ⟨rfl, .inr (.inr rfl)⟩))
theorem ent_y7 : EntOk (S "y") (S "7") := .inr (.inr (.inr (.inl ⟨rfl, .inl rfl⟩)))
theorem ent_y50 : EntOk (S "y") (S "50%") := .inr (.inr (.inr (.inl ⟨rfl, .inr rfl⟩)))
theorem ent_tr : EntOk (S "transform") (S "scale(2)") := .inr (.inr (.inr (.inr (.inl ⟨rfl, rfl⟩))))
theorem ent_wd (v : Str) : EntOk (S "width") v := .inr (.inr (.inr (.inr (.inr (.inl rfl)))))
theorem ent_ht (v : Str) : EntOk (S "height") v := .inr (.inr (.inr (.inr (.inr (.inr (.inl rfl))))))
theorem ent_fill (v : Str) : EntOk (S "fill") v := .inr (.inr (.inr (.inr (.inr (.inr (.inr (.inl rfl)))))))
theorem ent_id (v : Str) : EntOk (S "id") v := .inr (.inr (.inr (.inr (.inr (.inr (.inr (.inr rfl)))))))
noncomputable def UsePost (w : World) (src : Addr) (o : Obj) (D : Led) (v : Value) (D' : Led) : Prop :=
  ∃ o' tl ws, D' = (src, o') :: (tl ++ D) ∧ SrcOk o' ∧ Fresh ((src, o) :: D) tl ∧ TreeIn w tl v (.mk (S "use") ws [] (S "")) ∧ WsOk ws ∧ List.length ws ≤ 9
theorem lu_low {h₀ : Heap} {L d : Addr} {x : Bool} (h : (d == sysModules) = x) (e : x = false) : (d == sysModules) = false := h.trans e
theorem lu_fin {w : World} {g h : Heap} {L src wd x l : Addr} {o0 o' od : Obj} {D : Led} {kvs : List (Str × Value)} {ws : Ws} {t1 t2 : Tok} {k : Nat}
    (N : News g L h ((x, ({ cls := .type "tuple", data := .seq #[.str (S "use") t1, .ref wd, .ref l, .str (S "") t2] } : Obj)) :: (l, listOf #[] k) :: (src, o') :: (wd, od) :: D))
    (qx : AllLt x ((src, o0) :: D)) (ql : AllLt l ((src, o0) :: D)) (qw : AllLt wd ((src, o0) :: D)) (hS : SrcOk o') (hd : od.IsDictOf (strKind prg w) kvs) (hw : WsAre kvs ws) (lo : (wd == sysModules) = false) (hk : WsOk ws) (hz : List.length ws ≤ 9) :
    ∃ D', News g L h D' ∧ UsePost w src o0 D (.ref x) D' := by
  refine ⟨(src, o') :: ([(x, ({ cls := .type "tuple", data := .seq #[.str (S "use") t1, .ref wd, .ref l, .str (S "") t2] } : Obj)), (l, listOf #[] k), (wd, od)] ++ D), fun p hp => N p ?_, o', _, ws, rfl, hS, fresh_cons qx (fresh_cons ql (fresh_cons qw fresh_nil)), ?_, hk, hz⟩
  · simp only [List.mem_cons, List.mem_append, List.not_mem_nil] at hp ⊢
    grind
  · unfold TreeIn
    exact ⟨x, wd, l, k, #[], _, _, rfl, .head _, ⟨od, kvs, .tail _ (.tail _ (.head _)), hd, hw, lo⟩, .tail _ (.head _), by unfold TreesIn; trivial⟩
inductive UseMid (w : World) (src wd : Addr) (D : Led) (g : Heap) (L : Addr) (m : Str → Option Value) (s : Shared) (f : Flow) (s' : Shared) : Prop
  | mk (hf : f = .next) (h' : Heap) (tk : Nat) (o' od' : Obj) (kvs : List (Str × Value)) (ws : Ws) (q1 : s' = { s with heap := h', toks := tk }) (q2 : Fr g L h' m) (q3 : News g L h' ((src, o') :: (wd, od') :: D)) (q4 : SrcOk o') (q5 : od'.IsDictOf (strKind prg w) kvs) (q6 : WsAre kvs ws) (q7 : WsOk ws) (q8 : List.length ws ≤ 1)
theorem use_if {w : World} {A : Around} {E : Value → Shared → Prop} {s : Shared} {env : Env} {src wd : Addr} {o1 od : Obj} {D : Led} {g : Heap} {L : Addr} {m : Str → Option Value} {test : Expr} {body orelse : List Stmt} {pos : Pos} {Q : Flow → Shared → Prop} (_F : Fr g L s.heap m) (_N : News g L s.heap ((src, o1) :: (wd, od) :: D))
    (h : wpAny (model prg w) A (isTrue test env (eval test env)) (fun b s₂ => if b then wpAny (model prg w) A (execs body env) (UseMid w src wd D g L m s) E s₂ else wpAny (model prg w) A (execs orelse env) (UseMid w src wd D g L m s) E s₂) E s)
    (k : ∀ h' tk o' od' kvs ws, Fr g L h' m → News g L h' ((src, o') :: (wd, od') :: D) → SrcOk o' → od'.IsDictOf (strKind prg w) kvs → WsAre kvs ws → WsOk ws → List.length ws ≤ 1 → Q .next { s with heap := h', toks := tk }) : wpAny (model prg w) A (exec (.If test body orelse pos) env) Q E s := by
  refine wpAny_mono (wpAny_If h) (fun f s' => ?_) fun _ _ x => x
  intro hI9; (with_reducible refine (?_ : (let lG : Prop := _; lG))); intro lG; obtain ⟨rfl, h', tk, o', od', kvs, ws, rfl, a, b, c, d, e, f, g⟩ := hI9; k_unfold; clear lG
  exact k h' tk o' od' kvs ws a b c d e f g
theorem goal_ok {g : Int} (h0 : 0 ≤ g) (h6 : g ≤ 6) : Txt.slice (S "#e" ++ Str.ofString (toString g)) none (some 1) = S "#" ∧ (S "#e" ++ Str.ofString (toString g)).length ≤ 16 :=
  small_all (P := fun g => Txt.slice (S "#e" ++ Str.ofString (toString g)) none (some 1) = S "#" ∧ (S "#e" ++ Str.ofString (toString g)).length ≤ 16) (N := 7) (by decide +kernel) h0 (Int.lt_add_one_of_le h6)
section
theorem kw_luse1 : True := by
  (k_with "luse1" => first | (k_here; k_dflt (refine' kup_newTuple ?F_luse1 ?N_luse1 ?_ ?z_luse1; (case F_luse1 => k_asm); (case N_luse1 => k_asm); (case z_luse1 => exact Nat.le_of_ble_eq_true rfl)); intro D' h' F' N' l1; (try k_lt l1); (try k_sweep)) | fail)
  (k_with "luse2" => first | (k_here; (with_reducible refine (?_ : wpAny _ _ (exec (Stmt.If (Expr.BoolOp _ _ _) _ _ _) _) _ _ _)); refine Hold.intro ?_) | fail)
  (k_with "luse3" => first | (k_here; refine Hold.intro ?_) | fail)
  (k_with "luse;200" => first | (exact LuOff.s (by assumption)) | fail)
  trivial
local macro_rules | `(tactic| k_all) => `(tactic| k_extra "luse;200")
theorem kw_lusew201 : True := by
  (k_with "luse;201" => first | (exact LuOff.d (by assumption)) | fail)
  trivial
local macro_rules | `(tactic| k_all) => `(tactic| k_extra "luse;201")
theorem kw_lusew202 : True := by
  (k_with "luse;202" => first | (refine all_cons ?_ ?_; focus ((first | assumption | (exact Nat.ne_of_gt (by assumption)) | (exact Nat.ne_of_lt (by assumption)) | (exact LuOff.n (by assumption)) | (exact Ne.symm (LuOff.n (by assumption))) | (exact Nat.ne_of_gt (LuOff.is (by assumption))) | (exact Nat.ne_of_gt (LuOff.id (by assumption))) | (refine Nat.ne_of_gt ?_; (try dsimp only); omega) | (refine Nat.ne_of_lt ?_; (try dsimp only); omega))); k_all) | fail)
  trivial
local macro_rules | `(tactic| k_all) => `(tactic| k_extra "luse;202")
theorem kw_lusew203 : True := by
  (k_with "luse;203" => first | (first | assumption | (exact Nat.ne_of_gt (by assumption)) | (exact Nat.ne_of_lt (by assumption)) | (exact LuOff.n (by assumption)) | (exact Ne.symm (LuOff.n (by assumption))) | (exact Nat.ne_of_gt (LuOff.is (by assumption))) | (exact Nat.ne_of_gt (LuOff.id (by assumption))) | (refine Nat.ne_of_gt ?_; (try dsimp only); omega) | (refine Nat.ne_of_lt ?_; (try dsimp only); omega)) | fail)
  trivial
local macro_rules | `(tactic| k_ne) => `(tactic| k_extra "luse;203")
theorem kw_luse4 : True := by
  (k_with "luse4" => first | (k_here; (with_reducible refine (?_ : wpAny _ _ (pyIter (Value.ref _)) (fun it s₂ => TurnsAt _ _ _ _ _ _ _ _ _ it s₂) _ _)); (rename Fr _ _ _ _ => lF'); (rename News _ _ _ _ => lN'); (with_unfolding_all refine' iter_listTurns (vs := Array.toList _) (by rfl) lF' lN' ?km_luse4 ?k1_luse4 ?k2_luse4 ?_; (case km_luse4 => k_mem); (case k1_luse4 => exact rfl); (case k2_luse4 => (with_reducible simp only [Array.toArray_toList]; exact rfl)); k_whole); clear lF' lN'; intro i' l1; (try k_lt l1)) | fail)
  (k_with "luse5" => first | (k_here; refine Hold.intro ?_) | fail)
  (k_with "luse6" => first | (k_here; (with_reducible refine (?_ : wpAny _ _ (call (Value.ref 310) _) _ _ _)); (try ((fail_if_success (fail_if_success k_fold)); (refine fold1 ?_); intro qk)); k_dflt (refine' Call.use (c_oneP ?hS_luse6 ?off_luse6 ?mt_luse6 ?z0_luse6 ?z1_luse6 ?hP_luse6) ?k1_luse6 ?k2_luse6 ?k3_luse6 ?k4_luse6 ?k5_luse6 ?k6_luse6 ?kd_luse6 ?ku_luse6 (Cut.all ?kC_luse6) ?_; (case k1_luse6 => k_asm); (case k2_luse6 => k_asm); (case k3_luse6 => k_asm); (case k4_luse6 => k_asm); (case k5_luse6 => k_asm); (case k6_luse6 => first | exact rfl | assumption); (case kd_luse6 => ktr_room); (case ku_luse6 => ktr_units); (case kC_luse6 => (repeat' (first | exact Cut.here | refine' Cut.there ?_))); (case hS_luse6 => assumption); (case mt_luse6 => k_mem); (case hP_luse6 => assumption); (case z0_luse6 => assumption); (case z1_luse6 => assumption); (case off_luse6 => k_all); k_whole); (k_dflt (refine' ret_oneP ?_)); intro s9 t9 o9 h9 tk9 F9 N9 g09 g19; (try k_sweep); (try dsimp only); (try k_fold)) | fail)
  (k_with "luse7" => first | (k_here; (with_reducible refine (?_ : wpAny _ _ (call (Value.ref 310) _) _ _ _)); (try ((fail_if_success (fail_if_success k_fold)); (refine fold1 ?_); intro qk)); k_dflt (refine' Call.use (c_one2 ?hS_luse7 ?off_luse7 ?mt_luse7) ?k1_luse7 ?k2_luse7 ?k3_luse7 ?k4_luse7 ?k5_luse7 ?k6_luse7 ?kd_luse7 ?ku_luse7 (Cut.all ?kC_luse7) ?_; (case k1_luse7 => k_asm); (case k2_luse7 => k_asm); (case k3_luse7 => k_asm); (case k4_luse7 => k_asm); (case k5_luse7 => k_asm); (case k6_luse7 => first | exact rfl | assumption); (case kd_luse7 => ktr_room); (case ku_luse7 => ktr_units); (case kC_luse7 => (repeat' (first | exact Cut.here | refine' Cut.there ?_))); (case hS_luse7 => assumption); (case mt_luse7 => k_mem); (case off_luse7 => k_all); k_whole); (k_dflt (refine' ret_one2 ?_)); intro c9 t9 o9 h9 tk9 F9 N9 g09; (try k_sweep); (try dsimp only); (try k_fold)) | fail)
  trivial
theorem c_use {w : World} {src : Addr} {o : Obj} {many : Int} {tk : Tok} {D : Led} (hS : SrcOk o) (h1 : 1 ≤ many) (h5 : many ≤ 5) (off : ∀ p ∈ D, @Ne Nat p.1 src) :
    Call w 20 317 [.ref src, .int many tk] ((src, o) :: D) (UsePost w src o D) := by
  constructor
  intro dp un gd cn cs a ccd cl outer A₀ base h₀ L m sh sg sd st so mean mg mb Q E B F X N T hk hdp hun ret
  skip
  refine wpAny_call ?_
  k_dflt ktr_enter
  (repeat' (first | k_extra "sa" | k_extra "b84" | k_extra "b179" | k_extra "b4" | k_extra "b43" | k_extra "b1" | k_extra "b2" | k_extra "sz"))
  unfold Hold
  refine' use_if (src := src) (D := D) ?uF ?uN ?uh ?uk
  case uF => k_asm
  case uN => assumption
  case uh =>
    (repeat' (first | k_extra "sa" | k_extra "b180" | k_extra "b13" | k_extra "b5" | k_extra "b1" | k_extra "b23" | k_extra "b24" | k_extra "sz"))
    · refine' ⟨rfl, _, _, _, _, _, _, rfl, ?vf, news_subU ?vn m_sub2, ?vs, ?vd, WsAre.put (kvs := []) (ws := []) trivial, ?vk, wsPut_len _ _ _⟩
      case vf => k_asm
      case vn => assumption
      case vs => assumption
      case vd => assumption
      case vk =>
        refine WsOk.nil.put (ent_href _ (goal_ok ?va ?vb).1 (goal_ok ?va ?vb).2)
        case va => assumption
        case vb => omega
    · refine' ⟨rfl, _, _, _, _, _, _, rfl, ?vf, news_subU ?vn m_sub2, ?vs, ?vd, WsAre.put (kvs := []) (ws := []) trivial, ?vk, wsPut_len _ _ _⟩
      case vf => k_asm
      case vn => assumption
      case vs => assumption
      case vd => assumption
      case vk =>
        refine WsOk.nil.put (ent_href _ (goal_ok ?va ?vb).1 (goal_ok ?va ?vb).2)
        case va => assumption
        case vb => omega
    · exact ⟨rfl, _, _, _, _, [], [], rfl, by k_asm, by assumption, by assumption, by assumption, trivial, WsOk.nil, Nat.zero_le _⟩
  case uk =>
    intro h8 tk8 o8 od8 kv8 ws8 F8 N8 S8 hd8 hw8 hk8 hz8
    (repeat' (first | k_extra "sa" | k_extra "b181" | k_extra "sz"))
    ((unfold Hold; (rename Fr _ _ _ _ => lF'); with_reducible refine' For_turns lF' ?h ?hs ?hE; (case hs => exact fun _ => fold_list); (case hE => passes_own)))
    (repeat' (first | k_extra "sa" | k_extra "b182" | k_extra "b183" | k_extra "b23" | k_extra "b184" | k_extra "sz"))
    unfold Hold
    refine' lu_ind (src := src) (P := MenuIn) (n1 := S "name") (n2 := S "some") (k := 5) ?zs ?zd ?zi
    case zi =>
      refine' lu_init (show S "name" ≠ S "some" by decide) ?c1 ?c2 ?ho ?hp S8 hd8 hw8 ?hk ?hz
      case c1 => (repeat' (first | exact Cut.here | refine' Cut.there ?_))
      case c2 => (repeat' (first | exact Cut.here | refine' Cut.there ?_))
      case ho => exact ⟨by ((repeat' (first | assumption | (exact LuOff.s (by assumption)) | (exact LuOff.d (by assumption)) | refine all_cons ?_ ?_ | refine all_app ?_ ?_ | (first | assumption | (exact Nat.ne_of_gt (by assumption)) | (exact Nat.ne_of_lt (by assumption)) | (exact LuOff.n (by assumption)) | (exact Ne.symm (LuOff.n (by assumption))) | (exact Nat.ne_of_gt (LuOff.is (by assumption))) | (exact Nat.ne_of_gt (LuOff.id (by assumption))) | (refine Nat.ne_of_gt ?_; (try dsimp only); omega) | (refine Nat.ne_of_lt ?_; (try dsimp only); omega)) | (exact fun p hp => Nat.ne_of_lt (ltAll (by assumption) p hp)) | (refine' fresh_ne ?f ?m; (case f => assumption); (case m => k_mem))))), by ((repeat' (first | assumption | (exact LuOff.s (by assumption)) | (exact LuOff.d (by assumption)) | refine all_cons ?_ ?_ | refine all_app ?_ ?_ | (first | assumption | (exact Nat.ne_of_gt (by assumption)) | (exact Nat.ne_of_lt (by assumption)) | (exact LuOff.n (by assumption)) | (exact Ne.symm (LuOff.n (by assumption))) | (exact Nat.ne_of_gt (LuOff.is (by assumption))) | (exact Nat.ne_of_gt (LuOff.id (by assumption))) | (refine Nat.ne_of_gt ?_; (try dsimp only); omega) | (refine Nat.ne_of_lt ?_; (try dsimp only); omega)) | (exact fun p hp => Nat.ne_of_lt (ltAll (by assumption) p hp)) | (refine' fresh_ne ?f ?m; (case f => assumption); (case m => k_mem))))), by (first | assumption | (exact Nat.ne_of_gt (by assumption)) | (exact Nat.ne_of_lt (by assumption)) | (exact LuOff.n (by assumption)) | (exact Ne.symm (LuOff.n (by assumption))) | (exact Nat.ne_of_gt (LuOff.is (by assumption))) | (exact Nat.ne_of_gt (LuOff.id (by assumption))) | (refine Nat.ne_of_gt ?_; (try dsimp only); omega) | (refine Nat.ne_of_lt ?_; (try dsimp only); omega)), by ((repeat' (first | assumption | (exact fun p hp => ltAll (by assumption) p hp) | refine all_consL ?_ ?_ | (first | assumption | (dsimp only; assumption) | (dsimp only; omega))))), by (first | assumption | (dsimp only; assumption) | (dsimp only; omega)), by (first | assumption | (dsimp only; assumption) | (dsimp only; omega))⟩
      case hp =>
        refine List.forall_mem_cons.mpr ⟨?_, List.forall_mem_cons.mpr ⟨?_, List.forall_mem_cons.mpr ⟨?_, List.forall_mem_cons.mpr ⟨?_, fun _ h => nomatch h⟩⟩⟩⟩
        · refine' ⟨_, _, _, _, _, _, _, rfl, ?m1, ?m2, ?z0, ?z1, ?mm⟩; (case m1 => k_mem); (case m2 => k_mem); (case z0 => show 0 < 3; decide); (case z1 => show 3 < 1000; decide); (case mm => exact menu3 ent_x3 ent_xm ent_x0)
        · refine' ⟨_, _, _, _, _, _, _, rfl, ?m1, ?m2, ?z0, ?z1, ?mm⟩; (case m1 => k_mem); (case m2 => k_mem); (case z0 => show 0 < 1; decide); (case z1 => show 1 < 1000; decide); (case mm => exact menu1 ent_y7)
        · refine' ⟨_, _, _, _, _, _, _, rfl, ?m1, ?m2, ?z0, ?z1, ?mm⟩; (case m1 => k_mem); (case m2 => k_mem); (case z0 => show 0 < 1; decide); (case z1 => show 1 < 1000; decide); (case mm => exact menu1 (ent_wd _))
        · refine' ⟨_, _, _, _, _, _, _, rfl, ?m1, ?m2, ?z0, ?z1, ?mm⟩; (case m1 => k_mem); (case m2 => k_mem); (case z0 => show 0 < 2; decide); (case z1 => show 2 < 1000; decide); (case mm => exact menu2 (ent_ht _) (ent_ht _))
      case hk => exact hk8
      case hz => exact Nat.add_le_add hz8 (Nat.le_refl 4)
    case zs =>
      intro vr o' od' kvs ws x1 x2 v h tk1 oI hoff hP hS' hd hw hk' hz pv hcl F3 N4
      refine menu_is (G := fun v => wpAny _ _ (assign _ _ v) _ _ _) pv ?_
      clear pv
      intro T1 nm tn n1 l1 vs k1 mT ml z0 z1 hvs
      have hz1 := lu_100 hz rfl
      (repeat' (first | k_extra "sa" | k_extra "b28" | k_extra "b185" | k_extra "b5" | k_extra "b1" | k_extra "b2" | k_extra "b25" | k_extra "sz"))
      all_goals first
        | exact ⟨by k_mem, trivial⟩
        | exact lu_end hoff hP (by assumption) (by assumption) (by assumption) (hk'.put (by assumption)) (lu_len hz) lu_map
        | exact lu_end hoff hP (by assumption) hd hw hk' (lu_len0 hz) lu_map
    case zd =>
      intro o' od' kvs ws x1 x2 h tk1 hoff hS' hd hw hk' hz F3 N3
      have N4 := news_subU N3 (lu_sub (all := D) (by ((repeat' (first | exact (fun _ h => h) | refine sub_consU ?_)))))
      have offd := lu_sub_off (all := D) hoff.d (by ((repeat' (first | exact (fun _ h => h) | refine sub_consU ?_))))
      have hdn := hoff.n
      clear N3 hoff
      (repeat' (first | k_extra "sa" | k_extra "b181" | k_extra "sz"))
      ((unfold Hold; (rename Fr _ _ _ _ => lF'); with_reducible refine' For_turns lF' ?h ?hs ?hE; (case hs => exact fun _ => fold_list); (case hE => passes_own)))
      (repeat' (first | k_extra "sa" | k_extra "b182" | k_extra "b183" | k_extra "b23" | k_extra "b184" | k_extra "sz"))
      unfold Hold
      refine' lu_ind (src := src) (P := PairIn) (n1 := S "name") (n2 := S "told") (k := 9) ?zs ?zd ?zi
      case zi =>
        refine' lu_init (show S "name" ≠ S "told" by decide) ?c1 ?c2 ?ho ?hp (by assumption) hd hw hk' ?hz
        case c1 => (repeat' (first | exact Cut.here | refine' Cut.there ?_))
        case c2 => (repeat' (first | exact Cut.here | refine' Cut.there ?_))
        case ho => exact ⟨by ((repeat' (first | assumption | (exact LuOff.s (by assumption)) | (exact LuOff.d (by assumption)) | refine all_cons ?_ ?_ | refine all_app ?_ ?_ | (first | assumption | (exact Nat.ne_of_gt (by assumption)) | (exact Nat.ne_of_lt (by assumption)) | (exact LuOff.n (by assumption)) | (exact Ne.symm (LuOff.n (by assumption))) | (exact Nat.ne_of_gt (LuOff.is (by assumption))) | (exact Nat.ne_of_gt (LuOff.id (by assumption))) | (refine Nat.ne_of_gt ?_; (try dsimp only); omega) | (refine Nat.ne_of_lt ?_; (try dsimp only); omega)) | (exact fun p hp => Nat.ne_of_lt (ltAll (by assumption) p hp)) | (refine' fresh_ne ?f ?m; (case f => assumption); (case m => k_mem))))), by ((repeat' (first | assumption | (exact LuOff.s (by assumption)) | (exact LuOff.d (by assumption)) | refine all_cons ?_ ?_ | refine all_app ?_ ?_ | (first | assumption | (exact Nat.ne_of_gt (by assumption)) | (exact Nat.ne_of_lt (by assumption)) | (exact LuOff.n (by assumption)) | (exact Ne.symm (LuOff.n (by assumption))) | (exact Nat.ne_of_gt (LuOff.is (by assumption))) | (exact Nat.ne_of_gt (LuOff.id (by assumption))) | (refine Nat.ne_of_gt ?_; (try dsimp only); omega) | (refine Nat.ne_of_lt ?_; (try dsimp only); omega)) | (exact fun p hp => Nat.ne_of_lt (ltAll (by assumption) p hp)) | (refine' fresh_ne ?f ?m; (case f => assumption); (case m => k_mem))))), by (first | assumption | (exact Nat.ne_of_gt (by assumption)) | (exact Nat.ne_of_lt (by assumption)) | (exact LuOff.n (by assumption)) | (exact Ne.symm (LuOff.n (by assumption))) | (exact Nat.ne_of_gt (LuOff.is (by assumption))) | (exact Nat.ne_of_gt (LuOff.id (by assumption))) | (refine Nat.ne_of_gt ?_; (try dsimp only); omega) | (refine Nat.ne_of_lt ?_; (try dsimp only); omega)), by ((repeat' (first | assumption | (exact fun p hp => ltAll (by assumption) p hp) | refine all_consL ?_ ?_ | (first | assumption | (dsimp only; assumption) | (dsimp only; omega))))), by (first | assumption | (dsimp only; assumption) | (dsimp only; omega)), by (first | assumption | (dsimp only; assumption) | (dsimp only; omega))⟩
        case hp =>
          refine List.forall_mem_cons.mpr ⟨?_, List.forall_mem_cons.mpr ⟨?_, List.forall_mem_cons.mpr ⟨?_, List.forall_mem_cons.mpr ⟨?_, fun _ h => nomatch h⟩⟩⟩⟩
          · refine' ⟨_, _, _, _, _, _, rfl, ?m1, ?mm⟩; (case m1 => k_mem); (case mm => exact ent_tr)
          · refine' ⟨_, _, _, _, _, _, rfl, ?m1, ?mm⟩; (case m1 => k_mem); (case mm => exact ent_fill _)
          · refine' ⟨_, _, _, _, _, _, rfl, ?m1, ?mm⟩; (case m1 => k_mem); (case mm => exact ent_id _)
          · refine' ⟨_, _, _, _, _, _, rfl, ?m1, ?mm⟩; (case m1 => k_mem); (case mm => exact ent_y50)
        case hz => exact Nat.add_le_add hz (Nat.le_refl 4)
      case zs =>
        intro vr o' od' kvs ws x1 x2 v h tk1 oI hoff hP hS' hd hw hk' hz pv hcl F3 N4
        refine pair_is (G := fun v => wpAny _ _ (assign _ _ v) _ _ _) pv ?_
        clear pv
        intro T1 nm tn td tt n1 mT hent
        have hz1 := lu_100 hz rfl
        (repeat' (first | k_extra "sa" | k_extra "b28" | k_extra "b4" | k_extra "b5" | k_extra "b1" | k_extra "b2" | k_extra "b25" | k_extra "sz"))
        all_goals first
          | exact ⟨by k_mem, trivial⟩
          | exact lu_end hoff hP (by assumption) (by assumption) (by assumption) (hk'.put hent) (lu_len hz) lu_map
          | exact lu_end hoff hP (by assumption) hd hw hk' (lu_len0 hz) lu_map
      case zd =>
        intro o' od' kvs ws x1 x2 h tk1 hoff hS' hd hw hk' hz F3 N3
        have N4 := news_subU N3 (lu_sub (all := D) (by ((repeat' (first | exact (fun _ h => h) | refine sub_consU ?_)))))
        have hdn := hoff.n
        clear N3 hoff
        (repeat' (first | k_extra "sa" | k_extra "b1" | k_extra "b183" | k_extra "b23" | k_extra "sz"))
        obtain ⟨D', hN, hP⟩ := lu_fin (o0 := o) (by assumption) (by ktr_rel) (by ktr_rel) (by ktr_rel) hS' hd hw (by assumption) hk' hz
        exact ret _ _ _ D' (by k_asm) hN hP
end
end

end
section
theorem reset_rng : True := by
  (w_top off)
  trivial
section
-- part rng
section
variable {prog : Program} {w : World} {A : Around} {E : Value → Shared → Prop} {s : Shared} {env : Env} {h₀ : Heap} {body : List Stmt} {Q : Flow → Shared → Prop}
noncomputable def rngItms (n : Nat) : List Itm := (List.range n).map fun i : Nat => Itm.tok fun t => .int (i : Int) t
theorem rngItms_length (n : Nat) : (rngItms n).length = n := by unfold rngItms; rw [List.length_map, List.length_range]
theorem iter_rangeTurns {x : Str} {pos : Pos} {r : Addr} {b : Int} {t₀ u₀ v₀ : Tok} {n : Nat} {m₀ : Str → Option Value} {news : List (Addr × Obj)}
    (hh : A.handled = none) (hr : IsRange s.heap r 0 b 1 t₀ u₀ v₀) (hsmall : Builtin.Range.small 0 b 1 = true) (hsz : Builtin.Range.rangeSize 0 b 1 = (n : Int)) (F : Fr h₀ env.locals s.heap m₀) (N : News h₀ env.locals s.heap news)
    (rest₀ : ∀ I : Addr, (∀ p ∈ news, p.1 < I) → ItemsRest prog w A E h₀ env (.Name x pos) body Q s [(I, "range_iterator")] [] (rngItms n) m₀ news) :
    wpAny (model prog w) A (pyIter (.ref r)) (fun it s₂ => TurnsAt prog w A h₀ env (.Name x pos) body Q E it s₂) E s := by
  refine wpAny_pyIter_range hr hsmall ?_
  refine ktu_core (tk0 := s.toks) (keep := []) (KTurns.ofWalks (Walks.range hh s.heap.objs.size 0 1 n).bound fun i v s Q E st q => (show wpAny _ _ (pure ()) _ _ _ from wpAny_pure q)) (rngItms_length n).symm (fun i v h hp => ?_) (fun i h st => ?_) (fun b hb => ?_) (fun b hb => by simpa using hb) (fun b hb => ?_) ?_ (fun p hp hI => ?_) ?_ (F.push _) (fun p hp => ⟨Heap.get?_push_of_some _ (N p hp).1, (N p hp).2⟩) trivial (rest₀ _ fun p hp => Heap.lt_size (N p hp).1)
  · obtain ⟨hi, t, e⟩ := hp
    refine ⟨.tok fun t => .int (i : Int) t, ?_, t, ?_⟩
    · unfold rngItms
      rw [List.getElem?_map, List.getElem?_range hi]; rfl
    · rw [e]; congr 1; omega
  · exact ⟨[(s.heap.objs.size, _)], ⟨⟨rfl, rfl⟩, trivial⟩, fun p hp => by rw [List.mem_singleton.mp hp]; exact st⟩
  · have hb' : b = s.heap.objs.size := by simpa using hb
    rw [hb']
    exact ⟨List.mem_cons_self .., next_is_new F⟩
  · have hb' : b = s.heap.objs.size := by simpa using hb
    exact .inl (by simp [hb'])
  · intro hI
    exact absurd F.ns.lt ((List.mem_singleton.mp hI) ▸ Nat.lt_irrefl _)
  · exact absurd (Heap.lt_size (N p hp).1) ((List.mem_singleton.mp hI) ▸ Nat.lt_irrefl _)
  · show IsRangeIter _ _ _ _ _
    rw [hsz]
    simpa using Heap.get?_push_size _ rfl
end
end

end
section
local macro_rules | `(tactic| k_ne) => `(tactic| k_extra "mapc;0")
theorem reset_lrow : True := by
  (w_top off)
  (k_with "b186" => first | ((with_reducible refine (?_ : wpAny _ _ (call (Value.ref _) _) _ _ _)); first | (with_reducible (k_extra "lrow9")) | fail) | fail)
  (k_with "b187" => first | ((with_reducible refine (?_ : wpAny _ _ (eval (Expr.Dict _ _ _) _) _ _ _)); first | (with_reducible (k_extra "lrow6")) | fail) | fail)
  (k_with "b188" => first | ((with_reducible refine (?_ : wpAny _ _ (exec (Stmt.If _ _ _ _) _) _ _ _)); first | (with_reducible (k_extra "lrow2")) | fail) | fail)
  (k_with "b189" => first | ((with_reducible refine (?_ : wpAny _ _ (newTuple _) _ _ _)); first | (with_reducible (k_extra "lrow1")) | fail) | fail)
  (k_with "b190" => first | ((fail_if_success (with_reducible refine (?_ : wpAny _ _ _ _ _ _))); first | ((with_reducible refine (?_ : KdnMade ..)); first | (with_reducible (k_extra "lrow7")) | fail) | fail) | fail)
  (k_with "b191" => first | ((with_reducible refine (?_ : wpAny _ _ (exec (Stmt.For (Expr.Name _ _) (Expr.Call _ _ _ _) _ [] _) _) _ _ _)); first | (with_reducible (k_extra "lrow3")) | fail) | fail)
  (k_with "b192" => first | ((with_reducible refine (?_ : wpAny _ _ (pyIter (Value.ref _)) _ _ _)); first | (with_reducible (k_extra "lrow4")) | fail) | fail)
  (k_with "b193" => first | ((fail_if_success (with_reducible refine (?_ : wpAny _ _ _ _ _ _))); first | ((with_reducible refine (?_ : ItemsRest ..)); first | (with_reducible (k_extra "lrow5")) | fail) | fail) | fail)
  (k_with "b194" => first | ((with_reducible refine (?_ : wpAny _ _ (call (Value.ref _) _) _ _ _)); first | (with_reducible (k_extra "lrow10")) | (with_reducible (k_extra "take:1")) | fail) | fail)
  (k_with "b195" => first | ((with_reducible refine (?_ : wpAny _ _ (call (Value.builtin "list.append") _) _ _ _)); first | (with_reducible (k_extra "lrow8")) | fail) | fail)
  trivial
section
-- part lrow
noncomputable def RowPost (w : World) (src : Addr) (o : Obj) (D : Led) (v : Value) (D' : Led) : Prop :=
  ∃ o' tl t, D' = (src, o') :: (tl ++ D) ∧ SrcOk o' ∧ Fresh ((src, o) :: D) tl ∧ TreeIn w tl v t ∧ OkT t ∧ height t ≤ 2 ∧ List.length t.ws ≤ 12
theorem UsePost.elim {w : World} {src : Addr} {o : Obj} {D : Led} {v : Value} {D' : Led} (h : UsePost w src o D v D') : ∃ o' tl ws, D' = (src, o') :: (tl ++ D) ∧ SrcOk o' ∧ Fresh ((src, o) :: D) tl ∧ TreeIn w tl v (.mk (S "use") ws [] (S "")) ∧ WsOk ws ∧ List.length ws ≤ 9 := h
theorem kinds5 {a b c d e : Str} {t1 t2 t3 t4 t5 : Tok} {P : Str → Prop} (h1 : P a) (h2 : P b) (h3 : P c) (h4 : P d) (h5 : P e) : ∀ (i : Nat) (hi : i < #[Value.str a t1, Value.str b t2, Value.str c t3, Value.str d t4, Value.str e t5].size), ∃ s u', #[Value.str a t1, Value.str b t2, Value.str c t3, Value.str d t4, Value.str e t5][i] = Value.str s u' ∧ P s := fun i hi => by
  exact lt5_all (P := fun i => ∀ hi : i < #[Value.str a t1, Value.str b t2, Value.str c t3, Value.str d t4, Value.str e t5].size, ∃ s u', #[Value.str a t1, Value.str b t2, Value.str c t3, Value.str d t4, Value.str e t5][i] = Value.str s u' ∧ P s) (fun _ => ⟨a, t1, rfl, h1⟩) (fun _ => ⟨b, t2, rfl, h2⟩) (fun _ => ⟨c, t3, rfl, h3⟩) (fun _ => ⟨d, t4, rfl, h4⟩) (fun _ => ⟨e, t5, rfl, h5⟩) i hi hi
inductive RowMid (w : World) (src wd : Addr) (D : Led) (g : Heap) (L : Addr) (m : Str → Option Value) (s : Shared) (f : Flow) (s' : Shared) : Prop
  | mk (hf : f = .next) (h' : Heap) (tk : Nat) (o' od' : Obj) (kvs : List (Str × Value)) (ws : Ws) (q1 : s' = { s with heap := h', toks := tk }) (q2 : Fr g L h' m) (q3 : News g L h' ((src, o') :: (wd, od') :: D)) (q4 : SrcOk o') (q5 : od'.IsDictOf (strKind prg w) kvs) (q6 : WsAre kvs ws) (q7 : List.length ws ≤ 2)
theorem row_if {w : World} {A : Around} {E : Value → Shared → Prop} {s : Shared} {env : Env} {src wd l : Addr} {o1 od lo : Obj} {D all : Led} {g : Heap} {L : Addr} {m : Str → Option Value} {test : Expr} {body orelse : List Stmt} {pos : Pos} {Q : Flow → Shared → Prop} (_F : Fr g L s.heap m) (_N : News g L s.heap all) (_m1 : (src, o1) ∈ all) (_m2 : (wd, od) ∈ all) (_m3 : (l, lo) ∈ all)
    (h : wpAny (model prog w) A (isTrue test env (eval test env)) (fun b s₂ => if b then wpAny (model prog w) A (execs body env) (RowMid w src wd ((l, lo) :: D) g L m s) E s₂ else wpAny (model prog w) A (execs orelse env) (RowMid w src wd ((l, lo) :: D) g L m s) E s₂) E s)
    (k : ∀ h' tk o' od' kvs ws, Fr g L h' m → News g L h' ((src, o') :: (wd, od') :: (l, lo) :: D) → SrcOk o' → od'.IsDictOf (strKind prg w) kvs → WsAre kvs ws → List.length ws ≤ 2 → Q .next { s with heap := h', toks := tk }) : wpAny (model prog w) A (exec (.If test body orelse pos) env) Q E s := by
  refine wpAny_mono (wpAny_If h) (fun f s' => ?_) fun _ _ x => x
  intro hI9; (with_reducible refine (?_ : (let lG : Prop := _; lG))); intro lG; obtain ⟨rfl, h', tk, o', od', kvs, ws, rfl, a, b, c, d, e, g⟩ := hI9; k_unfold; clear lG
  exact k h' tk o' od' kvs ws a b c d e g
inductive LrInv (w : World) (src l : Addr) (R : Led) (m₀ : Str → Option Value) (n1 : Str) (I : Addr) (xs : List Itm) (m : Str → Option Value) (news : Led) : Prop
  | mk (o : Obj) (vr : List Int) (ys : Array Value) (k : Nat) (tl : Led) (kids : List T) (x1 : Option Value) (q1 : LuOff src l R I) (q2 : xs = vr.map (fun i => Itm.tok fun t => .int i t)) (q3 : SrcOk o) (q4 : (src, o) ∈ news) (q5 : (l, listOf ys k) ∈ news) (q6 : (∀ p ∈ tl ++ R, p ∈ news)) (q7 : TreesIn w tl ys.toList kids) (q8 : (∀ t ∈ kids, OkT t ∧ height t ≤ 1)) (q9 : kids.length + vr.length ≤ 2) (q10 : (∀ p ∈ tl, @Ne Nat p.1 src)) (q11 : (∀ p ∈ tl, @Ne Nat p.1 l)) (q12 : Fresh R tl) (q13 : (∀ p ∈ tl, @Ne Nat p.1 I)) (q14 : m = (fun z => if z = n1 then x1 else m₀ z))
theorem lr_init {w : World} {src l I : Addr} {R all : Led} {m₀ : Str → Option Value} {n1 : Str} {n k : Nat} {o : Obj} (hoff : LuOff src l R I) (hS : SrcOk o) (m1 : (src, o) ∈ all) (m2 : (l, listOf #[] k) ∈ all) (m3 : ∀ p ∈ R, p ∈ all) (hn : n ≤ 2) : LrInv w src l R m₀ n1 I (rngItms n) m₀ all := by
  refine ⟨o, (List.range n).map fun i : Nat => (i : Int), #[], k, [], [], m₀ n1, hoff, ?_, hS, m1, m2, fun p hp => m3 p hp, by unfold TreesIn; trivial, (fun t h => nomatch h), ?_, (fun _ h => nomatch h), (fun _ h => nomatch h), fresh_nil, (fun _ h => nomatch h), ?_⟩
  · unfold rngItms
    rw [List.map_map]; rfl
  · rw [List.length_map, List.length_range, List.length_nil]; omega
  · funext z
    by_cases h : z = n1
    · rw [if_pos h, h]
    · rw [if_neg h]
theorem lr_map {n1 : Str} {a x : Option Value} {m₀ : Str → Option Value} : ∃ y, (fun z => if z = n1 then a else if z = n1 then x else m₀ z) = fun z => if z = n1 then y else m₀ z := by
  refine ⟨a, ?_⟩
  funext z
  by_cases h : z = n1
  · simp only [if_pos h]
  · simp only [if_neg h]
theorem treesIn_push {w : World} {D : Led} : ∀ {vs : List Value} {ts : List T} {v : Value} {t : T}, TreesIn w D vs ts → TreeIn w D v t → TreesIn w D (vs ++ [v]) (ts ++ [t])
  | [], [], _, _, _, h => by unfold TreesIn; exact ⟨h, by unfold TreesIn; trivial⟩
  | [], _ :: _, _, _, x, _ => by unfold TreesIn at x; exact x.elim
  | _ :: _, [], _, _, x, _ => by unfold TreesIn at x; exact x.elim
  | _ :: _, _ :: _, _, _, x, h => by
    unfold TreesIn at x
    rw [List.cons_append, List.cons_append]
    unfold TreesIn
    exact ⟨x.1, treesIn_push x.2 h⟩
theorem treesIn_len {w : World} {D : Led} : ∀ {vs : List Value} {ts : List T}, TreesIn w D vs ts → vs.length = ts.length
  | [], [], _ => rfl
  | [], _ :: _, x => by unfold TreesIn at x; exact x.elim
  | _ :: _, [], x => by unfold TreesIn at x; exact x.elim
  | _ :: _, _ :: _, x => by unfold TreesIn at x; rw [List.length_cons, List.length_cons, treesIn_len x.2]
theorem lr_end {w : World} {src l I : Addr} {R news tl tl' : Led} {m₀ m' : Str → Option Value} {n1 : Str} {k : Nat} {o : Obj} {vr : List Int} {ys : Array Value} {kids : List T} {v : Value} {t : T} (hoff : LuOff src l R I) (hS : SrcOk o) (m1 : (src, o) ∈ news) (m2 : (l, listOf (ys.push v) k) ∈ news) (m3 : ∀ p ∈ tl' ++ R, p ∈ news) (hT : TreesIn w tl ys.toList kids) (hs : ∀ p ∈ tl, p ∈ tl') (hv : TreeIn w tl' v t)
    (hk : ∀ t ∈ kids, OkT t ∧ height t ≤ 1) (ht : OkT t ∧ height t ≤ 1) (hz : kids.length + (vr.length + 1) ≤ 2) (f1 : ∀ p ∈ tl', @Ne Nat p.1 src) (f2 : ∀ p ∈ tl', @Ne Nat p.1 l) (f3 : Fresh R tl') (f4 : ∀ p ∈ tl', @Ne Nat p.1 I) (hm : ∃ x, m' = fun z => if z = n1 then x else m₀ z) : LrInv w src l R m₀ n1 I (vr.map (fun i => Itm.tok fun t => .int i t)) m' news := by
  obtain ⟨x, rfl⟩ := hm
  refine ⟨o, vr, ys.push v, k, tl', kids ++ [t], x, hoff, rfl, hS, m1, m2, m3, ?_, ?_, ?_, f1, f2, f3, f4, rfl⟩
  · rw [Array.toList_push]
    exact treesIn_push (hT.mono hs) hv
  · intro u hu
    rcases List.mem_append.mp hu with hu | hu
    · exact hk u hu
    · rw [List.mem_singleton.mp hu]; exact ht
  · rw [List.length_append, List.length_singleton]; omega
theorem lr_news {g h : Heap} {L src l I : Addr} {o oI lo : Obj} {R tl news : Led} (N : News g L h ((I, oI) :: news)) (h1 : (src, o) ∈ news) (h2 : (l, lo) ∈ news) (h3 : ∀ p ∈ tl ++ R, p ∈ news) : News g L h ((I, oI) :: (src, o) :: (l, lo) :: (tl ++ R)) := lu_news (R := tl ++ R) N h1 h2 h3
theorem lr_path {w : World} {D : Led} {x d l : Addr} {k : Nat} {od : Obj} {kvs : List (Str × Value)} {t1 t2 : Tok} {ws : Ws} (mx : (x, ({ cls := .type "tuple", data := .seq #[.str (S "path") t1, .ref d, .ref l, .str (S "t") t2] } : Obj)) ∈ D) (ml : (l, listOf #[] k) ∈ D) (md : (d, od) ∈ D) (hd : od.IsDictOf (strKind prg w) kvs) (hw : WsAre kvs ws) (lo : (d == sysModules) = false) : TreeIn w D (.ref x) (.mk (S "path") ws [] (S "t")) := by
  unfold TreeIn
  exact ⟨x, d, l, k, #[], _, _, rfl, mx, ⟨od, kvs, md, hd, hw, lo⟩, ml, by unfold TreesIn; trivial⟩
theorem okTs_all : ∀ {ts : List T}, (∀ t ∈ ts, OkT t ∧ height t ≤ 1) → OkTs ts ∧ heights ts ≤ 1
  | [], _ => by
    unfold OkTs heights
    exact ⟨trivial, Nat.zero_le _⟩
  | t :: ts, h => by
    have a := h t (.head _)
    have b := okTs_all fun u hu => h u (.tail _ hu)
    unfold OkTs heights
    exact ⟨⟨a.1, b.1⟩, Nat.max_le.mpr ⟨a.2, b.2⟩⟩
theorem okt_leaf {nm tx : Str} {ws : Ws} (h : List.length ws ≤ 16) (hu : nm = S "use" → WsOk ws) : OkT (.mk nm ws [] tx) ∧ height (.mk nm ws [] tx) ≤ 1 := by
  unfold OkT height
  refine ⟨⟨h, Nat.zero_le _, fun e => ⟨rfl, hu e⟩, ?_⟩, ?_⟩
  · unfold OkTs; trivial
  · unfold heights; exact Nat.le_refl _
theorem lr_fin {w : World} {g h : Heap} {L src wd l x : Addr} {o0 o od : Obj} {D tl all : Led} {kvs : List (Str × Value)} {ws : Ws} {kids : List T} {ys : Array Value} {k : Nat} {kind : Str} {t1 t2 : Tok} (N : News g L h all) (hkind : ¬ kind = S "use")
    (mx : (x, ({ cls := .type "tuple", data := .seq #[.str kind t1, .ref wd, .ref l, .str (S "") t2] } : Obj)) ∈ all) (ml : (l, listOf ys k) ∈ all) (ms : (src, o) ∈ all) (mw : (wd, od) ∈ all) (mt : ∀ p ∈ tl ++ D, p ∈ all) (hS : SrcOk o) (hT : TreesIn w tl ys.toList kids) (hk : ∀ t ∈ kids, OkT t ∧ height t ≤ 1) (hz : kids.length ≤ 2)
    (hd : od.IsDictOf (strKind prg w) kvs) (hw : WsAre kvs ws) (lo : (wd == sysModules) = false) (hws : List.length ws ≤ 2) (qx : ∀ q ∈ (src, o0) :: D, @Ne Nat q.1 x) (ql : AllLt l ((src, o0) :: D)) (qw : AllLt wd ((src, o0) :: D)) (f1 : ∀ p ∈ tl, @Ne Nat p.1 src) (f3 : Fresh D tl) : ∃ D', News g L h D' ∧ RowPost w src o0 D (.ref x) D' := by
  refine ⟨(src, o) :: ((x, ({ cls := .type "tuple", data := .seq #[.str kind t1, .ref wd, .ref l, .str (S "") t2] } : Obj)) :: (l, listOf ys k) :: (wd, od) :: tl ++ D), fun p hp => N p ?_, o, _, .mk kind ws kids (S ""), rfl, hS, fresh_cons' qx (fresh_cons ql (fresh_cons qw fun p hp q hq => ?_)), ?_, ?_, ?_, ?_⟩
  · simp only [List.mem_cons, List.mem_append] at hp mt
    rcases hp with rfl | (rfl | rfl | rfl | hp) | hp
    · exact ms
    · exact mx
    · exact ml
    · exact mw
    · exact mt p (.inl hp)
    · exact mt p (.inr hp)
  · rcases List.mem_cons.mp hq with rfl | hq
    · exact Ne.symm (f1 p hp)
    · exact f3 p hp q hq
  · unfold TreeIn
    exact ⟨x, wd, l, k, ys, _, _, rfl, .head _, ⟨od, kvs, .tail _ (.tail _ (.head _)), hd, hw, lo⟩, .tail _ (.head _), hT.mono fun p hp => .tail _ (.tail _ (.tail _ hp))⟩
  · unfold OkT
    exact ⟨Nat.le_trans hws (by decide), Nat.le_trans hz (by decide), fun e => absurd e hkind, (okTs_all hk).1⟩
  · unfold height
    exact Nat.add_le_add (okTs_all hk).2 (Nat.le_refl 1)
  · exact Nat.le_trans hws (by decide)
theorem lr_sub {g h : Heap} {L : Addr} {a b c d e : Addr × Obj} {D : Led} (N : News g L h (a :: b :: c :: d :: e :: D)) : News g L h (a :: d :: c :: D) := fun p hp => N p (by
  simp only [List.mem_cons] at hp ⊢
  grind)
theorem ws_one {k v : Str} {t1 t2 : Tok} : WsAre (strPairs [(.str k t1, .str v t2)]) [(k, v)] := ⟨⟨rfl, _, rfl⟩, trivial⟩
theorem ws_two {k v k2 v2 : Str} {t1 t2 : Tok} : WsAre [(k, .str v t1), (k2, .str v2 t2)] [(k, v), (k2, v2)] := ⟨⟨rfl, _, rfl⟩, ⟨rfl, _, rfl⟩, trivial⟩
theorem lr_sub3 {a b c : Addr × Obj} {D : Led} : ∀ p ∈ b :: D, p ∈ a :: b :: c :: D := fun p hp => by
  rcases List.mem_cons.mp hp with rfl | hp
  · exact .tail _ (.head _)
  · exact .tail _ (.tail _ (.tail _ hp))
theorem lr_sub4 {a b c d e : Addr × Obj} {tl R : Led} : ∀ p ∈ (a :: b :: c :: tl) ++ R, p ∈ a :: b :: c :: d :: e :: (tl ++ R) := fun p hp => by
  simp only [List.mem_cons, List.mem_append] at hp ⊢
  grind
theorem lr_sub5 {a b c : Addr × Obj} {tl : Led} : ∀ p ∈ tl, p ∈ a :: b :: c :: tl := fun _ hp => .tail _ (.tail _ (.tail _ hp))
theorem use_leaf {ws : Ws} (h : WsOk ws) (hz : List.length ws ≤ 9) : OkT (.mk (S "use") ws [] (S "")) ∧ height (.mk (S "use") ws [] (S "")) ≤ 1 := okt_leaf (Nat.le_trans hz (by decide)) fun _ => h
theorem lr_turn {w : World} {g h : Heap} {L src l I : Addr} {R tl tl9 : Led} {m₀ m' : Str → Option Value} {n1 : Str} {k tk : Nat} {o o0 oI lo : Obj} {vr : List Int} {ys : Array Value} {kids : List T} {v : Value} {ws : Ws} {s : Shared} (F : Fr g L h m') (N : News g L h ((src, o) :: (tl9 ++ (I, oI) :: (l, listOf (ys.push v) k) :: (tl ++ R)))) (hoff : LuOff src l R I) (hS : SrcOk o)
    (hT : TreesIn w tl ys.toList kids) (hv : TreeIn w tl9 v (.mk (S "use") ws [] (S ""))) (hK : ∀ t ∈ kids, OkT t ∧ height t ≤ 1) (hw : WsOk ws) (hws : List.length ws ≤ 9) (hz : kids.length + (vr.length + 1) ≤ 2) (f1 : ∀ p ∈ tl, @Ne Nat p.1 src) (f2 : ∀ p ∈ tl, @Ne Nat p.1 l) (f3 : Fresh R tl) (f4 : ∀ p ∈ tl, @Ne Nat p.1 I)
    (f9 : Fresh ((src, o0) :: (I, oI) :: (l, lo) :: (tl ++ R)) tl9) (hm : ∃ x, m' = fun z => if z = n1 then x else m₀ z) :
    UnrEndW g L s [(I, oI)] (fun m' n' => SubL [] n' ∧ LrInv w src l R m₀ n1 I (vr.map (fun i => Itm.tok fun t => .int i t)) m' n') { s with heap := h, toks := tk } := by
  have g1 : ∀ p ∈ tl9 ++ tl, @Ne Nat p.1 src := fun p hp => (List.mem_append.mp hp).elim (fun hp => Ne.symm (f9 p hp _ (.head _))) (f1 p)
  have g2 : ∀ p ∈ tl9 ++ tl, @Ne Nat p.1 l := fun p hp => (List.mem_append.mp hp).elim (fun hp => Ne.symm (f9 p hp _ (.tail _ (.tail _ (.head _))))) (f2 p)
  have g3 : Fresh R (tl9 ++ tl) := fresh_app (f9.sub fun p hp => .tail _ (.tail _ (.tail _ (List.mem_append_right _ hp)))) f3
  have g4 : ∀ p ∈ tl9 ++ tl, @Ne Nat p.1 I := fun p hp => (List.mem_append.mp hp).elim (fun hp => Ne.symm (f9 p hp _ (.tail _ (.head _)))) (f4 p)
  refine ⟨h, tk, _, (src, o) :: (l, listOf (ys.push v) k) :: ((tl9 ++ tl) ++ R), rfl, F, fun p hp => N p ?_, fun p hp q hq => ?_, trivial, lr_end hoff hS (.head _) (.tail _ (.head _)) (fun p hp => .tail _ (.tail _ hp)) hT (fun p hp => List.mem_append_right _ hp) (hv.mono fun p hp => List.mem_append_left _ hp) hK (use_leaf hw hws) hz g1 g2 g3 g4 hm⟩
  · simp only [List.mem_cons, List.mem_append, List.not_mem_nil] at hp ⊢
    grind
  · rw [List.mem_singleton] at hq
    subst hq
    rcases List.mem_cons.mp hp with rfl | hp
    · exact Nat.ne_of_lt hoff.is
    rcases List.mem_cons.mp hp with rfl | hp
    · exact Nat.ne_of_lt hoff.id
    rcases List.mem_append.mp hp with hp | hp
    · exact g4 p hp
    · exact Nat.ne_of_lt (hoff.i p hp)
theorem lr_ne {x src : Addr} {o o0 : Obj} {b : Addr × Obj} {news tl D : Led} (lx : AllLt x news) (q1 : (src, o) ∈ news) (q3 : ∀ p ∈ tl ++ (b :: D), p ∈ news) : ∀ q ∈ (src, o0) :: D, @Ne Nat q.1 x := fun q hq => by
  rcases List.mem_cons.mp hq with rfl | hq
  · exact Nat.ne_of_lt (show @LT.lt Nat _ src x from ltAll lx _ q1)
  · exact Nat.ne_of_lt (ltAll lx _ (q3 _ (List.mem_append_right _ (.tail _ hq))))
theorem fold_call {f : Expr} {as : List Expr} {ks : List Keyword} {pos : Pos} {env : Env} {x : Value} : foldedSetIterable (Expr.Call f as ks pos) env x = pure x := rfl
section
theorem kw_lrow1 : True := by
  (k_with "lrow1" => first | (k_here; k_dflt (refine' kup_newTuple ?F_lrow1 ?N_lrow1 ?_ ?z_lrow1; (case F_lrow1 => k_asm); (case N_lrow1 => k_asm); (case z_lrow1 => exact Nat.le_of_ble_eq_true rfl)); intro D' h' F' N' l1; (try k_lt l1); (try k_sweep)) | fail)
  (k_with "lrow2" => first | (k_here; refine Hold.intro ?_) | fail)
  (k_with "lrow3" => first | (k_here; refine Hold.intro ?_) | fail)
  (k_with "lrow;149" => first | (exact LuOff.s (by assumption)) | fail)
  trivial
local macro_rules | `(tactic| k_all) => `(tactic| k_extra "lrow;149")
theorem kw_lroww150 : True := by
  (k_with "lrow;150" => first | (exact LuOff.d (by assumption)) | fail)
  trivial
local macro_rules | `(tactic| k_all) => `(tactic| k_extra "lrow;150")
theorem kw_lroww151 : True := by
  (k_with "lrow;151" => first | (refine all_cons ?_ ?_; focus ((first | assumption | (exact Nat.ne_of_gt (by assumption)) | (exact Nat.ne_of_lt (by assumption)) | (exact LuOff.n (by assumption)) | (exact Ne.symm (LuOff.n (by assumption))) | (exact Nat.ne_of_gt (LuOff.is (by assumption))) | (exact Nat.ne_of_gt (LuOff.id (by assumption))) | (refine Nat.ne_of_gt ?_; (try dsimp only); omega) | (refine Nat.ne_of_lt ?_; (try dsimp only); omega))); k_all) | fail)
  trivial
local macro_rules | `(tactic| k_all) => `(tactic| k_extra "lrow;151")
theorem kw_lroww152 : True := by
  (k_with "lrow;152" => first | (first | assumption | (exact Nat.ne_of_gt (by assumption)) | (exact Nat.ne_of_lt (by assumption)) | (exact LuOff.n (by assumption)) | (exact Ne.symm (LuOff.n (by assumption))) | (exact Nat.ne_of_gt (LuOff.is (by assumption))) | (exact Nat.ne_of_gt (LuOff.id (by assumption))) | (refine Nat.ne_of_gt ?_; (try dsimp only); omega) | (refine Nat.ne_of_lt ?_; (try dsimp only); omega)) | fail)
  trivial
local macro_rules | `(tactic| k_ne) => `(tactic| k_extra "lrow;152")
theorem kw_lrow4 : True := by
  (k_with "lrow4" => first | (k_here; (with_reducible refine (?_ : wpAny _ _ (pyIter (Value.ref _)) (fun it s₂ => TurnsAt _ _ _ _ _ _ _ _ _ it s₂) _ _)); (rename Fr _ _ _ _ => lF'); (rename News _ _ _ _ => lN'); (rename IsRange _ _ _ _ _ _ _ _ => rgX); (with_unfolding_all refine' iter_rangeTurns (by rfl) rgX ?ks_lrow4 ?kz_lrow4 lF' lN' ?_; (case ks_lrow4 => exact small_one (by l_bnd) (by l_bnd) (by l_bnd) (by l_bnd)); (case kz_lrow4 => exact rangeSize_nat _ _); k_whole); clear lF' lN' rgX; intro i' l1; (try k_lt l1)) | fail)
  (k_with "lrow5" => first | (k_here; refine Hold.intro ?_) | fail)
  (k_with "lrow6" => first | (k_here; k_dflt (refine' kdn_str ?q_lrow6 ?F_lrow6 ?N_lrow6 ?b_lrow6 ?a_lrow6 ?l_lrow6 ?e_lrow6 ?n_lrow6 ?_; (case q_lrow6 => rfl); (case F_lrow6 => k_asm); (case N_lrow6 => k_asm); (case b_lrow6 => exact Top.nolimit (by k_asm)); (case a_lrow6 => rfl); (case l_lrow6 => rfl); (case e_lrow6 => exact List.cons_ne_nil _ _); (case n_lrow6 => exact Nat.le_of_ble_eq_true rfl)); intro d' h' o' F' N' l1 lo' hd'; (try k_lt l1)) | fail)
  (k_with "lrow7" => first | (k_here; k_dflt (refine' kdn_made_str ?F_lrow7 ?N_lrow7 ?U_lrow7 ?d_lrow7 ?k_lrow7 ?n_lrow7 ?_; (case F_lrow7 => k_asm); (case N_lrow7 => k_asm); (case U_lrow7 => exact UpdF.head (by ((repeat' (first | assumption | (exact LuOff.s (by assumption)) | (exact LuOff.d (by assumption)) | refine all_cons ?_ ?_ | refine all_app ?_ ?_ | (first | assumption | (exact Nat.ne_of_gt (by assumption)) | (exact Nat.ne_of_lt (by assumption)) | (exact LuOff.n (by assumption)) | (exact Ne.symm (LuOff.n (by assumption))) | (exact Nat.ne_of_gt (LuOff.is (by assumption))) | (exact Nat.ne_of_gt (LuOff.id (by assumption))) | (refine Nat.ne_of_gt ?_; (try dsimp only); omega) | (refine Nat.ne_of_lt ?_; (try dsimp only); omega)) | (exact fun p hp => Nat.ne_of_lt (ltAll (by assumption) p hp)) | (refine' fresh_ne ?f_lrow7 ?m_lrow7; (case f_lrow7 => assumption); (case m_lrow7 => k_mem))))))); (case d_lrow7 => k_asm); (case k_lrow7 => rfl); (case n_lrow7 => exact of_decide_eq_true (by first | rfl | kernel_rfl!)); intro h' o' F' N' hd'); (try dsimp only at N')) | fail)
  (k_with "lrow8" => first | (k_here; (with_reducible refine (?_ : wpAny _ _ (call (Value.builtin _) [Value.ref _, _]) _ _ _)); k_dflt (refine' append_K ?k1_lrow8 ?k2_lrow8 ?k3_lrow8 ?_ ?z_lrow8; (case k1_lrow8 => k_asm); (case k2_lrow8 => k_asm); (case k3_lrow8 => k_upd); (case z_lrow8 => (refine Nat.le_trans (m := 100) ?_ (by decide); (try simp only [List.size_toArray, Array.size_push]); omega)); k_whole); intro h' F' N'; (try k_sweep)) | fail)
  (k_with "lrow9" => first | (k_here; (with_reducible refine (?_ : wpAny _ _ (call (Value.ref 310) _) _ _ _)); (try ((fail_if_success (fail_if_success k_fold)); (refine fold1 ?_); intro qk)); k_dflt (refine' Call.use (c_oneP (P := fun s => ¬ s = S "use") ?hS_lrow9 ?off_lrow9 ?mt_lrow9 ?z0_lrow9 ?z1_lrow9 ?hP_lrow9) ?k1_lrow9 ?k2_lrow9 ?k3_lrow9 ?k4_lrow9 ?k5_lrow9 ?k6_lrow9 ?kd_lrow9 ?ku_lrow9 (Cut.all ?kC_lrow9) ?_; (case k1_lrow9 => k_asm); (case k2_lrow9 => k_asm); (case k3_lrow9 => k_asm); (case k4_lrow9 => k_asm); (case k5_lrow9 => k_asm); (case k6_lrow9 => first | exact rfl | assumption); (case kd_lrow9 => ktr_room); (case ku_lrow9 => ktr_units); (case kC_lrow9 => (repeat' (first | exact Cut.here | refine' Cut.there ?_))); (case hS_lrow9 => assumption); (case mt_lrow9 => k_mem); (case hP_lrow9 => exact kinds5 (by decide) (by decide) (by decide) (by decide) (by decide)); (case z0_lrow9 => show 0 < 5; decide); (case z1_lrow9 => show 5 < 1000; decide); (case off_lrow9 => k_all); k_whole); (k_dflt (refine' ret_oneP ?_)); intro s9 t9 o9 h9 tk9 F9 N9 g09 g19; (try k_sweep); (try dsimp only); (try k_fold)) | fail)
  (k_with "lrow10" => first | (k_here; (with_reducible refine (?_ : wpAny _ _ (call (Value.ref 317) _) _ _ _)); (try ((fail_if_success (fail_if_success k_fold)); (refine fold1 ?_); intro qk)); k_dflt (refine' Call.use (c_use ?hS_lrow10 ?z0_lrow10 ?z1_lrow10 ?off_lrow10) ?k1_lrow10 ?k2_lrow10 ?k3_lrow10 ?k4_lrow10 ?k5_lrow10 ?k6_lrow10 ?kd_lrow10 ?ku_lrow10 (Cut.all ?kC_lrow10) ?_; (case k1_lrow10 => k_asm); (case k2_lrow10 => k_asm); (case k3_lrow10 => k_asm); (case k4_lrow10 => k_asm); (case k5_lrow10 => k_asm); (case k6_lrow10 => first | exact rfl | assumption); (case kd_lrow10 => ktr_room); (case ku_lrow10 => ktr_units); (case kC_lrow10 => (repeat' (first | exact Cut.here | refine' Cut.there ?_))); (case hS_lrow10 => assumption); (case z0_lrow10 => assumption); (case z1_lrow10 => assumption); (case off_lrow10 => k_all); k_whole); (k_dflt (refine' ret_use ?_)); intro v9 o9 tl9 ws9 h9 tk9 F9 N9 g09 g19 g29 g39 g49; (try k_sweep); (try dsimp only); (try k_fold)) | fail)
  trivial
theorem c_row {w : World} {src : Addr} {o : Obj} {number many : Int} {tk tk2 : Tok} {D : Led} (hS : SrcOk o) (h0 : 0 ≤ number) (h4 : number ≤ 4) (h1 : 1 ≤ many) (h5 : many ≤ 5) (off : ∀ p ∈ D, @Ne Nat p.1 src) :
    Call w 30 324 [.ref src, .int number tk, .int many tk2] ((src, o) :: D) (RowPost w src o D) := by
  constructor
  intro dp un gd cn cs a ccd cl outer A₀ base h₀ L m sh sg sd st so mean mg mb Q E B F X N T hk hdp hun ret
  skip
  refine wpAny_call ?_
  k_dflt ktr_enter
  (repeat' (first | k_extra "sa" | k_extra "b186" | k_extra "b187" | k_extra "b188" | k_extra "b5" | k_extra "b1" | k_extra "b189" | k_extra "b23" | k_extra "b2" | k_extra "b190" | k_extra "sz"))
  unfold Hold
  (rename Fr _ _ _ _ => lF'); (rename News _ _ _ _ => lN'); (rename Obj.IsDictOf _ _ _ => lD')
  refine' row_if (D := D) lF' lN' (.tail _ (.tail _ (.tail _ (.head _)))) (.tail _ (.tail _ (.head _))) (.tail _ (.head _)) ?uh ?uk
  case uh =>
    (repeat' (first | k_extra "sa" | k_extra "b4" | k_extra "b5" | k_extra "b1" | k_extra "sz"))
    · refine' ⟨rfl, _, _, _, _, _, _, rfl, ?vf, lr_sub ?vn, ?vs, ?vd, ?vw, ?vl⟩
      case vf => k_asm
      case vn => assumption
      case vs => assumption
      case vd => assumption
      case vw => exact ws_two
      case vl => exact Nat.le_refl 2
    · refine' ⟨rfl, _, _, _, _, _, _, rfl, ?vf, lr_sub ?vn, ?vs, ?vd, ?vw, ?vl⟩
      case vf => k_asm
      case vn => assumption
      case vs => assumption
      case vd => assumption
      case vw => exact ws_one
      case vl => exact Nat.le_of_ble_eq_true rfl
  case uk =>
    clear lF' lN' lD'
    intro h8 tk8 o8 od8 kv8 ws8 F8 N8 S8 hd8 hw8 hz8
    (repeat' (first | k_extra "sa" | k_extra "b191" | k_extra "sz"))
    ((unfold Hold; (rename Fr _ _ _ _ => lF'); with_reducible refine' For_turns lF' ?h ?hs ?hE; (case hs => exact fun _ => fold_call); (case hE => passes_own)))
    (repeat' (first | k_extra "sa" | k_extra "b192" | k_extra "b4" | k_extra "b13" | k_extra "b5" | k_extra "b1" | k_extra "b193" | k_extra "sz"))
    all_goals unfold Hold
    · refine' items_ind1 (LrInv w src _ ?R _ (S "turn")) ?zs ?zd ?zi
      case zi =>
        refine' lr_init (k := 0) ?ho S8 (.head _) (.tail _ (.tail _ (.head _))) lr_sub3 ?m4
        case m4 => decide
        case ho => exact ⟨by ((repeat' (first | assumption | (exact LuOff.s (by assumption)) | (exact LuOff.d (by assumption)) | refine all_cons ?_ ?_ | refine all_app ?_ ?_ | (first | assumption | (exact Nat.ne_of_gt (by assumption)) | (exact Nat.ne_of_lt (by assumption)) | (exact LuOff.n (by assumption)) | (exact Ne.symm (LuOff.n (by assumption))) | (exact Nat.ne_of_gt (LuOff.is (by assumption))) | (exact Nat.ne_of_gt (LuOff.id (by assumption))) | (refine Nat.ne_of_gt ?_; (try dsimp only); omega) | (refine Nat.ne_of_lt ?_; (try dsimp only); omega)) | (exact fun p hp => Nat.ne_of_lt (ltAll (by assumption) p hp)) | (refine' fresh_ne ?f ?m; (case f => assumption); (case m => k_mem))))), by ((repeat' (first | assumption | (exact LuOff.s (by assumption)) | (exact LuOff.d (by assumption)) | refine all_cons ?_ ?_ | refine all_app ?_ ?_ | (first | assumption | (exact Nat.ne_of_gt (by assumption)) | (exact Nat.ne_of_lt (by assumption)) | (exact LuOff.n (by assumption)) | (exact Ne.symm (LuOff.n (by assumption))) | (exact Nat.ne_of_gt (LuOff.is (by assumption))) | (exact Nat.ne_of_gt (LuOff.id (by assumption))) | (refine Nat.ne_of_gt ?_; (try dsimp only); omega) | (refine Nat.ne_of_lt ?_; (try dsimp only); omega)) | (exact fun p hp => Nat.ne_of_lt (ltAll (by assumption) p hp)) | (refine' fresh_ne ?f ?m; (case f => assumption); (case m => k_mem))))), by (first | assumption | (exact Nat.ne_of_gt (by assumption)) | (exact Nat.ne_of_lt (by assumption)) | (exact LuOff.n (by assumption)) | (exact Ne.symm (LuOff.n (by assumption))) | (exact Nat.ne_of_gt (LuOff.is (by assumption))) | (exact Nat.ne_of_gt (LuOff.id (by assumption))) | (refine Nat.ne_of_gt ?_; (try dsimp only); omega) | (refine Nat.ne_of_lt ?_; (try dsimp only); omega)), by ((repeat' (first | assumption | (exact fun p hp => ltAll (by assumption) p hp) | refine all_consL ?_ ?_ | (first | assumption | (dsimp only; assumption) | (dsimp only; omega))))), by (first | assumption | (dsimp only; assumption) | (dsimp only; omega)), by (first | assumption | (dsimp only; assumption) | (dsimp only; omega))⟩
      case zs =>
        intro a r m1 news hI9 v h tk1 oI hv hcl F3 N3; (with_reducible refine (?_ : (let lG : Prop := _; lG))); intro lG; obtain ⟨o', vr, ys, k', tl, kids, x1, hoff, hxs, hS', q1, q2, q3, hT, hK, hz, f1, f2, f3, f4, rfl⟩ := hI9; k_unfold; clear lG
        cases vr with
        | nil => cases hxs
        | cons v1 vr =>
        rw [List.map_cons, List.cons.injEq] at hxs
        obtain ⟨rfl, rfl⟩ := hxs
        obtain ⟨t, rfl⟩ := hv
        rw [List.length_cons] at hz
        have N4 := lr_news N3 q1 q2 q3
        have hl := treesIn_len hT
        rw [Array.length_toList] at hl
        clear N3 q1 q2 q3
        (repeat' (first | k_extra "sa" | k_extra "b194" | k_extra "b195" | k_extra "b187" | k_extra "b5" | k_extra "b1" | k_extra "b189" | k_extra "b23" | k_extra "b2" | k_extra "b190" | k_extra "b25" | k_extra "sz"))
        · exact trivial
        · exact lr_end hoff (by assumption) (by k_mem) (by k_mem) lr_sub4 hT lr_sub5 (lr_path (.head _) (.tail _ (.head _)) (.tail _ (.tail _ (.head _))) (by assumption) ws_one (by assumption)) hK (okt_leaf (Nat.le_of_ble_eq_true rfl) fun e => absurd e (by decide)) hz (by ((repeat' (first | assumption | (exact LuOff.s (by assumption)) | (exact LuOff.d (by assumption)) | refine all_cons ?_ ?_ | refine all_app ?_ ?_ | (first | assumption | (exact Nat.ne_of_gt (by assumption)) | (exact Nat.ne_of_lt (by assumption)) | (exact LuOff.n (by assumption)) | (exact Ne.symm (LuOff.n (by assumption))) | (exact Nat.ne_of_gt (LuOff.is (by assumption))) | (exact Nat.ne_of_gt (LuOff.id (by assumption))) | (refine Nat.ne_of_gt ?_; (try dsimp only); omega) | (refine Nat.ne_of_lt ?_; (try dsimp only); omega)) | (exact fun p hp => Nat.ne_of_lt (ltAll (by assumption) p hp)) | (refine' fresh_ne ?f ?m; (case f => assumption); (case m => k_mem)))))) (by ((repeat' (first | assumption | (exact LuOff.s (by assumption)) | (exact LuOff.d (by assumption)) | refine all_cons ?_ ?_ | refine all_app ?_ ?_ | (first | assumption | (exact Nat.ne_of_gt (by assumption)) | (exact Nat.ne_of_lt (by assumption)) | (exact LuOff.n (by assumption)) | (exact Ne.symm (LuOff.n (by assumption))) | (exact Nat.ne_of_gt (LuOff.is (by assumption))) | (exact Nat.ne_of_gt (LuOff.id (by assumption))) | (refine Nat.ne_of_gt ?_; (try dsimp only); omega) | (refine Nat.ne_of_lt ?_; (try dsimp only); omega)) | (exact fun p hp => Nat.ne_of_lt (ltAll (by assumption) p hp)) | (refine' fresh_ne ?f ?m; (case f => assumption); (case m => k_mem)))))) (by ktr_rel) (by ((repeat' (first | assumption | (exact LuOff.s (by assumption)) | (exact LuOff.d (by assumption)) | refine all_cons ?_ ?_ | refine all_app ?_ ?_ | (first | assumption | (exact Nat.ne_of_gt (by assumption)) | (exact Nat.ne_of_lt (by assumption)) | (exact LuOff.n (by assumption)) | (exact Ne.symm (LuOff.n (by assumption))) | (exact Nat.ne_of_gt (LuOff.is (by assumption))) | (exact Nat.ne_of_gt (LuOff.id (by assumption))) | (refine Nat.ne_of_gt ?_; (try dsimp only); omega) | (refine Nat.ne_of_lt ?_; (try dsimp only); omega)) | (exact fun p hp => Nat.ne_of_lt (ltAll (by assumption) p hp)) | (refine' fresh_ne ?f ?m; (case f => assumption); (case m => k_mem)))))) lr_map
        · exact lr_turn (by k_asm) (by assumption) hoff (by assumption) hT (by assumption) hK (by assumption) (by assumption) hz f1 f2 f3 f4 (by assumption) lr_map
      case zd =>
        intro m1 news hI9 h tk1 F3 N3; (with_reducible refine (?_ : (let lG : Prop := _; lG))); intro lG; obtain ⟨o', vr, ys, k', tl, kids, x1, hoff, hxs, hS', q1, q2, q3, hT, hK, hz, f1, f2, f3, f4, rfl⟩ := hI9; k_unfold; clear lG
        have hz' : kids.length ≤ 2 := by omega
        (repeat' (first | k_extra "sa" | k_extra "b189" | k_extra "b23" | k_extra "sz"))
        rename AllLt _ news => lX
        obtain ⟨D', hN, hP⟩ := lr_fin (o0 := o) (tl := tl) (by assumption) (by assumption) (.head _) (.tail _ q2) (.tail _ q1) (.tail _ (q3 _ (List.mem_append_right _ (.head _)))) (fun p hp => .tail _ (q3 p ((List.mem_append.mp hp).elim (List.mem_append_left _) fun hp => List.mem_append_right _ (.tail _ hp)))) hS' hT hK hz' hd8 hw8 (by assumption) hz8 (lr_ne lX q1 q3) (by ktr_rel) (by ktr_rel) f1 (f3.sub fun p hp => .tail _ hp)
        exact ret _ _ _ D' (by k_asm) hN hP
    · refine' items_ind1 (LrInv w src _ ?R _ (S "turn")) ?zs ?zd ?zi
      case zi =>
        refine' lr_init (k := 0) ?ho (by assumption) (.head _) (.tail _ (.tail _ (.head _))) lr_sub3 ?m4
        case m4 => omega
        case ho => exact ⟨by ((repeat' (first | assumption | (exact LuOff.s (by assumption)) | (exact LuOff.d (by assumption)) | refine all_cons ?_ ?_ | refine all_app ?_ ?_ | (first | assumption | (exact Nat.ne_of_gt (by assumption)) | (exact Nat.ne_of_lt (by assumption)) | (exact LuOff.n (by assumption)) | (exact Ne.symm (LuOff.n (by assumption))) | (exact Nat.ne_of_gt (LuOff.is (by assumption))) | (exact Nat.ne_of_gt (LuOff.id (by assumption))) | (refine Nat.ne_of_gt ?_; (try dsimp only); omega) | (refine Nat.ne_of_lt ?_; (try dsimp only); omega)) | (exact fun p hp => Nat.ne_of_lt (ltAll (by assumption) p hp)) | (refine' fresh_ne ?f ?m; (case f => assumption); (case m => k_mem))))), by ((repeat' (first | assumption | (exact LuOff.s (by assumption)) | (exact LuOff.d (by assumption)) | refine all_cons ?_ ?_ | refine all_app ?_ ?_ | (first | assumption | (exact Nat.ne_of_gt (by assumption)) | (exact Nat.ne_of_lt (by assumption)) | (exact LuOff.n (by assumption)) | (exact Ne.symm (LuOff.n (by assumption))) | (exact Nat.ne_of_gt (LuOff.is (by assumption))) | (exact Nat.ne_of_gt (LuOff.id (by assumption))) | (refine Nat.ne_of_gt ?_; (try dsimp only); omega) | (refine Nat.ne_of_lt ?_; (try dsimp only); omega)) | (exact fun p hp => Nat.ne_of_lt (ltAll (by assumption) p hp)) | (refine' fresh_ne ?f ?m; (case f => assumption); (case m => k_mem))))), by (first | assumption | (exact Nat.ne_of_gt (by assumption)) | (exact Nat.ne_of_lt (by assumption)) | (exact LuOff.n (by assumption)) | (exact Ne.symm (LuOff.n (by assumption))) | (exact Nat.ne_of_gt (LuOff.is (by assumption))) | (exact Nat.ne_of_gt (LuOff.id (by assumption))) | (refine Nat.ne_of_gt ?_; (try dsimp only); omega) | (refine Nat.ne_of_lt ?_; (try dsimp only); omega)), by ((repeat' (first | assumption | (exact fun p hp => ltAll (by assumption) p hp) | refine all_consL ?_ ?_ | (first | assumption | (dsimp only; assumption) | (dsimp only; omega))))), by (first | assumption | (dsimp only; assumption) | (dsimp only; omega)), by (first | assumption | (dsimp only; assumption) | (dsimp only; omega))⟩
      case zs =>
        intro a r m1 news hI9 v h tk1 oI hv hcl F3 N3; (with_reducible refine (?_ : (let lG : Prop := _; lG))); intro lG; obtain ⟨o', vr, ys, k', tl, kids, x1, hoff, hxs, hS', q1, q2, q3, hT, hK, hz, f1, f2, f3, f4, rfl⟩ := hI9; k_unfold; clear lG
        cases vr with
        | nil => cases hxs
        | cons v1 vr =>
        rw [List.map_cons, List.cons.injEq] at hxs
        obtain ⟨rfl, rfl⟩ := hxs
        obtain ⟨t, rfl⟩ := hv
        rw [List.length_cons] at hz
        have N4 := lr_news N3 q1 q2 q3
        have hl := treesIn_len hT
        rw [Array.length_toList] at hl
        clear N3 q1 q2 q3
        (repeat' (first | k_extra "sa" | k_extra "b194" | k_extra "b195" | k_extra "b187" | k_extra "b5" | k_extra "b1" | k_extra "b189" | k_extra "b23" | k_extra "b2" | k_extra "b190" | k_extra "b25" | k_extra "sz"))
        · exact trivial
        · exact lr_end hoff (by assumption) (by k_mem) (by k_mem) lr_sub4 hT lr_sub5 (lr_path (.head _) (.tail _ (.head _)) (.tail _ (.tail _ (.head _))) (by assumption) ws_one (by assumption)) hK (okt_leaf (Nat.le_of_ble_eq_true rfl) fun e => absurd e (by decide)) hz (by ((repeat' (first | assumption | (exact LuOff.s (by assumption)) | (exact LuOff.d (by assumption)) | refine all_cons ?_ ?_ | refine all_app ?_ ?_ | (first | assumption | (exact Nat.ne_of_gt (by assumption)) | (exact Nat.ne_of_lt (by assumption)) | (exact LuOff.n (by assumption)) | (exact Ne.symm (LuOff.n (by assumption))) | (exact Nat.ne_of_gt (LuOff.is (by assumption))) | (exact Nat.ne_of_gt (LuOff.id (by assumption))) | (refine Nat.ne_of_gt ?_; (try dsimp only); omega) | (refine Nat.ne_of_lt ?_; (try dsimp only); omega)) | (exact fun p hp => Nat.ne_of_lt (ltAll (by assumption) p hp)) | (refine' fresh_ne ?f ?m; (case f => assumption); (case m => k_mem)))))) (by ((repeat' (first | assumption | (exact LuOff.s (by assumption)) | (exact LuOff.d (by assumption)) | refine all_cons ?_ ?_ | refine all_app ?_ ?_ | (first | assumption | (exact Nat.ne_of_gt (by assumption)) | (exact Nat.ne_of_lt (by assumption)) | (exact LuOff.n (by assumption)) | (exact Ne.symm (LuOff.n (by assumption))) | (exact Nat.ne_of_gt (LuOff.is (by assumption))) | (exact Nat.ne_of_gt (LuOff.id (by assumption))) | (refine Nat.ne_of_gt ?_; (try dsimp only); omega) | (refine Nat.ne_of_lt ?_; (try dsimp only); omega)) | (exact fun p hp => Nat.ne_of_lt (ltAll (by assumption) p hp)) | (refine' fresh_ne ?f ?m; (case f => assumption); (case m => k_mem)))))) (by ktr_rel) (by ((repeat' (first | assumption | (exact LuOff.s (by assumption)) | (exact LuOff.d (by assumption)) | refine all_cons ?_ ?_ | refine all_app ?_ ?_ | (first | assumption | (exact Nat.ne_of_gt (by assumption)) | (exact Nat.ne_of_lt (by assumption)) | (exact LuOff.n (by assumption)) | (exact Ne.symm (LuOff.n (by assumption))) | (exact Nat.ne_of_gt (LuOff.is (by assumption))) | (exact Nat.ne_of_gt (LuOff.id (by assumption))) | (refine Nat.ne_of_gt ?_; (try dsimp only); omega) | (refine Nat.ne_of_lt ?_; (try dsimp only); omega)) | (exact fun p hp => Nat.ne_of_lt (ltAll (by assumption) p hp)) | (refine' fresh_ne ?f ?m; (case f => assumption); (case m => k_mem)))))) lr_map
        · exact lr_turn (by k_asm) (by assumption) hoff (by assumption) hT (by assumption) hK (by assumption) (by assumption) hz f1 f2 f3 f4 (by assumption) lr_map
      case zd =>
        intro m1 news hI9 h tk1 F3 N3; (with_reducible refine (?_ : (let lG : Prop := _; lG))); intro lG; obtain ⟨o', vr, ys, k', tl, kids, x1, hoff, hxs, hS', q1, q2, q3, hT, hK, hz, f1, f2, f3, f4, rfl⟩ := hI9; k_unfold; clear lG
        have hz' : kids.length ≤ 2 := by omega
        (repeat' (first | k_extra "sa" | k_extra "b189" | k_extra "b23" | k_extra "sz"))
        rename AllLt _ news => lX
        obtain ⟨D', hN, hP⟩ := lr_fin (o0 := o) (tl := tl) (by assumption) (by assumption) (.head _) (.tail _ q2) (.tail _ q1) (.tail _ (q3 _ (List.mem_append_right _ (.head _)))) (fun p hp => .tail _ (q3 p ((List.mem_append.mp hp).elim (List.mem_append_left _) fun hp => List.mem_append_right _ (.tail _ hp)))) hS' hT hK hz' hd8 hw8 (by assumption) hz8 (lr_ne lX q1 q3) (by ktr_rel) (by ktr_rel) f1 (f3.sub fun p hp => .tail _ hp)
        exact ret _ _ _ D' (by k_asm) hN hP
end
end

end
section
theorem reset_lpool : True := by
  (w_top off)
  trivial
section
-- part lpool
theorem pool_ok {a y : Int} {t1 t2 : Tok} {n : Nat} (h : 0 ≤ a) : SrcOk (listOf #[.int a t1, .int (y.fmod 2147483647) t2] n) :=
  ⟨a, _, t1, t2, n, rfl, h, Int.fmod_nonneg_of_pos _ (by decide), Int.fmod_lt_of_pos _ (by decide)⟩
theorem pool_nn {c : Int} {p : Prop} [Decidable p] : 0 ≤ (if -1 - c > c then -1 - c else c) * (if p then (1 : Int) else 0) := by
  refine Int.mul_nonneg ?_ ?_
  · split <;> omega
  · split <;> omega
theorem c_pool {w : World} {dp un : Nat} {gd : Option (List Code)} {cn : Str} {cs : Scope} {a : Addr} {ccd : Value} {cl : List (Str × Addr)} {outer : List Env} {A₀ : Around} {base h₀ : Heap} {L : Addr} {m : Str → Option Value} {s : Shared} {mean : ExcName → Option Value} {mg mb : Str → Option Value} {Q E : Value → Shared → Prop}
    {sl : Addr} {vs : List Value} {xs : List Int} {D : Led} {t : Tok} (B : Below A₀ base outer h₀) (F : Fr h₀ L s.heap m) (X : (hd.heap_1 w.params).In h₀) (N : News h₀ L s.heap D) (T : Top vw lse mean mg mb h₀) (hk : cs.kind = .function) (hdp : dp + 3 < 690) (hun : un + 90 < 9000)
    (hL : h₀.IsList sl vs.toArray) (hI : IntsAre vs xs) (hla : (PyData.list (List.map PyData.int xs)).layable0 = true) (hlen : ¬ ((63 : Nat) : Int) < (xs.length : Int))
    (ret : ∀ src h' tk' o, AllLt src D → Fr h₀ L h' m → News h₀ L h' ((src, o) :: D) → SrcOk o → Q (.ref src) { s with heap := h', toks := tk' }) :
    wpAny (model PySem.Challenge.rw_pf0193_01.row.toRowW.prog w) (ktrTop dp un gd cn cs L a ccd cl outer) (call (.ref 296) [.ref sl, .int 0 t]) Q E s := by
  skip
  refine wpAny_call ?_
  k_dflt ktr_enter
  (rename Fr h₀ L _ m => lFG)
  have hL2 := Fr.lst lFG hL
  clear hL
  (repeat' (first | k_extra "sa" | k_extra "b38" | k_extra "b43" | k_extra "b5" | k_extra "b1" | k_extra "b23" | k_extra "b2" | k_extra "sz"))
  all_goals exact ret _ _ _ _ (by ktr_rel) (by k_asm) (by assumption) (pool_ok pool_nn)
end

end
section
local macro_rules | `(tactic| k_ne) => `(tactic| k_extra "mapc;0")
theorem reset_rsrc : True := by
  (w_top off)
  trivial
section
-- part rsrc
noncomputable def TPairs (w : World) (D : Led) : List Value → List (Str × T) → Prop
  | [], [] => True
  | v :: vs, p :: ps => (∃ x n t e, v = .ref x ∧ (x, tupObj #[.str p.1 t, e] n) ∈ D ∧ TreeIn w D e p.2) ∧ TPairs w D vs ps
  | _, _ => False
theorem TPairs.mono {w : World} {D D' : Led} (h : ∀ p ∈ D, p ∈ D') : ∀ {vs : List Value} {ws : List (Str × T)}, TPairs w D vs ws → TPairs w D' vs ws
  | [], [], _ => trivial
  | [], _ :: _, x => x.elim
  | _ :: _, [], x => x.elim
  | _ :: _, _ :: _, ⟨⟨x, n, t, e, e1, m, me⟩, r⟩ => ⟨⟨x, n, t, e, e1, h _ m, TreeIn.mono h me⟩, TPairs.mono h r⟩
theorem TPairs.snoc {w : World} {D : Led} {v : Value} {p : Str × T} : ∀ {vs : List Value} {ws : List (Str × T)}, TPairs w D vs ws → (∃ x n t e, v = .ref x ∧ (x, tupObj #[.str p.1 t, e] n) ∈ D ∧ TreeIn w D e p.2) → TPairs w D (vs ++ [v]) (ws ++ [p])
  | [], [], _, x => ⟨x, trivial⟩
  | [], _ :: _, h, _ => h.elim
  | _ :: _, [], h, _ => h.elim
  | _ :: _, _ :: _, h, x => ⟨h.1, TPairs.snoc h.2 x⟩
theorem TPairs.kvs {w : World} {D : Led} : ∀ {vs : List Value} {ws : List (Str × T)}, TPairs w D vs ws → ∃ kvs, IdsAre w (TreeIn w D) kvs ws ∧ vs.length = kvs.length ∧ ∀ (j : Nat) (v : Value), vs[j]? = some v → ∃ (k : Str) (x : Value) (t : Tok) (T : Addr) (n : Nat), kvs[j]? = some (k, x) ∧ v = Value.ref T ∧ (T, tupObj #[Value.str k t, x] n) ∈ D
  | [], [], _ => ⟨[], trivial, rfl, fun j v h => by simp at h⟩
  | [], _ :: _, h => h.elim
  | _ :: _, [], h => h.elim
  | v :: vs, (a, b) :: ws, ⟨⟨x, n, t, e, e1, m, me⟩, r⟩ => by
    refine exC1 (TPairs.kvs r) ?_; intro kvs hR; refine anC3 hR ?_; clear hR; intro h1 h2 h3
    refine ⟨(a, e) :: kvs, ⟨⟨rfl, me⟩, h1⟩, by rw [List.length_cons, List.length_cons, h2], fun j u hj => ?_⟩
    cases j with
    | zero =>
      cases hj
      exact exI5 a _ t x n ⟨rfl, e1, m⟩
    | succ j => exact h3 j u (by simpa using hj)
section
variable {prog : Program} {w : World} {A : Around} {E : Value → Shared → Prop} {s : Shared} {h₀ : Heap} {L : Addr} {m : Str → Option Value} {env : Env} {all : Led}
theorem dict_pairs_T {D : Led} {l : Addr} {ys : List Value} {nl : Nat} {ids : List (Str × T)} {Q : Value → Shared → Prop}
    (F : Fr h₀ L s.heap m) (N : News h₀ L s.heap all) (hbig : h₀.NoLimit) (ml : (l, listOf ys.toArray nl) ∈ all) (hh : A.handled = none) (P : TPairs w D ys ids) (sub : ∀ p ∈ D, p ∈ all) (nd : (ids.map (·.1)).Nodup) (hsz : ids.length ≤ 100)
    (h : ∀ d h' tk o kvs, Fr h₀ L h' m → News h₀ L h' ((d, o) :: all) → (∀ p ∈ all, p.1 < d) → (d == sysModules) = false → o.IsDictOf (strKind prg w) kvs → IdsAre w (TreeIn w D) kvs ids → Q (.ref d) { s with heap := h', toks := tk }) :
    wpAny (model prg w) A (call (.type "dict") [.ref l]) Q E s := by
  refine exC1 (P.kvs) ?_; intro kvs hR; refine anC3 hR ?_; clear hR; intro h1 h2 h3
  refine dict_pairs_K (items := ys.toArray) F N hbig ml hh (by rw [List.size_toArray]; exact h2) (h1.keys ▸ nd) (by rw [h1.len]; exact hsz) (fun j v hj => ?_) fun d h' tk o a b c e f => ?_
  · refine exC5 (h3 j v (by simpa using hj)) ?_; intro k x t T n hR; refine anC3 hR ?_; clear hR; intro a1 a2 a3
    exact exI5 k x t T n ⟨a1, a2, sub _ a3⟩
  · exact h d h' tk o kvs a b c e f h1
theorem rng_src {elt : Expr} {x : Str} {scope : Scope} {cl : List (Str × Addr)} {r : Addr} {b : Int} {t₀ u₀ v₀ : Tok} {n : Nat} (nm : Nat → Str) (K : T → Prop) (P : Led → Prop) {st0 base0 : Led} {Q : Value → Shared → Prop}
    (hh : A.handled = none) (F : Fr h₀ L s.heap m) (N : News h₀ L s.heap (st0 ++ all)) (hP : P st0) (hr : IsRange s.heap r 0 b 1 t₀ u₀ v₀) (hsm : Builtin.Range.small 0 b 1 = true) (hn : Builtin.Range.rangeSize 0 b 1 = ((n : Nat) : Int)) (hz : n ≤ 16) (hb : ∀ p ∈ base0, p ∈ st0 ++ all) (hA : ∀ st, P st → st.map (·.1) = st0.map (·.1))
    (turn : ∀ {i : Nat} {t : Tok} {ys : List Value} {st tl : Led} {I : Addr} {oI : Obj} {C : Addr} {oC : Obj} {Dl : Addr} {m₂ : Str → Option Value} {h : Heap} {tk : Nat} {E' : Value → Shared → Prop} {QC : Value → Shared → Prop}, i < n → P st → Fresh base0 tl → LCg.NsObj oC m₂ → m₂ x = some (.int (i : Int) t) → Fr h₀ L h m →
      News h₀ L h ((I, oI) :: (C, oC) :: (Dl, LCg.lst ys) :: (st ++ (tl ++ all))) → (∀ p ∈ st ++ (tl ++ all), @Ne Nat p.1 I ∧ @Ne Nat p.1 C ∧ @Ne Nat p.1 Dl) →
      (∀ T h' tk' st' tl' k t' e tree, Fr h₀ L h' m → News h₀ L h' (st' ++ (tl' ++ ((I, oI) :: (C, oC) :: (Dl, LCg.lst ys) :: (tl ++ all)))) → P st' → Fresh ((I, oI) :: (C, oC) :: (Dl, LCg.lst ys) :: (st ++ (tl ++ all))) tl' → (T, tupObj #[.str (nm i) t', e] k) ∈ tl' → TreeIn w tl' e tree → K tree → QC (.ref T) { s with heap := h', toks := tk' }) →
      wpAny (model prog w) A (eval elt (compEnvC scope cl C env)) QC E' { s with heap := h, toks := tk })
    (fin : ∀ {ys : List Value} {ids : List (Str × T)} {st tl : Led} {D : Addr} {h : Heap} {tk : Nat}, P st → Fresh base0 tl → TPairs w tl ys ids → ids.map (·.1) = (List.range n).map nm → (∀ p ∈ ids, K p.2) → Fr h₀ L h m → News h₀ L h ((D, LCg.lst ys) :: (st ++ (tl ++ all))) → (∀ p ∈ st ++ (tl ++ all), @Ne Nat p.1 D) → Q (.ref D) { s with heap := h, toks := tk }) :
    LCg.CompSrc prog w A h₀ L m env elt x scope cl (fun s₂ => LCg.FinE h₀ L m s₂ Q) (.ref r) s := by
  refine LCg.CompSrc.range hh F N hr hsm hn (Nat.le_trans hz (by decide)) fun g => ?_
  refine compRest_ind (fun i ys news => ∃ st tl ids, news = st ++ (tl ++ all) ∧ P st ∧ Fresh base0 tl ∧ TPairs w tl ys ids ∧ ids.map (·.1) = (List.range i).map nm ∧ ∀ p ∈ ids, K p.2) ?_ ?_ _ (Nat.zero_add _) ⟨st0, [], [], rfl, hP, fresh_nil, trivial, rfl, fun _ h => nomatch h⟩
  · rintro i v ys news I oI C oC D m₂ h tk E' hi ⟨st, tl, ids, rfl, hp, fr, ha, hnm, hk⟩ ⟨t, rfl⟩ hC hx F' N' off
    rw [Int.zero_add] at hx
    refine turn hi hp fr hC hx F' N' (fun p hp => off.mem p hp) fun T h' tk' st' tl' k t' e tree F2 N2 hp' fr' mT hT hK => ?_
    refine LCg.CompEnd.intro F2 N2 (st' ++ (tl' ++ (tl ++ all))) ?_ (LCg.Off3.of fun p hp => ?_) trivial ⟨st', tl' ++ tl, ids ++ [(nm i, tree)], by rw [List.append_assoc], hp', ?_, ?_, ?_, ?_⟩
    · intro p hp
      simp only [List.mem_cons, List.mem_append] at hp ⊢
      grind
    · rcases List.mem_append.mp hp with hp | hp
      · have h1 : p.1 ∈ st.map (·.1) := by rw [hA st (by assumption), ← hA st' hp']; exact List.mem_map.mpr ⟨p, hp, rfl⟩
        obtain ⟨q, hq, e⟩ := List.mem_map.mp h1
        rw [← e]
        exact off.mem q (List.mem_append_left _ hq)
      rcases List.mem_append.mp hp with hp | hp
      · exact ⟨Ne.symm (fr' p hp (I, oI) (.head _)), Ne.symm (fr' p hp (C, oC) (.tail _ (.head _))), Ne.symm (fr' p hp (D, LCg.lst ys) (.tail _ (.tail _ (.head _))))⟩
      · exact off.mem p (List.mem_append_right _ hp)
    · refine fresh_app (fun p hp q hq => ?_) fr
      rcases List.mem_append.mp (hb q hq) with hq | hq
      · have h1 : q.1 ∈ st.map (·.1) := by rw [hA st (by assumption)]; exact List.mem_map.mpr ⟨q, hq, rfl⟩
        obtain ⟨q', hq', e⟩ := List.mem_map.mp h1
        rw [← e]
        exact fr' p hp q' (.tail _ (.tail _ (.tail _ (List.mem_append_left _ hq'))))
      · exact fr' p hp q (.tail _ (.tail _ (.tail _ (List.mem_append_right _ (List.mem_append_right _ hq)))))
    · exact (ha.mono fun p hp => List.mem_append_right _ hp).snoc ⟨T, k, t', e, rfl, List.mem_append_left _ mT, hT.mono fun p hp => List.mem_append_left _ hp⟩
    · rw [List.map_append, hnm, List.range_succ, List.map_append]; rfl
    · intro p hp
      rcases List.mem_append.mp hp with hp | hp
      · exact hk p hp
      · rw [List.mem_singleton.mp hp]; exact hK
  · intro ys news hI9; refine exC3 hI9 ?_; (try clear hI9); intro st tl ids hR; refine anC6 hR ?_; clear hR; intro hO3 hp fr ha hnm hk; subst hO3
    intro D h tk F' N' o1
    exact fin hp fr ha hnm hk F' N' (off1_all o1)
end
end

theorem reset_lchain : True := by
  (w_top off)
  (k_with "b196" => first | ((with_reducible refine (?_ : wpAny _ _ (eval (Expr.ListComp _ _ _ _) _) _ _ _)); first | (with_reducible (k_extra "lchain4")) | fail) | fail)
  (k_with "b197" => first | ((fail_if_success (with_reducible refine (?_ : wpAny _ _ _ _ _ _))); first | ((with_reducible refine (?_ : LCg.CompSrc ..)); first | (with_reducible (k_extra "lchain5")) | fail) | fail) | fail)
  (k_with "b198" => first | ((with_reducible refine (?_ : wpAny _ _ (eval (Expr.Dict [] [] _) _) _ _ _)); first | (with_reducible (k_extra "lchain9")) | fail) | fail)
  (k_with "b199" => first | ((with_reducible refine (?_ : wpAny _ _ (call (Value.type "str") _) _ _ _)); first | (with_reducible (k_extra "lchain7")) | fail) | fail)
  (k_with "b200" => first | ((with_reducible refine (?_ : wpAny _ _ (eval (Expr.Dict _ _ _) _) _ _ _)); first | (with_reducible (k_extra "lchain2")) | fail) | fail)
  (k_with "b201" => first | ((with_reducible refine (?_ : wpAny _ _ (newTuple _) _ _ _)); first | (with_reducible (k_extra "lchain1")) | fail) | fail)
  (k_with "b202" => first | ((fail_if_success (with_reducible refine (?_ : wpAny _ _ _ _ _ _))); first | ((with_reducible refine (?_ : KdnMade ..)); first | (with_reducible (k_extra "lchain3")) | fail) | fail) | fail)
  (k_with "b203" => first | ((with_reducible refine (?_ : wpAny _ _ (setItem (Value.ref _) (Value.str _ _) _) _ _ _)); first | (with_reducible (k_extra "lchain10")) | fail) | fail)
  (k_with "b204" => first | ((with_reducible refine (?_ : wpAny _ _ (call (Value.type "dict") _) _ _ _)); first | (with_reducible (k_extra "lchain6")) | fail) | fail)
  trivial
section
-- part lchain
noncomputable def IdsPost (w : World) (D : Led) (v : Value) (D' : Led) : Prop :=
  ∃ d tl ids, v = .ref d ∧ D' = tl ++ D ∧ Fresh D tl ∧ IdsIn w (TreeIn w) tl d ids ∧ IdsOk ids ∧ lookT ids (S "") = none ∧ List.length ids ≤ 16
noncomputable def eNm (i : Nat) : Str := S "e" ++ Str.ofString (toString (i : Int))
theorem str_small {prog : Program} {w : World} {A : Around} {E : Value → Shared → Prop} {s : Shared} {a : Int} {t : Tok} {Q : Value → Shared → Prop} (h0 : 0 ≤ a) (h1 : a ≤ 100) (k : Q (.str (Str.ofString (toString a)) s.toks) { s with toks := s.toks + 1 }) : wpAny (model prog w) A (call (.type "str") [.int a t]) Q E s :=
  P.str_of_int (shown (N := 101) (by omega) (by omega) (by decide)) k
theorem toStr_len {g : Int} (h0 : 0 ≤ g) (h6 : g ≤ 14) : (Str.ofString (toString g)).length ≤ 16 :=
  small_all (P := fun g => (Str.ofString (toString g)).length ≤ 16) (N := 15) (by decide +kernel) h0 (Int.lt_add_one_of_le h6)
theorem add_e {prog : Program} {w : World} {A : Around} {E : Value → Shared → Prop} {s : Shared} {x : Str} {g : Int} {t u : Tok} {Q : Value → Shared → Prop} (h0 : 0 ≤ g) (h6 : g ≤ 14) (hx : x.length ≤ 16) (h : ∀ t' k, Q (.str (x ++ Str.ofString (toString g)) t') { s with toks := k }) :
    wpAny (model prog w) A (binaryOp .Add (.str x t) (.str (Str.ofString (toString g)) u)) Q E s :=
  PySem.SB.add h (Nat.le_trans (Nat.add_le_add hx (toStr_len h0 h6)) (by decide +kernel))
theorem eNm_nodup {n : Nat} (h : n ≤ 16) : ((List.range n).map eNm).Nodup :=
  ((List.range_sublist.mpr h).map eNm).nodup (by decide +kernel)
theorem ch_tree {w : World} {x y l u lu du dg : Addr} {ox odu odg : Obj} {k1 k2 : Nat} {t1 t2 t3 t4 t5 : Tok} {v : Str} (hg : odg.IsDictOf (strKind prg w) []) (hu : odu.IsDictOf (strKind prg w) (strPairs [(.str (S "href") t5, .str v t1)])) (lg : (dg == sysModules) = false) (lu' : (du == sysModules) = false) {t6 : Tok} :
    TreeIn w [(x, ox), (y, ({ cls := .type "tuple", data := .seq #[.str (S "g") t2, .ref dg, .ref l, .str (S "") t3] } : Obj)), (l, listOf #[.ref u] k1), (u, ({ cls := .type "tuple", data := .seq #[.str (S "use") t4, .ref du, .ref lu, .str (S "") t6] } : Obj)), (lu, listOf #[] k2), (du, odu), (dg, odg)] (.ref y) (.mk (S "g") [] [.mk (S "use") [(S "href", v)] [] (S "")] (S "")) := by
  unfold TreeIn
  refine ⟨y, dg, l, k1, #[.ref u], _, _, rfl, .tail _ (.head _), ⟨odg, [], ?_, hg, trivial, lg⟩, .tail _ (.tail _ (.head _)), ?_⟩
  · simp only [List.mem_cons, true_or, or_true]
  · show TreesIn w _ [.ref u] _
    unfold TreesIn
    refine ⟨?_, by unfold TreesIn; trivial⟩
    unfold TreeIn
    exact ⟨u, du, lu, k2, #[], t4, t6, rfl, .tail _ (.tail _ (.tail _ (.head _))), ⟨odu, _, .tail _ (.tail _ (.tail _ (.tail _ (.tail _ (.head _))))), hu, ws_one, lu'⟩, .tail _ (.tail _ (.tail _ (.tail _ (.head _)))), by unfold TreesIn; trivial⟩
theorem goal_ok' {g : Int} (h0 : 0 ≤ g) (h6 : g ≤ 14) : Txt.slice (S "#e" ++ Str.ofString (toString g)) none (some 1) = S "#" ∧ (S "#e" ++ Str.ofString (toString g)).length ≤ 16 :=
  small_all (P := fun g => Txt.slice (S "#e" ++ Str.ofString (toString g)) none (some 1) = S "#" ∧ (S "#e" ++ Str.ofString (toString g)).length ≤ 16) (N := 15) (by decide +kernel) h0 (Int.lt_add_one_of_le h6)
theorem ch_ok {g : Int} (h0 : 0 ≤ g) (h6 : g ≤ 14) : OkT (.mk (S "g") [] [.mk (S "use") [(S "href", S "#e" ++ Str.ofString (toString g))] [] (S "")] (S "")) ∧ height (.mk (S "g") [] [.mk (S "use") [(S "href", S "#e" ++ Str.ofString (toString g))] [] (S "")] (S "")) ≤ 2 ∧ List.length (T.mk (S "g") [] [.mk (S "use") [(S "href", S "#e" ++ Str.ofString (toString g))] [] (S "")] (S "")).ws ≤ 12 := by
  have hw : WsOk [(S "href", S "#e" ++ Str.ofString (toString g))] := fun p hp => by
    rw [List.mem_singleton.mp hp]
    exact ent_href true (goal_ok' h0 h6).1 (goal_ok' h0 h6).2
  have a := okt_leaf (nm := S "use") (tx := S "") (ws := [(S "href", S "#e" ++ Str.ofString (toString g))]) (Nat.le_of_ble_eq_true rfl) fun _ => hw
  refine ⟨?_, ?_, Nat.zero_le _⟩
  · unfold OkT
    exact ⟨Nat.zero_le _, Nat.le_of_ble_eq_true rfl, fun e => absurd e (by decide), by unfold OkTs; exact ⟨a.1, by unfold OkTs; trivial⟩⟩
  · unfold height
    refine Nat.succ_le_succ ?_
    unfold heights
    exact Nat.max_le.mpr ⟨a.2, by unfold heights; exact Nat.zero_le _⟩
theorem idsAre_snoc {w : World} {R : Value → T → Prop} {k : Str} {v : Value} {t : T} : ∀ {kvs : List (Str × Value)} {ids : List (Str × T)}, IdsAre w R kvs ids → R v t → IdsAre w R (kvs ++ [(k, v)]) (ids ++ [(k, t)])
  | [], [], _, x => ⟨⟨rfl, x⟩, trivial⟩
  | [], _ :: _, h, _ => h.elim
  | _ :: _, [], h, _ => h.elim
  | _ :: _, _ :: _, h, x => ⟨h.1, idsAre_snoc h.2 x⟩
theorem idsAre_new {w : World} {R : Value → T → Prop} {k : Str} {v : Value} {t : T} {kvs : List (Str × Value)} {ids : List (Str × T)} (h : IdsAre w R kvs ids) (hk : ∀ p ∈ ids, p.1 ≠ k) (hv : R v t) : IdsAre w R (stored kvs k v) (ids ++ [(k, t)]) := by
  have e : kvs.any (fun p => p.1 = k) = false := by
    rw [Bool.eq_false_iff]
    intro x
    obtain ⟨p, hp, e⟩ := List.any_eq_true.mp x
    have : p.1 ∈ ids.map (·.1) := by rw [← h.keys]; exact List.mem_map.mpr ⟨p, hp, rfl⟩
    obtain ⟨q, hq, e2⟩ := List.mem_map.mp this
    exact hk q hq (e2.trans (of_decide_eq_true e))
  unfold stored
  rw [e]
  exact idsAre_snoc h hv
theorem eNm_new {n : Nat} (h : n ≤ 15) {ids : List (Str × T)} (e : ids.map (·.1) = (List.range n).map eNm) : ∀ p ∈ ids, p.1 ≠ eNm n := fun p hp he => by
  have h1 : p.1 ∈ (List.range n).map eNm := by rw [← e]; exact List.mem_map.mpr ⟨p, hp, rfl⟩
  have nd := eNm_nodup (n := n + 1) (Nat.succ_le_succ h)
  rw [List.range_succ, List.map_append, List.nodup_append] at nd
  exact nd.2.2 _ h1 _ (.head _) he
theorem eNm_ne {n : Nat} (h : n ≤ 16) {k : Str} (hk : k ∉ (List.range 16).map eNm) {ids : List (Str × T)} (e : ids.map (·.1) = (List.range n).map eNm) : lookT ids k = none := by
  unfold lookT
  rw [Option.map_eq_none_iff, List.find?_eq_none]
  intro p hp he
  refine hk ?_
  rw [← of_decide_eq_true he]
  have h1 : p.1 ∈ (List.range n).map eNm := by rw [← e]; exact List.mem_map.mpr ⟨p, hp, rfl⟩
  exact ((List.range_sublist.mpr h).map eNm).subset h1
theorem ch_rect {w : World} {x d l : Addr} {o : Obj} {k : Nat} {t1 t2 : Tok} {D : Led} (mx : (x, ({ cls := .type "tuple", data := .seq #[.str (S "rect") t1, .ref d, .ref l, .str (S "") t2] } : Obj)) ∈ D) (ml : (l, listOf #[] k) ∈ D) (md : (d, o) ∈ D) (hd : o.IsDictOf (strKind prg w) []) (lo : (d == sysModules) = false) : TreeIn w D (.ref x) (.mk (S "rect") [] [] (S "")) := by
  unfold TreeIn
  exact ⟨x, d, l, k, #[], _, _, rfl, mx, ⟨o, [], md, hd, trivial, lo⟩, ml, by unfold TreesIn; trivial⟩
theorem rect_ok : OkT (.mk (S "rect") [] [] (S "")) ∧ height (.mk (S "rect") [] [] (S "")) ≤ 2 ∧ List.length (T.mk (S "rect") [] [] (S "")).ws ≤ 12 :=
  let a := okt_leaf (nm := S "rect") (tx := S "") (ws := []) (Nat.zero_le _) fun e => absurd e (by decide)
  ⟨a.1, Nat.le_succ_of_le a.2, Nat.zero_le _⟩
theorem ch_post {w : World} {D tl : Led} {d x dd l : Addr} {o od : Obj} {kvs : List (Str × Value)} {ids : List (Str × T)} {k n : Nat} {g : Int} {t1 t2 : Tok} (hn : n ≤ 15) (hg : (n : Int) = g) (hnm : ids.map (·.1) = (List.range n).map eNm) (hk : ∀ p ∈ ids, OkT p.2 ∧ height p.2 ≤ 2 ∧ List.length p.2.ws ≤ 12) (ha : IdsAre w (TreeIn w tl) kvs ids)
    (ho : o.IsDictOf (strKind prg w) (stored kvs (S "e" ++ Str.ofString (toString g)) (.ref x))) (hd : od.IsDictOf (strKind prg w) []) (lo : (dd == sysModules) = false) (lo' : (d == sysModules) = false)
    (f : Fresh D ((d, o) :: (x, ({ cls := .type "tuple", data := .seq #[.str (S "rect") t1, .ref dd, .ref l, .str (S "") t2] } : Obj)) :: (l, listOf #[] k) :: (dd, od) :: tl)) :
    IdsPost w D (.ref d) (((d, o) :: (x, ({ cls := .type "tuple", data := .seq #[.str (S "rect") t1, .ref dd, .ref l, .str (S "") t2] } : Obj)) :: (l, listOf #[] k) :: (dd, od) :: tl) ++ D) := by
  have e : S "e" ++ Str.ofString (toString g) = eNm n := by rw [← hg]; rfl
  rw [e] at ho
  refine ⟨d, _, ids ++ [(eNm n, .mk (S "rect") [] [] (S ""))], rfl, rfl, f, ⟨o, _, .head _, ho, idsAre_new (ha.mono fun v t h => TreeIn.mono (fun p hp => .tail _ (.tail _ (.tail _ (.tail _ hp)))) h) (eNm_new hn hnm) (ch_rect (.tail _ (.head _)) (.tail _ (.tail _ (.head _))) (.tail _ (.tail _ (.tail _ (.head _)))) hd lo), lo'⟩, ?_, ?_, ?_⟩
  · intro p hp
    rcases List.mem_append.mp hp with hp | hp
    · exact hk p hp
    · rw [List.mem_singleton.mp hp]; exact rect_ok
  · refine eNm_ne (n := n + 1) (k := S "") (Nat.le_trans (Nat.succ_le_succ hn) (Nat.le_refl _)) (by decide +kernel) ?_
    rw [List.map_append, hnm, List.range_succ, List.map_append]; rfl
  · rw [List.length_append, ← List.length_map (f := (·.1)), hnm, List.length_map, List.length_range]
    exact Nat.succ_le_succ hn
theorem chn_sub {a b c d e : Addr × Obj} {tl D : Led} : ∀ p ∈ (d :: a :: b :: c :: tl) ++ D, p ∈ a :: b :: c :: d :: e :: (tl ++ D) := fun p hp => by
  simp only [List.mem_cons, List.mem_append] at hp ⊢
  grind
theorem chn_fr {a b c d : Addr × Obj} {tl D : Led} (h1 : AllLt a.1 D) (h2 : AllLt b.1 D) (h3 : AllLt c.1 D) (h4 : AllLt d.1 D) (f : Fresh D tl) : Fresh D (d :: a :: b :: c :: tl) := fresh_cons h4 (fresh_cons h1 (fresh_cons h2 (fresh_cons h3 f)))
section
theorem kw_lchain1 : True := by
  (k_with "lchain1" => first | (k_here; k_dflt (refine' kup_newTuple ?F_lchain1 ?N_lchain1 ?_ ?z_lchain1; (case F_lchain1 => k_asm); (case N_lchain1 => k_asm); (case z_lchain1 => exact Nat.le_of_ble_eq_true rfl)); intro D' h' F' N' l1; (try k_lt l1); (try k_sweep)) | fail)
  (k_with "lchain;101" => first | (refine all_cons ?_ ?_; focus ((first | assumption | (exact Nat.ne_of_gt (by assumption)) | (exact Nat.ne_of_lt (by assumption)) | (exact LuOff.n (by assumption)) | (exact Ne.symm (LuOff.n (by assumption))) | (exact Nat.ne_of_gt (LuOff.is (by assumption))) | (exact Nat.ne_of_gt (LuOff.id (by assumption))) | (refine Nat.ne_of_gt ?_; (try dsimp only); omega) | (refine Nat.ne_of_lt ?_; (try dsimp only); omega))); k_all) | fail)
  trivial
local macro_rules | `(tactic| k_all) => `(tactic| k_extra "lchain;101")
theorem kw_lchainw102 : True := by
  (k_with "lchain;102" => first | (first | assumption | (exact Nat.ne_of_gt (by assumption)) | (exact Nat.ne_of_lt (by assumption)) | (exact LuOff.n (by assumption)) | (exact Ne.symm (LuOff.n (by assumption))) | (exact Nat.ne_of_gt (LuOff.is (by assumption))) | (exact Nat.ne_of_gt (LuOff.id (by assumption))) | (refine Nat.ne_of_gt ?_; (try dsimp only); omega) | (refine Nat.ne_of_lt ?_; (try dsimp only); omega)) | fail)
  trivial
local macro_rules | `(tactic| k_ne) => `(tactic| k_extra "lchain;102")
theorem kw_lchain2 : True := by
  (k_with "lchain2" => first | (k_here; (with_reducible refine (?_ : wpAny _ _ (eval (Expr.Dict (_ :: _) _ _) _) _ _ _)); k_dflt (refine' kdn_str ?q_lchain2 ?F_lchain2 ?N_lchain2 ?b_lchain2 ?a_lchain2 ?l_lchain2 ?e_lchain2 ?n_lchain2 ?_; (case q_lchain2 => rfl); (case F_lchain2 => k_asm); (case N_lchain2 => k_asm); (case b_lchain2 => exact Top.nolimit (by k_asm)); (case a_lchain2 => rfl); (case l_lchain2 => rfl); (case e_lchain2 => exact List.cons_ne_nil _ _); (case n_lchain2 => exact Nat.le_of_ble_eq_true rfl)); intro d' h' o' F' N' l1 lo' hd'; (try k_lt l1)) | fail)
  (k_with "lchain3" => first | (k_here; k_dflt (refine' kdn_made_str ?F_lchain3 ?N_lchain3 ?U_lchain3 ?d_lchain3 ?k_lchain3 ?n_lchain3 ?_; (case F_lchain3 => k_asm); (case N_lchain3 => k_asm); (case U_lchain3 => exact UpdF.head (by ((repeat' (first | assumption | (exact LuOff.s (by assumption)) | (exact LuOff.d (by assumption)) | refine all_cons ?_ ?_ | refine all_app ?_ ?_ | (first | assumption | (exact Nat.ne_of_gt (by assumption)) | (exact Nat.ne_of_lt (by assumption)) | (exact LuOff.n (by assumption)) | (exact Ne.symm (LuOff.n (by assumption))) | (exact Nat.ne_of_gt (LuOff.is (by assumption))) | (exact Nat.ne_of_gt (LuOff.id (by assumption))) | (refine Nat.ne_of_gt ?_; (try dsimp only); omega) | (refine Nat.ne_of_lt ?_; (try dsimp only); omega)) | (exact fun p hp => Nat.ne_of_lt (ltAll (by assumption) p hp)) | (refine' fresh_ne ?f_lchain3 ?m_lchain3; (case f_lchain3 => assumption); (case m_lchain3 => k_mem))))))); (case d_lchain3 => k_asm); (case k_lchain3 => rfl); (case n_lchain3 => exact of_decide_eq_true (by first | rfl | kernel_rfl!)); intro h' o' F' N' hd'); (try dsimp only at N')) | fail)
  (k_with "lchain4" => first | (k_here; k_dflt (refine LCg.ListComp_U (F₀ := by k_asm) (by with_unfolding_all rfl) (by decide) (by rfl) (by decide) (by rfl) ?_)) | fail)
  (k_with "lchain5" => first | (refine Hold.intro ?_) | fail)
  (k_with "lchain6" => first | (k_here; (with_reducible refine (?_ : wpAny _ _ (call (Value.type "dict") [Value.ref _]) _ _ _)); (rename TPairs _ _ _ _ => lP); k_dflt (refine' dict_pairs_T ?k1_lchain6 ?k2_lchain6 ?k6_lchain6 ?k3_lchain6 ?hh_lchain6 lP ?sub_lchain6 ?nd_lchain6 ?k5_lchain6 ?_; (case k1_lchain6 => k_asm); (case k2_lchain6 => k_asm); (case k6_lchain6 => exact Top.nolimit (by k_asm)); (case k3_lchain6 => exact List.Mem.head _); (case hh_lchain6 => exact rfl); (case sub_lchain6 => exact fun p hp => List.Mem.tail _ (List.mem_append_left _ hp)); (case nd_lchain6 => assumption); (case k5_lchain6 => omega)); intro d9' h9' tk9' o9' kv9' F' N' l1 lo9' hd9' hi9'; (try k_lt l1); (try k_sweep)) | fail)
  (k_with "lchain7" => first | (k_here; (with_reducible refine (?_ : wpAny _ _ (call (Value.type "str") [Value.int _ _]) _ _ _)); with_reducible refine' str_small ?ka_lchain7 ?kb_lchain7 ?_; (case ka_lchain7 => omega); (case kb_lchain7 => omega)) | fail)
  (k_with "lchain9" => first | (k_here; k_dflt (refine' newDict_K ?k1_lchain9 ?k2_lchain9 ?k3_lchain9 ?_; (case k1_lchain9 => k_asm); (case k2_lchain9 => k_asm); (case k3_lchain9 => exact Top.nolimit (by k_asm))); intro d' h' o' F' N' l1 lo' hs' fs' hi' fi'; clear fs' hi' fi'; (try k_lt l1)) | fail)
  (k_with "lchain10" => first | (k_here; (with_reducible refine (?_ : wpAny _ _ (setItem (Value.ref _) (Value.str _ _) (Value.ref _)) _ _ _)); k_dflt (refine' kda_set (knd := PySem.strKind _ _) ?k1_lchain10 ?k2_lchain10 ?k3_lchain10 ?k4_lchain10 (strKind_is _ _ _ _) ?k5_lchain10 ?_; (case k1_lchain10 => k_asm); (case k2_lchain10 => k_asm); (case k3_lchain10 => k_updF); (case k4_lchain10 => assumption); (case k5_lchain10 => (rename IdsAre _ _ _ _ => lI; rw [lI.len]; refine Nat.le_trans (m := 100) ?_ (by decide); omega))); intro h9' o9' F' N' hd9'; (try dsimp only at N'); (try k_sweep)) | fail)
  trivial
theorem c_chain {w : World} {many : Int} {tk : Tok} {D : Led} (h1 : 11 ≤ many) (h5 : many ≤ 13) :
    Call w 20 363 [.int many tk] D (IdsPost w D) := by
  constructor
  intro dp un gd cn cs a ccd cl outer A₀ base h₀ L m sh sg sd st so mean mg mb Q E B F X N T hk hdp hun ret
  skip
  refine wpAny_call ?_
  k_dflt ktr_enter
  (repeat' (first | k_extra "sa" | k_extra "b196" | k_extra "b5" | k_extra "b1" | k_extra "b197" | k_extra "sz"))
  unfold Hold
  (rename IsRange _ _ _ _ _ _ _ _ => rgX)
  refine' rng_src (nm := eNm) (K := fun t => OkT t ∧ height t ≤ 2 ∧ List.length t.ws ≤ 12) (fun st => st = []) (st0 := []) (base0 := D) (all := D) rfl ?zF ?zN rfl rgX ?ks (rangeSize_nat _ _) ?kz (fun _ h => h) (fun _ e => by rw [e]) ?zt ?zf
  case zF => k_asm
  case zN => assumption
  case ks => exact small_one (by omega) (by omega) (by omega) (by omega)
  case kz => omega
  case zt =>
    clear rgX
    intro i t ys st tl I oI C oC Dl m₂ h tk E' QC hi hp fr hC hx F3 N3 off hret
    subst hp
    obtain ⟨g, hg, hi0, hi1⟩ : ∃ g : Int, (i : Int) = g ∧ 0 ≤ g ∧ g ≤ 13 := ⟨i, rfl, Int.natCast_nonneg i, by omega⟩
    have hnm : eNm i = S "e" ++ Str.ofString (toString g) := by rw [← hg]; rfl
    rw [hnm] at hret
    rw [hg] at hx
    clear hi hg hnm
    rw [List.nil_append] at N3 off hret
    (repeat' (first | k_extra "sa" | k_extra "b198" | k_extra "b199" | k_extra "b200" | k_extra "b201" | k_extra "b202" | k_extra "sz"))
    exact hret _ _ _ [] [_, _, _, _, _, _, _] _ _ _ _ (by k_asm) (by assumption) rfl (by ktr_rel) (.head _) (ch_tree (by assumption) (by assumption) (by assumption) (by assumption)) (ch_ok (by omega) (by omega))
  case zf =>
    clear rgX
    intro ys ids st tl D8 h8 tk8 hp fr ha hnm hk8 F3 N3 off8
    subst hp
    rw [List.nil_append] at N3 off8
    have nd : (ids.map (·.1)).Nodup := by rw [hnm]; exact eNm_nodup (by omega)
    have hlen : ids.length = (many - 0).toNat := by have := congrArg List.length hnm; rw [List.length_map, List.length_map, List.length_range] at this; exact this
    have hl16 : ids.length ≤ 100 := by omega
    (repeat' (first | k_extra "sa" | k_extra "b198" | k_extra "b203" | k_extra "b0" | k_extra "b199" | k_extra "b204" | k_extra "b5" | k_extra "b1" | k_extra "b201" | k_extra "b23" | k_extra "b2" | k_extra "sz"))
    have lz : (((many - 0).toNat : Nat) : Int) = many := by omega
    have lz2 : (many - 0).toNat ≤ 15 := by omega
    refine' ret _ _ _ _ ?e1 (news_subU ?e2 chn_sub) (ch_post lz2 lz hnm hk8 ?p1 ?p2 ?p3 ?p4 ?p5 (chn_fr ?f1 ?f2 ?f3 ?f4 fr))
    case e1 => k_asm
    case e2 => assumption
    case p1 => assumption
    case p2 => assumption
    case p3 => assumption
    case p4 => assumption
    case p5 => assumption
    all_goals ktr_rel
end
end

theorem reset_lring : True := by
  (w_top off)
  trivial
section
-- part lring
theorem CallT.use {w : World} {k : Nat} {f : Addr} {args : List Value} {D₀ all : Led} {post : Value → Led → Prop} (C : CallT w k f args D₀ post)
    {dp un : Nat} {gd : Option (List Code)} {cn : Str} {cs : Scope} {a : Addr} {ccd : Value} {cl : List (Str × Addr)} {A₀ : Around} {base h₀ : Heap} {L : Addr} {m : Str → Option Value} {s : Shared} {mean : ExcName → Option Value} {mg mb : Str → Option Value} {Q E : Value → Shared → Prop}
    (B : Below A₀ base [] h₀) (XB : (hd.heap_1 w.params).In base) (TB : Top vw lse mean mg mb base) (F : Fr h₀ L s.heap m) (X : (hd.heap_1 w.params).In h₀) (N : News h₀ L s.heap all) (T : Top vw lse mean mg mb h₀) (hk : cs.kind = .function) (hd : dp + k < 690) (hu : un + 30 * k < 9000)
    (sub : ∀ p ∈ D₀, p ∈ all)
    (ret : ∀ v h' tk' D', Fr h₀ L h' m → News h₀ L h' D' → post v D' → Q v { s with heap := h', toks := tk' }) :
    wpAny (model PySem.Challenge.rw_pf0193_01.row.toRowW.prog w) (ktrTop dp un gd cn cs L a ccd cl []) (call (.ref f) args) Q E s :=
  C.run B XB TB F X (fun p hp => N p (sub p hp)) T hk hd hu ret
theorem use_right {w : World} {ids : List (Str × T)} {most : Nat} {i : Int} (hm : i = most) (hI : IdsOk ids) (hI0 : lookT ids (S "") = none) (hz : ids.length ≤ 16) {t : T} {v : Value} {all keep : Led} {idd : Addr} {tk : Tok}
    {dp un : Nat} {gd : Option (List Code)} {cn : Str} {cs : Scope} {a : Addr} {ccd : Value} {cl : List (Str × Addr)} {A₀ : Around} {base h₀ : Heap} {L : Addr} {m : Str → Option Value} {s : Shared} {mean : ExcName → Option Value} {mg mb : Str → Option Value} {Q E : Value → Shared → Prop}
    (B : Below A₀ base [] h₀) (XB : (hd.heap_1 w.params).In base) (TB : Top vw lse mean mg mb base) (F : Fr h₀ L s.heap m) (X : (hd.heap_1 w.params).In h₀) (N : News h₀ L s.heap all) (T : Top vw lse mean mg mb h₀) (hk : cs.kind = .function) (hd : dp + 240 < 690) (hu : un + 7200 < 9000)
    (mi : IdsIn w (TreeIn w) all idd ids) (ht : TreeIn w all v t) (ok : OkT t) (hh : height t ≤ 3) (sub : ∀ p ∈ keep, p ∈ all)
    (ret : ∀ h' tk', Fr h₀ L h' m → News h₀ L h' keep → Q (.bool true) { s with heap := h', toks := tk' }) :
    wpAny (model PySem.Challenge.rw_pf0193_01.row.toRowW.prog w) (ktrTop dp un gd cn cs L a ccd cl []) (call (.ref 358) [.ref idd, v, .int i tk]) Q E s := by
  subst hm
  refine (c_right hI hI0 hz mi ht ok hh).run B XB TB F X N T hk hd hu fun v' h' tk' D' F' N' => ?_
  rintro ⟨rfl, rfl⟩
  exact ret _ _ F' fun p hp => N' p (sub p hp)
-- the ring of the law
noncomputable def guT (v : Str) : T := .mk (S "g") [] [.mk (S "use") [(S "href", v)] [] (S "")] (S "")
noncomputable def ringIds : List (Str × T) := [(S "e0", guT (S "#e1")), (S "e2", .mk (S "symbol") [] [] (S "")), (S "e1", guT (S "#e0"))]
noncomputable def placedT : T := .mk (S "use") [(S "href", S "#e2"), (S "transform", S "scale(2)"), (S "x", S "3")] [] (S "")
theorem gu_tree {w : World} {D : Led} {y l u lu du dg : Addr} {odu odg : Obj} {k1 k2 : Nat} {t1 t2 t3 t4 t5 t6 : Tok} {v : Str} (m1 : (y, ({ cls := .type "tuple", data := .seq #[.str (S "g") t2, .ref dg, .ref l, .str (S "") t3] } : Obj)) ∈ D) (m2 : (l, listOf #[.ref u] k1) ∈ D)
    (m3 : (u, ({ cls := .type "tuple", data := .seq #[.str (S "use") t4, .ref du, .ref lu, .str (S "") t6] } : Obj)) ∈ D) (m4 : (lu, listOf #[] k2) ∈ D) (m5 : (du, odu) ∈ D) (m6 : (dg, odg) ∈ D) (hg : odg.IsDictOf (strKind prg w) []) (hu : odu.IsDictOf (strKind prg w) (strPairs [(.str (S "href") t5, .str v t1)])) (lg : (dg == sysModules) = false) (lu' : (du == sysModules) = false) :
    TreeIn w D (.ref y) (guT v) := by
  unfold guT TreeIn
  refine ⟨y, dg, l, k1, #[.ref u], _, _, rfl, m1, ⟨odg, [], m6, hg, trivial, lg⟩, m2, ?_⟩
  show TreesIn w _ [.ref u] _
  unfold TreesIn
  refine ⟨?_, by unfold TreesIn; trivial⟩
  unfold TreeIn
  exact ⟨u, du, lu, k2, #[], t4, t6, rfl, m3, ⟨odu, _, m5, hu, ws_one, lu'⟩, m4, by unfold TreesIn; trivial⟩
theorem leaf_tree {w : World} {D : Led} {x d l : Addr} {o : Obj} {k : Nat} {t1 t2 : Tok} {nm tx : Str} {kvs : List (Str × Value)} {ws : Ws} (mx : (x, ({ cls := .type "tuple", data := .seq #[.str nm t1, .ref d, .ref l, .str tx t2] } : Obj)) ∈ D) (ml : (l, listOf #[] k) ∈ D) (md : (d, o) ∈ D) (hd : o.IsDictOf (strKind prg w) kvs) (hw : WsAre kvs ws) (lo : (d == sysModules) = false) : TreeIn w D (.ref x) (.mk nm ws [] tx) := by
  unfold TreeIn
  exact ⟨x, d, l, k, #[], _, _, rfl, mx, ⟨o, kvs, md, hd, hw, lo⟩, ml, by unfold TreesIn; trivial⟩
theorem ring_are {w : World} {R : Value → T → Prop} {v0 v1 v2 : Value} {t1 t2 : Tok} (h0 : R v0 (guT (S "#e1"))) (h2 : R v2 (.mk (S "symbol") [] [] (S ""))) (h1 : R v1 (guT (S "#e0"))) : IdsAre w R (stored (strPairs [(.str (S "e0") t1, v0), (.str (S "e2") t2, v2)]) (S "e1") v1) ringIds :=
  idsAre_new (ids := [(S "e0", guT (S "#e1")), (S "e2", .mk (S "symbol") [] [] (S ""))]) ⟨⟨rfl, h0⟩, ⟨rfl, h2⟩, trivial⟩ (fun p hp => by
    simp only [List.mem_cons, List.not_mem_nil, or_false] at hp
    rcases hp with rfl | rfl <;> decide) h1
theorem gu_ok {g : Int} (h0 : 0 ≤ g) (h6 : g ≤ 14) : OkT (guT (S "#e" ++ Str.ofString (toString g))) ∧ height (guT (S "#e" ++ Str.ofString (toString g))) ≤ 2 ∧ List.length (guT (S "#e" ++ Str.ofString (toString g))).ws ≤ 12 := ch_ok h0 h6
theorem ring_ok : IdsOk ringIds := fun p hp => by
  simp only [ringIds, List.mem_cons, List.not_mem_nil, or_false] at hp
  rcases hp with rfl | rfl | rfl
  · exact gu_ok (g := 1) (by decide) (by decide)
  · exact ⟨(okt_leaf (nm := S "symbol") (tx := S "") (ws := []) (Nat.zero_le _) fun e => absurd e (by decide)).1, Nat.le_succ_of_le (okt_leaf (nm := S "symbol") (tx := S "") (ws := []) (Nat.zero_le _) fun e => absurd e (by decide)).2, Nat.zero_le _⟩
  · exact gu_ok (g := 0) (by decide) (by decide)
theorem ring_no : lookT ringIds (S "") = none := by decide +kernel
theorem placed_ok : OkT placedT ∧ height placedT ≤ 1 := okt_leaf (Nat.le_of_ble_eq_true rfl) fun _ p hp => by
  simp only [List.mem_cons, List.not_mem_nil, or_false] at hp
  rcases hp with rfl | rfl | rfl
  · exact ent_href true (by decide +kernel) (by decide +kernel)
  · exact .inr (.inr (.inr (.inr (.inl ⟨rfl, rfl⟩))))
  · exact .inr (.inr (.inl ⟨rfl, .inl rfl⟩))
theorem ws_three {k1 k2 k3 v1 v2 v3 : Str} {t1 t2 t3 u1 u2 u3 : Tok} : WsAre (strPairs [(.str k1 t1, .str v1 u1), (.str k2 t2, .str v2 u2), (.str k3 t3, .str v3 u3)]) [(k1, v1), (k2, v2), (k3, v3)] := ⟨⟨rfl, _, rfl⟩, ⟨rfl, _, rfl⟩, ⟨rfl, _, rfl⟩, trivial⟩
noncomputable def KeepLed (_ : Led) : Prop := True
theorem keep_of {h₀ h : Heap} {L : Addr} {keep : Led} (_ : News h₀ L h keep) : KeepLed keep := trivial
theorem use_ring {w : World} {v pv : Value} {all keep : Led} {idd : Addr} {tk : Tok} (_ : KeepLed keep)
    {dp un : Nat} {gd : Option (List Code)} {cn : Str} {cs : Scope} {a : Addr} {ccd : Value} {cl : List (Str × Addr)} {A₀ : Around} {base h₀ : Heap} {L : Addr} {m : Str → Option Value} {s : Shared} {mean : ExcName → Option Value} {mg mb : Str → Option Value} {Q E : Value → Shared → Prop}
    (B : Below A₀ base [] h₀) (XB : (hd.heap_1 w.params).In base) (TB : Top vw lse mean mg mb base) (F : Fr h₀ L s.heap m) (X : (hd.heap_1 w.params).In h₀) (N : News h₀ L s.heap all) (T : Top vw lse mean mg mb h₀) (hk : cs.kind = .function) (hd : dp + 240 < 690) (hu : un + 7200 < 9000)
    (mi : IdsIn w (TreeIn w) all idd ringIds) (ht : TreeIn w all v (guT (S "#e1"))) (hp : TreeIn w all pv placedT) (sub : ∀ p ∈ keep, p ∈ all)
    (ret : ∀ all h' tk', Fr h₀ L h' m → News h₀ L h' all → IdsIn w (TreeIn w) all idd ringIds → TreeIn w all pv placedT → (∀ p ∈ keep, p ∈ all) → Q (.bool true) { s with heap := h', toks := tk' }) :
    wpAny (model PySem.Challenge.rw_pf0193_01.row.toRowW.prog w) (ktrTop dp un gd cn cs L a ccd cl []) (call (.ref 358) [.ref idd, v, .int 99 tk]) Q E s :=
  use_right (most := 99) rfl ring_ok ring_no (Nat.le_of_ble_eq_true rfl) B XB TB F X N T hk hd hu mi ht (gu_ok (g := 1) (by decide) (by decide)).1 (Nat.le_succ_of_le (gu_ok (g := 1) (by decide) (by decide)).2.1) (fun _ h => h) fun h' tk' F' N' => ret all h' tk' F' N' mi hp sub
theorem IdsPost.elim {w : World} {D : Led} {v : Value} {D' : Led} (h : IdsPost w D v D') : ∃ d tl ids, v = .ref d ∧ D' = tl ++ D ∧ Fresh D tl ∧ IdsIn w (TreeIn w) tl d ids ∧ IdsOk ids ∧ lookT ids (S "") = none ∧ List.length ids ≤ 16 := h
theorem RowPost.elim {w : World} {src : Addr} {o : Obj} {D : Led} {v : Value} {D' : Led} (h : RowPost w src o D v D') : ∃ o' tl t, D' = (src, o') :: (tl ++ D) ∧ SrcOk o' ∧ Fresh ((src, o) :: D) tl ∧ TreeIn w tl v t ∧ OkT t ∧ height t ≤ 2 ∧ List.length t.ws ≤ 12 := h
theorem row_off {src I C Dl : Addr} {o oI oC oD o0 : Obj} {tl all : Led} (off : ∀ p ∈ (src, o) :: (tl ++ all), @Ne Nat p.1 I ∧ @Ne Nat p.1 C ∧ @Ne Nat p.1 Dl) (fr : Fresh ((src, o0) :: all) tl) (ha : ∀ p ∈ all, @Ne Nat p.1 src) : ∀ p ∈ (I, oI) :: (C, oC) :: (Dl, oD) :: (tl ++ all), @Ne Nat p.1 src := by
  obtain ⟨h1, h2, h3⟩ := off _ (.head _)
  refine all_cons (Ne.symm h1) (all_cons (Ne.symm h2) (all_cons (Ne.symm h3) (all_app (fun p hp => Ne.symm (fr p hp _ (.head _))) ha)))
theorem row_end {h₀ h : Heap} {L T src : Addr} {a b c : Addr × Obj} {oT o : Obj} {tl9 tl all : Led} (N : News h₀ L h ((T, oT) :: (src, o) :: (tl9 ++ (a :: b :: c :: (tl ++ all))))) : News h₀ L h ([(src, o)] ++ (((T, oT) :: tl9) ++ (a :: b :: c :: (tl ++ all)))) := fun p hp => N p (by
  simp only [List.mem_cons, List.mem_append, List.mem_singleton] at hp ⊢
  grind)
theorem row_fresh {T src : Addr} {a b c : Addr × Obj} {oT o0 : Obj} {tl9 tl all : Led} (h : AllLt T ((src, o0) :: (tl9 ++ (a :: b :: c :: (tl ++ all))))) (f : Fresh ((src, o0) :: (a :: b :: c :: (tl ++ all))) tl9) : Fresh (a :: b :: c :: ([(src, o0)] ++ (tl ++ all))) ((T, oT) :: tl9) := by
  have g := ltAll h
  refine fresh_cons (allLt_of fun p hp => ?_) (f.sub fun p hp => ?_)
  · simp only [List.mem_cons, List.mem_append, List.not_mem_nil, or_false] at hp g
    rcases hp with rfl | rfl | rfl | rfl | hp | hp
    · exact g _ (.inr (.inr (.inl rfl)))
    · exact g _ (.inr (.inr (.inr (.inl rfl))))
    · exact g _ (.inr (.inr (.inr (.inr (.inl rfl)))))
    · exact g (src, o0) (.inl rfl)
    · exact g _ (.inr (.inr (.inr (.inr (.inr (.inl hp))))))
    · exact g _ (.inr (.inr (.inr (.inr (.inr (.inr hp))))))
  · simp only [List.mem_cons, List.mem_append, List.not_mem_nil, or_false] at hp ⊢
    rcases hp with rfl | rfl | rfl | rfl | hp | hp
    · exact .inr (.inl rfl)
    · exact .inr (.inr (.inl rfl))
    · exact .inr (.inr (.inr (.inl rfl)))
    · exact .inl rfl
    · exact .inr (.inr (.inr (.inr (.inl hp))))
    · exact .inr (.inr (.inr (.inr (.inr hp))))
theorem svg_tree {w : World} {D : Led} {x d l : Addr} {o : Obj} {k : Nat} {t1 t2 : Tok} {v1 v2 : Value} {a b : T} (mx : (x, ({ cls := .type "tuple", data := .seq #[.str (S "svg") t1, .ref d, .ref l, .str (S "") t2] } : Obj)) ∈ D) (ml : (l, listOf #[v1, v2] k) ∈ D) (md : (d, o) ∈ D) (hd : o.IsDictOf (strKind prg w) []) (lo : (d == sysModules) = false) (ha : TreeIn w D v1 a) (hb : TreeIn w D v2 b) : TreeIn w D (.ref x) (.mk (S "svg") [] [a, b] (S "")) := by
  unfold TreeIn
  refine ⟨x, d, l, k, #[v1, v2], _, _, rfl, mx, ⟨o, [], md, hd, trivial, lo⟩, ml, ?_⟩
  show TreesIn w D [v1, v2] [a, b]
  unfold TreesIn
  refine ⟨ha, ?_⟩
  unfold TreesIn
  exact ⟨hb, by unfold TreesIn; trivial⟩
theorem svg_ok {ws1 ws2 : Ws} (h1 : WsOk ws1) (z1 : List.length ws1 ≤ 9) (h2 : WsOk ws2) (z2 : List.length ws2 ≤ 9) : OkT (.mk (S "svg") [] [.mk (S "use") ws1 [] (S ""), .mk (S "use") ws2 [] (S "")] (S "")) ∧ height (.mk (S "svg") [] [.mk (S "use") ws1 [] (S ""), .mk (S "use") ws2 [] (S "")] (S "")) ≤ 3 := by
  have a := okTs_all (ts := [.mk (S "use") ws1 [] (S ""), .mk (S "use") ws2 [] (S "")]) (fun t ht => by
    simp only [List.mem_cons, List.not_mem_nil, or_false] at ht
    rcases ht with rfl | rfl
    · exact use_leaf h1 z1
    · exact use_leaf h2 z2)
  refine ⟨?_, ?_⟩
  · unfold OkT
    exact ⟨Nat.zero_le _, Nat.le_of_ble_eq_true rfl, fun e => absurd e (by decide), a.1⟩
  · unfold height
    exact Nat.le_trans (Nat.add_le_add a.2 (Nat.le_refl 1)) (Nat.le_of_ble_eq_true rfl)
theorem use0_ok : OkT (.mk (S "use") [(S "href", S "#e0")] [] (S "")) ∧ height (.mk (S "use") [(S "href", S "#e0")] [] (S "")) ≤ 1 := okt_leaf (Nat.le_of_ble_eq_true rfl) fun _ p hp => by
  rw [List.mem_singleton.mp hp]
  exact ent_href true (by decide +kernel) (by decide +kernel)
theorem idsIn_mono {w : World} {D D' : Led} {d : Addr} {ids : List (Str × T)} (h : ∀ p ∈ D, p ∈ D') (x : IdsIn w (TreeIn w) D d ids) : IdsIn w (TreeIn w) D' d ids := by
  refine exC2 x ?_; (try clear x); intro o kvs hR; refine anC4 hR ?_; clear hR; intro m hd ha lo
  exact ⟨o, kvs, h _ m, hd, ha.mono fun v t z => TreeIn.mono h z, lo⟩
theorem keys_no {n : Nat} (h : n ≤ 16) {ids : List (Str × T)} (e : ids.map (·.1) = (List.range n).map eNm) : lookT ids (S "") = none := eNm_ne h (by decide +kernel) e
theorem keep2 {src c1 : Addr} {o o1 : Obj} {l : Led} (_ : o1.data = .cell (some (.ref src))) (m0 : (src, o) ∈ l) (m1 : (c1, o1) ∈ l) : ∀ p ∈ [(src, o), (c1, o1)], p ∈ l := fun p hp => by
  simp only [List.mem_cons, List.not_mem_nil, or_false] at hp
  rcases hp with rfl | rfl
  · exact m0
  · exact m1
theorem keep0 {l : Led} : ∀ p ∈ ([] : Led), p ∈ l := fun _ h => nomatch h
theorem small_map {h₀ h : Heap} {L : Addr} {m : Str → Option Value} {x : Str} {v : Value} (F : Fr h₀ L h m) (e : m x = some v) : ∃ m0 : Str → Option Value, m0 x = some v ∧ Fr h₀ L h m0 := ⟨m, e, F⟩
theorem off_nil {b : Addr} : ∀ q ∈ ([] : Led), @Ne Nat q.1 b := fun _ h => nomatch h
end

theorem reset_law : True := by
  (w_top off)
  (k_with "b205" => first | ((with_reducible refine (?_ : wpAny _ _ (eval (Expr.Dict [] [] _) _) _ _ _)); first | (with_reducible (k_extra "law3")) | fail) | fail)
  (k_with "b206" => first | ((with_reducible refine (?_ : wpAny _ _ (setItem (Value.ref _) (Value.str _ _) _) _ _ _)); first | (with_reducible (k_extra "law6")) | fail) | fail)
  (k_with "b207" => first | ((with_reducible refine (?_ : wpAny _ _ (call (Value.ref _) _) _ _ _)); first | (with_reducible (k_extra "law7")) | fail) | fail)
  (k_with "b208" => first | ((with_reducible refine (?_ : wpAny _ _ (eval (Expr.Dict _ _ _) _) _ _ _)); first | (with_reducible (k_extra "law4")) | fail) | fail)
  (k_with "b209" => first | ((with_reducible refine (?_ : wpAny _ _ (newTuple _) _ _ _)); first | (with_reducible (k_extra "law1")) | fail) | fail)
  (k_with "b210" => first | ((fail_if_success (with_reducible refine (?_ : wpAny _ _ _ _ _ _))); first | ((with_reducible refine (?_ : KdnMade ..)); first | (with_reducible (k_extra "law5")) | fail) | fail) | fail)
  (k_with "b211" => first | ((with_reducible refine (?_ : wpAny _ _ (eval (Expr.Name _ _) _) _ _ _)); first | (with_reducible (k_extra "law18")) | (with_reducible (k_extra "call:10")) | fail) | fail)
  (k_with "b212" => first | ((with_reducible refine (?_ : wpAny _ _ (eval (Expr.ListComp _ _ _ _) _) _ _ _)); first | (with_reducible (k_extra "law16")) | fail) | fail)
  (k_with "b213" => first | ((with_reducible refine (?_ : wpAny _ _ (call (Value.ref _) _) _ _ _)); first | (with_reducible (k_extra "law9")) | (with_reducible (k_extra "law8")) | fail) | fail)
  (k_with "b214" => first | ((fail_if_success (with_reducible refine (?_ : wpAny _ _ _ _ _ _))); first | ((with_reducible refine (?_ : LCg.CompSrc ..)); first | (with_reducible (k_extra "law2")) | fail) | ((with_reducible refine (?_ : (@ite _ _ (_) _ _))); first | (with_reducible (k_extra "call:3")) | fail) | fail) | fail)
  (k_with "b215" => first | ((with_reducible refine (?_ : wpAny _ _ (call (Value.type "str") _) _ _ _)); first | (with_reducible (k_extra "law14")) | fail) | fail)
  (k_with "b216" => first | ((with_reducible refine (?_ : wpAny _ _ (call (Value.ref _) _) _ _ _)); first | (with_reducible (k_extra "law11")) | fail) | fail)
  (k_with "b217" => first | ((with_reducible refine (?_ : wpAny _ _ (call (Value.type "dict") _) _ _ _)); first | (with_reducible (k_extra "law15")) | fail) | fail)
  (k_with "b218" => first | ((with_reducible refine (?_ : wpAny _ _ (call (Value.ref _) _) _ _ _)); first | (with_reducible (k_extra "law10")) | (with_reducible (k_extra "law9")) | (with_reducible (k_extra "law7")) | fail) | fail)
  (k_with "b219" => first | ((with_reducible refine (?_ : wpAny _ _ (call (Value.ref _) _) _ _ _)); first | (with_reducible (k_extra "law12")) | (with_reducible (k_extra "law9")) | (with_reducible (k_extra "law7")) | fail) | fail)
  (k_with "b220" => first | ((fail_if_success (with_reducible refine (?_ : wpAny _ _ _ _ _ _))); first | ((with_reducible refine (?_ : KdnMade ..)); first | (with_reducible (k_extra "law5")) | fail) | ((with_reducible refine (?_ : (@ite _ _ (_) _ _))); first | (with_reducible (k_extra "call:3")) | fail) | fail) | fail)
  trivial
section
-- part law
section
theorem kw_law1 : True := by
  (k_with "law1" => first | (k_here; k_dflt (refine' kup_newTuple ?F_law1 ?N_law1 ?_ ?z_law1; (case F_law1 => k_asm); (case N_law1 => k_asm); (case z_law1 => exact Nat.le_of_ble_eq_true rfl)); intro D' h' F' N' l1; (try k_lt l1); (try k_sweep)) | fail)
  trivial
local macro_rules | `(tactic| k_qdec) => `(tactic| decide +kernel)
theorem kw_laww8 : True := by
  (k_with "law;8" => first | (with_reducible refine' lt0 kl9 ?_; clear kl9; intro kl9) | fail)
  trivial
local macro_rules | `(tactic| k_lt $h:ident) => `(tactic| (revert $h:ident; intro $(Lean.mkIdent `kl9):ident; k_extra "law;8"; (try (revert $(Lean.mkIdent `kl9):ident; intro $h:ident))))
theorem kw_laww10 : True := by
  (k_with "law;10" => first | (first | assumption | (exact Nat.ne_of_gt (by assumption)) | (exact Nat.ne_of_lt (by assumption)) | (refine' ltm_gt ?h_laww10 ?m_laww10; (case h_laww10 => assumption); (case m_laww10 => ((focus ((repeat' (first | (with_reducible exact List.mem_cons_self) | (with_reducible refine List.mem_cons_of_mem _ ?_))); done))))) | (refine' ltm_lt ?h_laww10 ?m_laww10; (case h_laww10 => assumption); (case m_laww10 => ((focus ((repeat' (first | (with_reducible exact List.mem_cons_self) | (with_reducible refine List.mem_cons_of_mem _ ?_))); done))))) | fail) | fail)
  trivial
local macro_rules | `(tactic| k_ne) => `(tactic| k_extra "law;10")
theorem kw_law2 : True := by
  (k_with "law2" => first | (refine Hold.intro ?_) | fail)
  (k_with "law3" => first | (k_here; k_dflt (refine' newDict_K ?k1_law3 ?k2_law3 ?k3_law3 ?_; (case k1_law3 => k_asm); (case k2_law3 => k_asm); (case k3_law3 => exact Top.nolimit (by k_asm))); intro d' h' o' F' N' l1 lo' hs' fs' hi' fi'; clear fs' hi' fi'; (try k_lt l1)) | fail)
  (k_with "law4" => first | (k_here; (with_reducible refine (?_ : wpAny _ _ (eval (Expr.Dict (_ :: _) _ _) _) _ _ _)); k_dflt (refine' kdn_str ?q_law4 ?F_law4 ?N_law4 ?b_law4 ?a_law4 ?l_law4 ?e_law4 ?n_law4 ?_; (case q_law4 => rfl); (case F_law4 => k_asm); (case N_law4 => k_asm); (case b_law4 => exact Top.nolimit (by k_asm)); (case a_law4 => rfl); (case l_law4 => rfl); (case e_law4 => exact List.cons_ne_nil _ _); (case n_law4 => exact Nat.le_of_ble_eq_true rfl)); intro d' h' o' F' N' l1 lo' hd'; (try k_lt l1)) | fail)
  (k_with "law5" => first | (k_here; k_dflt (refine' kdn_made_str ?F_law5 ?N_law5 ?U_law5 ?d_law5 ?k_law5 ?n_law5 ?_; (case F_law5 => k_asm); (case N_law5 => k_asm); (case U_law5 => k_updF); (case d_law5 => k_asm); (case k_law5 => rfl); (case n_law5 => exact of_decide_eq_true (by first | rfl | kernel_rfl!)); intro h' o' F' N' hd'); (try dsimp only at N')) | fail)
  (k_with "law6" => first | (k_here; (with_reducible refine (?_ : wpAny _ _ (setItem (Value.ref _) (Value.str _ _) (Value.ref _)) _ _ _)); k_dflt (refine' kda_set (knd := PySem.strKind _ _) ?k1_law6 ?k2_law6 ?k3_law6 ?k4_law6 (strKind_is _ _ _ _) ?k5_law6 ?_; (case k1_law6 => k_asm); (case k2_law6 => k_asm); (case k3_law6 => k_updF); (case k4_law6 => assumption); (case k5_law6 => exact of_decide_eq_true (by first | rfl | kernel_rfl!))); intro h9' o9' F' N' hd9'; (try dsimp only at N'); (try k_sweep)) | fail)
  (k_with "law7" => first | (k_here; (with_reducible refine (?_ : wpAny _ _ (call (Value.ref 358) _) _ _ _)); refine Hold.intro ?_) | fail)
  (k_with "law8" => first | (k_here; (with_reducible refine (?_ : wpAny _ _ (call (Value.ref 296) _) _ _ _)); k_dflt (refine' c_pool ?k1_law8 ?k2_law8 ?k3_law8 ?k4_law8 ?k5_law8 ?k6_law8 ?kd_law8 ?ku_law8 ?hL_law8 ?hI_law8 ?hla_law8 ?hlen_law8 ?_; (case k1_law8 => k_asm); (case k2_law8 => k_asm); (case k3_law8 => k_asm); (case k4_law8 => k_asm); (case k5_law8 => k_asm); (case k6_law8 => first | exact rfl | assumption); (case kd_law8 => ktr_room); (case ku_law8 => ktr_units); (case hL_law8 => assumption); (case hI_law8 => assumption); (case hla_law8 => assumption); (case hlen_law8 => assumption)); intro src9 h9 tk9 o9 l1 F9 N9 S9; (replace l1 := ltAll l1); (try k_lt l1); (try k_sweep); (try dsimp only); (try k_fold)) | fail)
  (k_with "law9" => first | (k_here; (with_reducible refine (?_ : wpAny _ _ (call (Value.ref 303) _) _ _ _)); (try ((fail_if_success (fail_if_success k_fold)); (refine fold1 ?_); intro qk)); k_dflt (refine' Call.use (c_take' ?hS_law9 ?h3_law9 ?h4_law9 ?off_law9) ?k1_law9 ?k2_law9 ?k3_law9 ?k4_law9 ?k5_law9 ?k6_law9 ?kd_law9 ?ku_law9 (Cut.all ?kC_law9) ?_; (case k1_law9 => k_asm); (case k2_law9 => k_asm); (case k3_law9 => k_asm); (case k4_law9 => k_asm); (case k5_law9 => k_asm); (case k6_law9 => first | exact rfl | assumption); (case kd_law9 => ktr_room); (case ku_law9 => ktr_units); (case kC_law9 => (repeat' (first | exact Cut.here | refine' Cut.there ?_))); (case hS_law9 => assumption); (case off_law9 => ((repeat' (first | assumption | (exact off_nil) | refine all_cons ?_ ?_ | refine all_app ?_ ?_ | (first | assumption | (exact Nat.ne_of_gt (by assumption)) | (exact Nat.ne_of_lt (by assumption)) | (refine' ltm_gt ?h_law9 ?m_law9; (case h_law9 => assumption); (case m_law9 => ((focus ((repeat' (first | (with_reducible exact List.mem_cons_self) | (with_reducible refine List.mem_cons_of_mem _ ?_))); done))))) | (refine' ltm_lt ?h_law9 ?m_law9; (case h_law9 => assumption); (case m_law9 => ((focus ((repeat' (first | (with_reducible exact List.mem_cons_self) | (with_reducible refine List.mem_cons_of_mem _ ?_))); done))))) | fail) | (exact fun p hp => Nat.ne_of_lt (ltAll (by assumption) p hp)) | (refine' fresh_ne ?f_law9 ?m_law9; (case f_law9 => assumption); (case m_law9 => k_mem)))))); (case h3_law9 => first | omega | decide); (case h4_law9 => first | omega | decide); k_whole); (k_dflt (refine' ret_take ?_)); intro r9 t9 o9 h9 tk9 F9 N9 g09 g19 g29; (try k_sweep); (try dsimp only); (try k_fold)) | fail)
  (k_with "law10" => first | (k_here; (with_reducible refine (?_ : wpAny _ _ (call (Value.ref 317) _) _ _ _)); (try ((fail_if_success (fail_if_success k_fold)); (refine fold1 ?_); intro qk)); k_dflt (refine' Call.use (c_use ?hS_law10 ?z0_law10 ?z1_law10 ?off_law10) ?k1_law10 ?k2_law10 ?k3_law10 ?k4_law10 ?k5_law10 ?k6_law10 ?kd_law10 ?ku_law10 (Cut.all ?kC_law10) ?_; (case k1_law10 => k_asm); (case k2_law10 => k_asm); (case k3_law10 => k_asm); (case k4_law10 => k_asm); (case k5_law10 => k_asm); (case k6_law10 => first | exact rfl | assumption); (case kd_law10 => ktr_room); (case ku_law10 => ktr_units); (case kC_law10 => (repeat' (first | exact Cut.here | refine' Cut.there ?_))); (case hS_law10 => assumption); (case z0_law10 => omega); (case z1_law10 => omega); (case off_law10 => ((repeat' (first | assumption | (exact off_nil) | refine all_cons ?_ ?_ | refine all_app ?_ ?_ | (first | assumption | (exact Nat.ne_of_gt (by assumption)) | (exact Nat.ne_of_lt (by assumption)) | (refine' ltm_gt ?h_law10 ?m_law10; (case h_law10 => assumption); (case m_law10 => ((focus ((repeat' (first | (with_reducible exact List.mem_cons_self) | (with_reducible refine List.mem_cons_of_mem _ ?_))); done))))) | (refine' ltm_lt ?h_law10 ?m_law10; (case h_law10 => assumption); (case m_law10 => ((focus ((repeat' (first | (with_reducible exact List.mem_cons_self) | (with_reducible refine List.mem_cons_of_mem _ ?_))); done))))) | fail) | (exact fun p hp => Nat.ne_of_lt (ltAll (by assumption) p hp)) | (refine' fresh_ne ?f_law10 ?m_law10; (case f_law10 => assumption); (case m_law10 => k_mem)))))); k_whole); (k_dflt (refine' ret_use ?_)); intro v9 o9 tl9 ws9 h9 tk9 F9 N9 g09 g19 g29 g39 g49; (try k_sweep); (try dsimp only); (try k_fold)) | fail)
  (k_with "law11" => first | (k_here; (with_reducible refine (?_ : wpAny _ _ (call (Value.ref 324) _) _ _ _)); (try ((fail_if_success (fail_if_success k_fold)); (refine fold1 ?_); intro qk)); k_dflt (refine' Call.use (c_row ?hS_law11 ?y0_law11 ?y1_law11 ?z0_law11 ?z1_law11 ?off_law11) ?k1_law11 ?k2_law11 ?k3_law11 ?k4_law11 ?k5_law11 ?k6_law11 ?kd_law11 ?ku_law11 (Cut.all ?kC_law11) ?_; (case k1_law11 => k_asm); (case k2_law11 => k_asm); (case k3_law11 => k_asm); (case k4_law11 => k_asm); (case k5_law11 => k_asm); (case k6_law11 => first | exact rfl | assumption); (case kd_law11 => ktr_room); (case ku_law11 => ktr_units); (case kC_law11 => (repeat' (first | exact Cut.here | refine' Cut.there ?_))); (case hS_law11 => assumption); (case y0_law11 => assumption); (case y1_law11 => omega); (case z0_law11 => omega); (case z1_law11 => omega); (case off_law11 => ((repeat' (first | assumption | (exact off_nil) | refine all_cons ?_ ?_ | refine all_app ?_ ?_ | (first | assumption | (exact Nat.ne_of_gt (by assumption)) | (exact Nat.ne_of_lt (by assumption)) | (refine' ltm_gt ?h_law11 ?m_law11; (case h_law11 => assumption); (case m_law11 => ((focus ((repeat' (first | (with_reducible exact List.mem_cons_self) | (with_reducible refine List.mem_cons_of_mem _ ?_))); done))))) | (refine' ltm_lt ?h_law11 ?m_law11; (case h_law11 => assumption); (case m_law11 => ((focus ((repeat' (first | (with_reducible exact List.mem_cons_self) | (with_reducible refine List.mem_cons_of_mem _ ?_))); done))))) | fail) | (exact fun p hp => Nat.ne_of_lt (ltAll (by assumption) p hp)) | (refine' fresh_ne ?f_law11 ?m_law11; (case f_law11 => assumption); (case m_law11 => k_mem)))))); k_whole); (k_dflt (refine' ret_row ?_)); intro v9 o9 tl9 tt9 h9 tk9 F9 N9 g09 g19 g29 g39 g49 g59; (try k_sweep); (try dsimp only); (try k_fold)) | fail)
  (k_with "law12" => first | (k_here; (with_reducible refine (?_ : wpAny _ _ (call (Value.ref 363) _) _ _ _)); (try ((fail_if_success (fail_if_success k_fold)); (refine fold1 ?_); intro qk)); k_dflt (refine' Call.use (c_chain ?z0_law12 ?z1_law12) ?k1_law12 ?k2_law12 ?k3_law12 ?k4_law12 ?k5_law12 ?k6_law12 ?kd_law12 ?ku_law12 (fun _ h => h) ?_; (case k1_law12 => k_asm); (case k2_law12 => k_asm); (case k3_law12 => k_asm); (case k4_law12 => k_asm); (case k5_law12 => k_asm); (case k6_law12 => first | exact rfl | assumption); (case kd_law12 => ktr_room); (case ku_law12 => ktr_units); (case z0_law12 => omega); (case z1_law12 => omega); k_whole); (k_dflt (refine' ret_ids ?_)); intro x9 tl9 ids9 h9 tk9 F9 N9 g09 g19 g29 g39 g49; (try k_sweep); (try dsimp only); (try k_fold)) | fail)
  (k_with "law14" => first | (k_here; (with_reducible refine (?_ : wpAny _ _ (call (Value.type "str") [Value.int _ _]) _ _ _)); with_reducible refine' str_small ?ka_law14 ?kb_law14 ?_; (case ka_law14 => omega); (case kb_law14 => omega)) | fail)
  (k_with "law15" => first | (k_here; (with_reducible refine (?_ : wpAny _ _ (call (Value.type "dict") [Value.ref _]) _ _ _)); (rename TPairs _ _ _ _ => lP); k_dflt (refine' dict_pairs_T ?k1_law15 ?k2_law15 ?k6_law15 ?k3_law15 ?hh_law15 lP ?sub_law15 ?nd_law15 ?k5_law15 ?_; (case k1_law15 => k_asm); (case k2_law15 => k_asm); (case k6_law15 => exact Top.nolimit (by k_asm)); (case k3_law15 => exact List.Mem.head _); (case hh_law15 => exact rfl); (case sub_law15 => exact fun p hp => List.Mem.tail _ (List.Mem.tail _ (List.mem_append_left _ hp))); (case nd_law15 => assumption); (case k5_law15 => omega)); intro d9' h9' tk9' o9' kv9' F' N' l1 lo9' hd9' hi9'; (try k_lt l1); (try k_sweep)) | fail)
  (k_with "law16" => first | (k_here; k_dflt (refine LCg.ListComp_U (F₀ := by k_asm) (by with_unfolding_all rfl) (by decide) (by rfl) (by decide) (by rfl) ?_)) | fail)
  (k_with "law18" => first | ((with_reducible refine (?_ : wpAny _ _ (eval (Expr.Name (Str.ofString "script") _) _) _ _ _)); (with_reducible refine inCells ?_); with_unfolding_all refine ldLoc (by assumption) (by assumption) ?_) | fail)
  trivial
theorem law_holds : PySem.Challenge.rw_pf0193_01.Holds := hd (by
  k_go0
  all_goals (try k_fold)
  rename Below callerA _ _ _ => hB
  rename Top _ _ _ _ _ _ => hT
  rename Frag.In _ _ => hX
  rename IntsAre _ _ => hInts
  rename PyData.layable0 _ = true => hLay
  rename ¬ (_ < _) => hLen
  rename Heap.IsList _ _ _ => hLs
  (rename Ground _ _ _ _ _ _ _ _ _ => z; clear z)
  (rename Flt.MathXP _ _ _ => z; clear z)
  (rename LooseAre _ _ _ => z; clear z)
  (rename Glob _ _ _ _ _ _ _ _ => z; clear z)
  (rename Tables _ _ _ _ => z; clear z)
  (rename TopE _ _ _ _ => z; clear z)
  (rename TopW _ _ _ => z; clear z)
  (rename Fr _ _ _ _ => hF)
  obtain ⟨m0, hm0, hF0⟩ := small_map hF (x := S "script") (v := .ref _) rfl
  clear hF
  (rename News _ _ _ _ => hN0)
  have hKeep := keep_of hN0
  (repeat' (first | k_extra "sb" | k_extra "b205" | k_extra "b206" | k_extra "b207" | k_extra "b208" | k_extra "b14" | k_extra "b209" | k_extra "b23" | k_extra "b2" | k_extra "b210" | k_extra "sz"))
  unfold Hold
  refine' use_ring hKeep ?k1 hX hT ?k2 ?k3 ?k4 ?k5 rfl ?kd ?ku ?mi ?ht ?hp ?sub ?ret
  case k1 => k_asm
  case k2 => k_asm
  case k3 => k_asm
  case k4 => k_asm
  case k5 => k_asm
  case kd => ktr_room
  case ku => ktr_units
  case mi =>
    refine' exI2 _ _ ⟨?m1, ?m2, ring_are ?a0 ?a2 ?a1, ?m3⟩
    case m1 => k_mem
    case m2 => assumption
    case m3 => assumption
    case a0 => (refine' gu_tree ?b1 ?b2 ?b3 ?b4 ?b5 ?b6 ?b7 ?b8 ?b9 ?c1; (case b1 => k_mem); (case b2 => k_mem); (case b3 => k_mem); (case b4 => k_mem); (case b5 => k_mem); (case b6 => k_mem); (case b7 => assumption); (case b8 => assumption); (case b9 => assumption); (case c1 => assumption))
    case a1 => (refine' gu_tree ?b1 ?b2 ?b3 ?b4 ?b5 ?b6 ?b7 ?b8 ?b9 ?c1; (case b1 => k_mem); (case b2 => k_mem); (case b3 => k_mem); (case b4 => k_mem); (case b5 => k_mem); (case b6 => k_mem); (case b7 => assumption); (case b8 => assumption); (case b9 => assumption); (case c1 => assumption))
    case a2 => (refine' leaf_tree (kvs := []) (ws := []) ?b1 ?b2 ?b3 ?b4 trivial ?b6; (case b1 => k_mem); (case b2 => k_mem); (case b3 => k_mem); (case b4 => assumption); (case b6 => assumption))
  case ht => (refine' gu_tree ?b1 ?b2 ?b3 ?b4 ?b5 ?b6 ?b7 ?b8 ?b9 ?c1; (case b1 => k_mem); (case b2 => k_mem); (case b3 => k_mem); (case b4 => k_mem); (case b5 => k_mem); (case b6 => k_mem); (case b7 => assumption); (case b8 => assumption); (case b9 => assumption); (case c1 => assumption))
  case hp => (refine' leaf_tree ?b1 ?b2 ?b3 ?b4 ws_three ?b6; (case b1 => exact .head _); (case b2 => k_mem); (case b3 => k_mem); (case b4 => assumption); (case b6 => assumption))
  case sub => (repeat' (first | exact (fun _ h => h) | refine sub_consI ?_))
  case ret =>
    (repeat (rename @LT.lt Nat _ _ _ => z; clear z))
    (repeat (rename Obj.IsDictOf _ _ _ => z; clear z))
    (repeat (rename (_ == sysModules) = false => z; clear z))
    intro all8 h8 tk8 F8 N8 mi8 mp8 sub8
    (repeat' (first | k_extra "sb" | k_extra "b207" | k_extra "b5" | k_extra "b24" | k_extra "sz"))
    unfold Hold
    refine' use_right (ids := ringIds) (most := 9) rfl ring_ok ring_no (Nat.le_of_ble_eq_true rfl) ?k1 hX hT ?k2 ?k3 ?k4 ?k5 rfl ?kd ?ku mi8 mp8 placed_ok.1 (Nat.le_trans placed_ok.2 (Nat.le_of_ble_eq_true rfl)) sub8 ?ret2
    case k1 => k_asm
    case k2 => k_asm
    case k3 => k_asm
    case k4 => k_asm
    case k5 => k_asm
    case kd => ktr_room
    case ku => ktr_units
    case ret2 =>
      clear mi8 mp8 sub8 F8 N8
      intro h8 tk8 F8 N8
      (repeat' (first | k_extra "sb" | k_extra "b211" | k_extra "b212" | k_extra "b213" | k_extra "b5" | k_extra "b23" | k_extra "b214" | k_extra "sz"))
      unfold Hold
      (rename IsRange _ _ _ _ _ _ _ _ => rgX)
      (rename Fr _ _ _ _ => lF)
      (rename News _ _ _ [_, _, _] => lN)
      (rename SrcOk _ => lS)
      refine' rng_src (nm := eNm) (K := fun t => OkT t ∧ height t ≤ 2 ∧ List.length t.ws ≤ 12) (fun st => ∃ o, st = [(_, o)] ∧ SrcOk o) (st0 := [(_, _)]) (base0 := [(_, _), (_, _), (_, _)]) (all := [(_, _), (_, _)]) rfl ?zF lN ⟨_, rfl, lS⟩ rgX ?ks (rangeSize_nat _ _) ?kz (fun _ h => h) ?zA ?zt ?zf
      case zF => k_asm
      case ks => exact small_one (by omega) (by omega) (by omega) (by omega)
      case kz => omega
      case zA => (rintro st ⟨o, rfl, _⟩; rfl)
      case zt =>
        clear rgX lF lN lS
        rintro i t ys st tl I oI C oC Dl m₂ h tk E' QC hi ⟨o8, rfl, S8⟩ fr hC hx F3 N3 off hret
        obtain ⟨g, hg, hi0, hi1⟩ : ∃ g : Int, (i : Int) = g ∧ 0 ≤ g ∧ g ≤ 4 := ⟨i, rfl, Int.natCast_nonneg i, by omega⟩
        have hnm : eNm i = S "e" ++ Str.ofString (toString g) := by rw [← hg]; rfl
        rw [hnm] at hret
        rw [hg] at hx
        clear hi hg hnm
        simp only [List.cons_append, List.nil_append] at N3 off
        have hoff := row_off (oI := oI) (oC := oC) (oD := LCg.lst ys) off fr (by ((repeat' (first | assumption | (exact off_nil) | refine all_cons ?_ ?_ | refine all_app ?_ ?_ | (first | assumption | (exact Nat.ne_of_gt (by assumption)) | (exact Nat.ne_of_lt (by assumption)) | (refine' ltm_gt ?h ?m; (case h => assumption); (case m => ((focus ((repeat' (first | (with_reducible exact List.mem_cons_self) | (with_reducible refine List.mem_cons_of_mem _ ?_))); done))))) | (refine' ltm_lt ?h ?m; (case h => assumption); (case m => ((focus ((repeat' (first | (with_reducible exact List.mem_cons_self) | (with_reducible refine List.mem_cons_of_mem _ ?_))); done))))) | fail) | (exact fun p hp => Nat.ne_of_lt (ltAll (by assumption) p hp)) | (refine' fresh_ne ?f ?m; (case f => assumption); (case m => k_mem))))))
        (repeat' (first | k_extra "sb" | k_extra "b215" | k_extra "b216" | k_extra "b209" | k_extra "sz"))
        refine' hret _ _ _ [(_, _)] ((_, _) :: _) _ _ _ _ ?e1 (row_end ?e2) ⟨_, rfl, ?e3⟩ (row_fresh ?e4 ?e5) (.head _) (TreeIn.mono (fun p hp => .tail _ hp) ?e6) ⟨?e7, ?e8, ?e9⟩
        case e1 => k_asm
        case e2 => assumption
        case e3 => assumption
        case e5 => assumption
        case e4 => ktr_rel
        case e6 => assumption
        case e7 => assumption
        case e8 => assumption
        case e9 => assumption
      case zf =>
        clear rgX lF lN lS
        rintro ys ids st tl D8 h8 tk8 ⟨o8, rfl, S8⟩ fr ha hnm hk8 F3 N3 off8
        simp only [List.cons_append, List.nil_append] at N3 off8
        have hD8 := Ne.symm (off8 _ (.head _))
        have hT8 := fun p hp => Ne.symm (fr p hp _ (.head _))
        have hlen : ids.length ≤ 5 := by have := congrArg List.length hnm; rw [List.length_map, List.length_map, List.length_range] at this; omega
        have hl16 : ids.length ≤ 100 := by omega
        have nd : (ids.map (·.1)).Nodup := by rw [hnm]; exact eNm_nodup (by omega)
        have hno := keys_no (by omega) hnm
        clear off8 fr hnm
        (repeat' (first | k_extra "sb" | k_extra "b205" | k_extra "b217" | k_extra "b218" | k_extra "b5" | k_extra "b14" | k_extra "b209" | k_extra "b23" | k_extra "b2" | k_extra "sz"))
        unfold Hold
        refine' use_right (ids := ids) (most := Int.toNat _) (keep := [(_, _), (_, _)]) (Int.toNat_of_nonneg ?nn).symm hk8 hno (Nat.le_trans hlen (Nat.le_of_ble_eq_true rfl)) ?k1 hX hT ?k2 ?k3 ?k4 ?k5 rfl ?kd ?ku ?mi ?ht (svg_ok ?w1 ?z1 ?w2 ?z2).1 (svg_ok ?w1 ?z1 ?w2 ?z2).2 (keep2 ?q1 ?q2 ?q3) ?ret3
        case k1 => k_asm
        case k2 => k_asm
        case k3 => k_asm
        case k4 => k_asm
        case k5 => k_asm
        case kd => ktr_room
        case ku => ktr_units
        case mi =>
          refine' ⟨_, _, ?m1, ?m2, IdsAre.mono (fun _ _ z => TreeIn.mono ?m3 z) ?m4, ?m5⟩
          case m4 => assumption
          case m2 => assumption
          case m1 => k_mem
          case m3 => ((repeat' (first | exact (fun _ h => h) | exact (fun _ h => List.mem_append_left _ h) | assumption | refine sub_consI ?_ | refine sub_appI ?_)))
          case m5 => assumption
        case ht =>
          refine' svg_tree ?m1 ?m2 ?m3 ?m4 ?m5 (TreeIn.mono ?m6 ?m7) (TreeIn.mono ?m8 ?m9)
          case m1 => k_mem
          case m2 => k_mem
          case m3 => k_mem
          case m4 => assumption
          case m5 => assumption
          case m7 => assumption
          case m9 => assumption
          case m6 => ((repeat' (first | exact (fun _ h => h) | exact (fun _ h => List.mem_append_left _ h) | assumption | refine sub_consI ?_ | refine sub_appI ?_)))
          case m8 => ((repeat' (first | exact (fun _ h => h) | exact (fun _ h => List.mem_append_left _ h) | assumption | refine sub_consI ?_ | refine sub_appI ?_)))
        case w1 => assumption
        case z1 => assumption
        case w2 => assumption
        case z2 => assumption
        case q1 => assumption
        case q2 => k_mem
        case q3 => k_mem
        case nn => omega
        case ret3 =>
          intro h7 tk7 F7 N7
          (repeat' (first | k_extra "sb" | k_extra "b219" | k_extra "b208" | k_extra "b5" | k_extra "b14" | k_extra "b209" | k_extra "b23" | k_extra "b2" | k_extra "b220" | k_extra "sz"))
          unfold Hold
          (rename IdsIn _ _ _ _ _ => lI9)
          (rename IdsOk _ => lK9)
          refine' use_right (most := 99) (keep := []) rfl lK9 ?no ?hz ?k1 hX hT ?k2 ?k3 ?k4 ?k5 rfl ?kd ?ku (idsIn_mono ?mi lI9) (leaf_tree ?m1 ?m2 ?m3 ?m4 ws_one ?m5) use0_ok.1 (Nat.le_trans use0_ok.2 (Nat.le_of_ble_eq_true rfl)) keep0 ?ret4
          case no => assumption
          case hz => assumption
          case k1 => k_asm
          case k2 => k_asm
          case k3 => k_asm
          case k4 => k_asm
          case k5 => k_asm
          case kd => ktr_room
          case ku => ktr_units
          case mi => ((repeat' (first | exact (fun _ h => h) | exact (fun _ h => List.mem_append_left _ h) | assumption | refine sub_consI ?_ | refine sub_appI ?_)))
          case m1 => k_mem
          case m2 => k_mem
          case m3 => k_mem
          case m4 => assumption
          case m5 => assumption
          case ret4 =>
            intro h6 tk6 F6 N6
            k_steps)
end
end

end
end Mine
theorem PySem.Challenge.cw_pf0193_01_holds : PySem.Challenge.rw_pf0193_01.Holds :=
  Mine.law_holds
