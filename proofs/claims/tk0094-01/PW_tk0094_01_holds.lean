import PyProof.Rows.All
import Wide.All
import OpenK.AllK
import Wide.FinOn
import PySem.Challenge.RW_tk0094_01
open PySem PySem.W PySem.Calls PyProof.Rows
set_option Elab.async false
set_option rowWalk.seconds 0
namespace Mine
set_option compiler.extract_closed false
set_option maxRecDepth 100000
set_option maxHeartbeats 8000000
/-- the looks at the law -/
theorem said : Challenge.rw_tk0094_01.wellSaid = true := by
  rw [PySem.W.Fast.te9446332074065402090]
  kernel_rfl
/-- what the walk may see of the text: all but the names of the files -/
def vw : Program := PySem.W.view Challenge.pw_tk0094_01 [0,2,3,4,6,7,8,10,12,13,14,15,16,17,18,19,20,22,23,24,25,26,27,28,29,30,31,32,33]
theorem opened : ∀ w : World, (fencedOpening treeTable Challenge.pw_tk0094_01 w 3008).map (fun s => (s.heap, s.gens, s.drawn, s.toks)) = some (boot_heap w.params, Array.mk [], boot_drawn, boot_toks) :=
  boot_open (by kernel_rfl) (by kernel_rfl) (fun s => by kernel_rfl)
/-- the top, run once -/
theorem left_of {q : Program} {Xt : Shared → Bool} {α : Type} {Yf : Shared → α} {Ya : World → α}
    (h : ∀ w os, (topFrom treeTable Challenge.pw_tk0094_01 w 3008 ⟨boot_heap w.params, Array.mk [], boot_drawn, boot_toks, os⟩).map (fun s => (openSeen q [] (importedModules Challenge.pw_tk0094_01.main.body) Xt true s, Yf s)) = some (openGood q [], Ya w)) :
    LeftO Challenge.pw_tk0094_01 q [] Xt Yf Ya 3008 true := fun w => by
  obtain ⟨⟨h', gs, d, k, os⟩, e, e'⟩ := Option.map_eq_some_iff.mp (opened w)
  obtain ⟨rfl, rfl, rfl, rfl⟩ : h' = boot_heap w.params ∧ gs = Array.mk [] ∧ d = boot_drawn ∧ k = boot_toks := by simpa using e'
  unfold openEnds
  rw [e, Option.bind_some]
  exact h w os
local macro_rules | `(tactic| o_law) => `(tactic| refine holds_law said fun _ => ?_)
local macro_rules | `(tactic| o_head $H) => `(tactic| refine holds_open (q := vw) (loose := []) (Xt := fun s => xlAt vw [] s && recOk (RowW.records (Challenge.rw_tk0094_01.row.toRowW)) s) (XP := XL vw []) (Yf := Hook.obs $H) (Ya := Hook.val $H) (YP := Hook.says $H) (N := 3008)
      (left_of fun w os => by unfold topFrom; rw [PySem.W.Fast.te14082659384304107361, PySem.W.Fast.te14364793385576792824, PySem.W.Fast.te4187177175401517315]; kernel_rfl)
      (Hook.of $H) (Hook.keeps $H) (fun s e => xl_of s (Bool.and_eq_true_iff.mp e).1) XL.keeps (by rfl) (by rfl) (by rfl) (fun s e => recFacts_of (Bool.and_eq_true_iff.mp e).2) (by rfl) (by assumption) (by decide +kernel) ⟨rfl, rfl, rfl, rfl, rfl, by decide +kernel⟩ ?hw ?hc)
open_top hd for PySem.Challenge.rw_tk0094_01
-- part Base
section
theorem fillT : (Challenge.rw_tk0094_01 = Challenge.rw_tk0094_01) ∧ Mine.hd.heap_1 = Mine.hd.heap_1 := by
  k_fill
  exact ⟨rfl, rfl⟩
/-- a mark that the walk does not pass -/
noncomputable def Stop (P : Prop) : Prop := P
theorem Stop.mk {P : Prop} (h : Stop P) : P := h
theorem Stop.to {P : Prop} (h : P) : Stop P := h
abbrev Led := List (Addr × Obj)
/-- what is wanted behind a walk, hidden: the walk's terms stay small -/
noncomputable def Hid {α : Type} (Q : α → Shared → Prop) : α → Shared → Prop := Q
theorem Hid.to {α : Type} {Q Q' : α → Shared → Prop} {v : α} {s : Shared} (k : ∀ v s, Q v s → Q' v s) (h : Q v s) : Hid Q' v s := k v s h
/-- the goal put aside while a long fact is taken apart: the term then bears it twice, not at every part -/
theorem goalAside {G : Prop} (h : ∀ X : Prop, (G → X) → X) : G := h G id
theorem norm_tk {α : Type} {M : Model} {A : Around} {t : Sem α} {Q : α → Shared → Prop} {E : Value → Shared → Prop} {h : Heap} {g : Array GenState} {d : Drawn} {a b : Nat} {o : OsState}
    (H : ∀ tk, wpAny M A t Q E ⟨h, g, d, tk, o⟩) : wpAny M A t Q E ⟨h, g, d, a + b, o⟩ := H _
theorem hide {α : Type} {M : Model} {A : Around} {t : Sem α} {Q : α → Shared → Prop} {E : Value → Shared → Prop} {s : Shared}
    (h : ∀ (Q' : α → Shared → Prop) (E' : Value → Shared → Prop), (∀ v s, Q v s → Q' v s) → (∀ v s, E v s → E' v s) → wpAny M A t (Hid Q') (Hid E') s) : wpAny M A t Q E s :=
  h Q E (fun _ _ x => x) (fun _ _ x => x)
theorem hide2 {α β : Type} {M : Model} {A A' : Around} {t : Sem α} {t' : α → Sem β} {Q : β → Shared → Prop} {E E' : Value → Shared → Prop} {s : Shared}
    (h : ∀ (Q' : β → Shared → Prop), (∀ v s, Q v s → Q' v s) → wpAny M A t (fun a s₂ => wpAny M A' (t' a) (Hid Q') E' s₂) E s) : wpAny M A t (fun a s₂ => wpAny M A' (t' a) Q E' s₂) E s :=
  h Q (fun _ _ x => x)
/-- a call of a def of the text, for every caller: what it gives back and the ledger behind it -/
noncomputable def Fn (w : World) (f : Addr) (args : List Value) (news : Led) (D U : Nat) (Post : Value → Led → Prop) : Prop :=
  ∀ (p : Program) (loose : List Str) (mean : ExcName → Option Value) (mg mb : Str → Option Value)
  (dp un : Nat) (gd : Option (List Code)) (cn : Str) (cs : Scope) (a : Addr) (ccd : Value) (cl : List (Str × Addr)) (outer : List Env) (A₀ : Around) (base h₀ : Heap) (L : Addr) (m : Str → Option Value) (s : Shared) (Q E : Value → Shared → Prop),
  Below A₀ base outer h₀ → Fr h₀ L s.heap m → (Mine.hd.heap_1 w.params).In h₀ → News h₀ L s.heap news → Top p loose mean mg mb h₀ → cs.kind = .function → dp + D < recursionLimit → un + U < cLine →
  (∀ r news' h' tk', Fr h₀ L h' m → News h₀ L h' news' → Post r news' → Q r { s with heap := h', toks := tk' }) →
  wpAny (model Challenge.pw_tk0094_01 w) (ktrTop dp un gd cn cs L a ccd cl outer) (call (.ref f) args) Q E s
/-- new objects stand apart from all of the old ledger -/
noncomputable def Fresh (new old : Led) : Prop := ∀ p ∈ new, ∀ q ∈ old, p.1 ≠ q.1
section
variable {w : World} {f : Addr} {args : List Value} {news : Led} {D U : Nat} {Post : Value → Led → Prop}
  {p : Program} {loose : List Str} {mean : ExcName → Option Value} {mg mb : Str → Option Value}
  {dp un : Nat} {gd : Option (List Code)} {cn : Str} {cs : Scope} {a : Addr} {ccd : Value} {cl : List (Str × Addr)} {outer : List Env} {A₀ : Around} {base h₀ : Heap} {L : Addr} {m : Str → Option Value} {s : Shared} {Q E : Value → Shared → Prop}
theorem Fn.use {hp : Heap} {gg : Array GenState} {dw : Drawn} {tk₀ : Nat} {os : OsState} (B : Below A₀ base outer h₀) (F : Fr h₀ L hp m) (X : (Mine.hd.heap_1 w.params).In h₀) (N : News h₀ L hp news) (T : Top p loose mean mg mb h₀) (hk : cs.kind = .function)
    (C : Fn w f args news D U Post) (hd : dp + D < recursionLimit) (hu : un + U < cLine)
    (h : ∀ r news' h' tk', Fr h₀ L h' m → News h₀ L h' news' → Post r news' → Q r ⟨h', gg, dw, tk', os⟩) :
    wpAny (model Challenge.pw_tk0094_01 w) (ktrTop dp un gd cn cs L a ccd cl outer) (call (.ref f) args) Q E ⟨hp, gg, dw, tk₀, os⟩ := C _ _ _ _ _ _ _ _ _ _ _ _ _ _ _ _ _ _ _ ⟨hp, gg, dw, tk₀, os⟩ _ _ B F X N T hk hd hu h
theorem Fn.mono {Post' : Value → Led → Prop} (C : Fn w f args news D U Post) (h : ∀ r n, Post r n → Post' r n) : Fn w f args news D U Post' := by
  intro p loose mean mg mb dp un gd cn cs a ccd cl outer A₀ base h₀ L m s Q E B F X N T hk hd hu hret
  exact C _ _ _ _ _ _ _ _ _ _ _ _ _ _ _ _ _ _ _ _ _ _ B F X N T hk hd hu fun r n h' tk' F' N' q => hret r n h' tk' F' N' (h r n q)
/-- a contract said with the changed object ahead serves where it stands anywhere -/
theorem Fn.upd {d : Addr} {o : Obj} {g : Obj → Led} {P : Value → Obj → Led → Prop} (Up : UpdF d o news g)
    (C : ∀ rest, (∀ p ∈ rest, p.1 ≠ d) → (∀ p ∈ news, p.1 ≠ d → p ∈ rest) → (∀ p ∈ rest, p ∈ news) →
      Fn w f args ((d, o) :: rest) D U fun r n => ∃ o' new, n = new ++ (d, o') :: rest ∧ Fresh new ((d, o) :: rest) ∧ P r o' new) :
    Fn w f args news D U fun r n => ∃ o' new, n = new ++ g o' ∧ Fresh new news ∧ P r o' new := by
  obtain ⟨pre, post, rfl, hg, h1, h2⟩ := Up.split
  have hoff : ∀ p ∈ pre ++ post, p.1 ≠ d := fun p hp => (List.mem_append.mp hp).elim (h1 p) (h2 p)
  have hsub : ∀ p ∈ pre ++ (d, o) :: post, p ∈ (d, o) :: (pre ++ post) := fun p hp => by
    rcases List.mem_append.mp hp with h | h
    · exact .tail _ (List.mem_append_left _ h)
    · rcases List.mem_cons.mp h with rfl | h
      · exact .head _
      · exact .tail _ (List.mem_append_right _ h)
  intro p loose mean mg mb dp un gd cn cs a ccd cl outer A₀ base h₀ L m s Q E B F X N T hk hd hu hret
  refine C (pre ++ post) hoff (fun p hp hne => ?_) (fun p hp => ?_) _ _ _ _ _ _ _ _ _ _ _ _ _ _ _ _ _ _ _ _ _ _ B F X (fun p hp => N p ?_) T hk hd hu fun r n h' tk' F' N' q => ?_
  · rcases List.mem_cons.mp (hsub p hp) with rfl | h
    · exact absurd rfl hne
    · exact h
  · rcases List.mem_append.mp hp with h | h
    · exact List.mem_append_left _ h
    · exact List.mem_append_right _ (.tail _ h)
  · rcases List.mem_cons.mp hp with rfl | h
    · exact List.mem_append_right _ (.head _)
    · rcases List.mem_append.mp h with h | h
      · exact List.mem_append_left _ h
      · exact List.mem_append_right _ (.tail _ h)
  · obtain ⟨o', new, rfl, hf, hP⟩ := q
    refine hret r (new ++ g o') h' tk' F' (fun p hp => N' p ?_) ⟨o', new, rfl, fun p hp q hq => hf p hp q (hsub q hq), hP⟩
    rw [hg] at hp
    rcases List.mem_append.mp hp with h | h
    · exact List.mem_append_left _ h
    · refine List.mem_append_right _ ?_
      rcases List.mem_append.mp h with h | h
      · exact .tail _ (List.mem_append_left _ h)
      · rcases List.mem_cons.mp h with rfl | h
        · exact .head _
        · exact .tail _ (List.mem_append_right _ h)
end
theorem Fresh.nil {old : Led} : Fresh [] old := fun _ h => nomatch h
theorem Fresh.ne {new old : Led} {d : Addr} {o : Obj} (h : Fresh new old) (hm : (d, o) ∈ old) : ∀ p ∈ new, p.1 ≠ d := fun p hp => h p hp _ hm
theorem Fresh.of_lt {d : Addr} {o : Obj} {old : Led} (h : ∀ p ∈ old, p.1 < d) : Fresh [(d, o)] old := fun p hp q hq => by
  rcases List.mem_singleton.mp hp with rfl
  exact Nat.ne_of_gt (h q hq)
theorem Fresh.cons {d : Addr} {o : Obj} {new old : Led} (h : ∀ p ∈ old, p.1 ≠ d) (hf : Fresh new old) : Fresh ((d, o) :: new) old := fun p hp q hq => by
  rcases List.mem_cons.mp hp with rfl | hp
  · exact Ne.symm (h q hq)
  · exact hf p hp q hq
theorem off1_ne {d : Addr} : ∀ {l : Led}, LCg.Off1 d l → ∀ p ∈ l, p.1 ≠ d
  | [], _, _, h => nomatch h
  | _ :: _, x, p, h => by
    rcases List.mem_cons.mp h with rfl | h
    · exact x.1
    · exact off1_ne x.2 p h
theorem all_right {l r : Led} {P : Addr × Obj → Prop} (h : ∀ p ∈ l ++ r, P p) : ∀ p ∈ r, P p := fun p hp => h p (List.mem_append_right _ hp)
theorem all_tail {a : Addr × Obj} {r : Led} {P : Addr × Obj → Prop} (h : ∀ p ∈ a :: r, P p) : ∀ p ∈ r, P p := fun p hp => h p (.tail _ hp)
theorem allLt_ne {d : Addr} {l : Led} (h : AllLt d l) : ∀ p ∈ l, p.1 ≠ d := fun p hp => Nat.ne_of_lt (kst_ltOf h p hp)
theorem all_app {l r : Led} {P : Addr × Obj → Prop} (h1 : ∀ p ∈ l, P p) (h2 : ∀ p ∈ r, P p) : ∀ p ∈ l ++ r, P p := fun p hp => (List.mem_append.mp hp).elim (h1 p) (h2 p)
section
variable {prog : Program} {w : World} {A : Around} {E : Value → Shared → Prop} {s : Shared} {h₀ : Heap} {L D : Addr} {m : Str → Option Value} {news news' : Led} {vs : List Value} {n : Nat} {k : Int} {t : Tok}
/-- xs[k] = v, of any values -/
theorem set_any {v : Value} {Q : Unit → Shared → Prop} (F : Fr h₀ L s.heap m) (N : News h₀ L s.heap news) (U : Upd D (listOf vs.toArray n) (listOf (vs.set k.toNat v).toArray n) news news') (h0 : 0 ≤ k) (h1 : k < vs.length) (hfit : k < 2 ^ 63)
    (h : ∀ h', Fr h₀ L h' m → News h₀ L h' news' → Q () { s with heap := h' }) :
    wpAny (model prog w) A (setItem (.ref D) (.int k t) v) Q E s := by
  obtain ⟨pre, post, rfl, rfl, a, b⟩ := U.split
  have z := N (D, listOf vs.toArray n) (List.mem_append.mpr (.inr (.head _)))
  have hs : vs.toArray.size = vs.length := List.size_toArray ..
  refine ki_setAt z.1 h0 hfit (by omega) (h _ (F.change (Heap.SameBut.update ..) z.2.1 z.2.2) (ki_turn _ N a b ?_ ?_))
  · apply Array.toList_inj.mp
    simp
  · simp
theorem len_any {l : Addr} {Q : Value → Shared → Prop} (N : News h₀ L s.heap news) (hm : (l, listOf vs.toArray n) ∈ news) (hz : vs.length < 2 ^ 62) (h : ∀ t tk, Q (.int vs.length t) { s with toks := tk }) :
    wpAny (model prog w) A (call (.builtin "len") [.ref l]) Q E s := by
  have e : vs.toArray.size = vs.length := List.size_toArray ..
  exact call_len_list (PySem.IsL.isList (n := n) (N _ hm).1) (by rw [e]; omega) (by rw [e]; exact h _ _)
end
end
open Builtin Builtin.ObjectAttr
-- part Words
section
/-- two lists, item by item -/
inductive All2 {α β : Type} (R : α → β → Prop) : List α → List β → Prop
  | nil : All2 R [] []
  | cons {x : α} {y : β} {xs : List α} {ys : List β} : R x y → All2 R xs ys → All2 R (x :: xs) (y :: ys)
theorem All2.mono {α β : Type} {R S : α → β → Prop} (h : ∀ x y, R x y → S x y) : ∀ {xs : List α} {ys : List β}, All2 R xs ys → All2 S xs ys
  | _, _, .nil => .nil
  | _, _, .cons a r => .cons (h _ _ a) (r.mono h)
theorem All2.length {α β : Type} {R : α → β → Prop} : ∀ {xs : List α} {ys : List β}, All2 R xs ys → xs.length = ys.length
  | _, _, .nil => rfl
  | _, _, .cons _ r => by rw [List.length_cons, List.length_cons, r.length]
theorem All2.append {α β : Type} {R : α → β → Prop} {us : List α} {vs : List β} : ∀ {xs : List α} {ys : List β}, All2 R xs ys → All2 R us vs → All2 R (xs ++ us) (ys ++ vs)
  | _, _, .nil, k => k
  | _, _, .cons a r, k => .cons a (r.append k)
theorem All2.get {α β : Type} {R : α → β → Prop} : ∀ {xs : List α} {ys : List β}, All2 R xs ys → ∀ {i : Nat} {x : α}, xs[i]? = some x → ∃ y, ys[i]? = some y ∧ R x y
  | _, _, .nil, i, _, h => by cases h
  | _, _, .cons a r, 0, x, h => by
    obtain rfl : _ = x := Option.some.inj h
    exact ⟨_, rfl, a⟩
  | _, _, .cons a r, i + 1, x, h => by
    obtain ⟨y, hy, q⟩ := r.get (i := i) (x := x) h
    exact ⟨y, hy, q⟩
theorem All2.snoc {α β : Type} {R : α → β → Prop} {xs : List α} {ys : List β} {x : α} {y : β} (h : All2 R xs ys) (k : R x y) : All2 R (xs ++ [x]) (ys ++ [y]) := h.append (.cons k .nil)
theorem All2.reverse {α β : Type} {R : α → β → Prop} : ∀ {xs : List α} {ys : List β}, All2 R xs ys → All2 R xs.reverse ys.reverse
  | _, _, .nil => .nil
  | _, _, .cons a r => by
    rw [List.reverse_cons, List.reverse_cons]
    exact r.reverse.snoc a
/-- a word of the law: a reset?, its first place, its end, final? -/
structure Wd where
  r : Bool
  b : Int
  e : Int
  f : Bool
abbrev tupN (vs : Array Value) (n : Nat) : Obj := { cls := .type "tuple", data := .seq vs n }
noncomputable def WdAt (led : Led) (v : Value) (x : Wd) : Prop := ∃ (a : Addr) (n : Nat) (t1 t2 : Tok), v = .ref a ∧ (a, tupN #[.bool x.r, .int x.b t1, .int x.e t2, .bool x.f] n) ∈ led
abbrev WdsAt (led : Led) (vs : List Value) (xs : List Wd) : Prop := All2 (WdAt led) vs xs
theorem WdAt.mono {led led' : Led} {v : Value} {x : Wd} (h : WdAt led v x) (hs : ∀ p ∈ led, p ∈ led') : WdAt led' v x :=
  let ⟨a, n, t1, t2, e, hm⟩ := h; ⟨a, n, t1, t2, e, hs _ hm⟩
theorem WdsAt.mono {led led' : Led} {vs : List Value} {xs : List Wd} (h : WdsAt led vs xs) (hs : ∀ p ∈ led, p ∈ led') : WdsAt led' vs xs := All2.mono (fun _ _ q => q.mono hs) h
noncomputable def contra (x y : Wd) : Bool := if x.f && y.f then x.e != y.e else (x.f && decide (y.e > x.e)) || (y.f && decide (x.e > y.e))
end
-- part Exc1
section
section
variable {prog : Program} {w : World} {A : Around} {E : Value → Shared → Prop} {h : Heap} {g : Array GenState} {d : Drawn} {t : Nat} {os : OsState} {K : Frag} {fI : Addr} {R : Result → Shared → Prop}
variable {nm q : Str} {C N : Addr} {bs bm : List Value} {hdct : Bool} {sn : List Str} {sub : List Value} {ab : Bool} {col : Option Bool} {dd : Option Addr} {k0 k1 k2 k3 k5 : Option Value} {B newId initId : String}
abbrev excObj (C : Addr) (dx : Option Addr) (t : Addr) : Obj := { cls := .ref C, dict := dx, data := .fields #[.ref t, .none, .none, .none, .bool false, .none] }
/-- an own exception's class is called: the object is laid, its own __init__ is called -/
theorem exc_call (F : ExcBaseFacts B newId initId bm) {rest : List Value}
    (hC : h.get? C = some (excClassObj nm q C N bs bm hdct sn sub ab col dd k0 k1 k2 k3 k5 newId)) (X : K.In h) (hi : findIn K (.ref C) "__init__" = some (some (.ref fI))) (hf : typeIn K (.ref fI) = some (.type "function"))
    (hrest : rest.length ≤ sizeLine)
    (hq : codeAny (model prog w) (A.under (.builtin "type.__call__" ⟨.ref C :: rest, []⟩)) (.call (.ref fI) ⟨.ref (h.objs.size + 1) :: rest, []⟩) (InitBack (h.objs.size + 1) R)
      ⟨(h.push { cls := .type "tuple", data := .seq rest.toArray }).push (excObj C none h.objs.size), g, d, t, os⟩) :
    codeAny (model prog w) A (.call (.ref C) ⟨rest, []⟩) R ⟨h, g, d, t, os⟩ := by
  have f1 := tc_lookup
  have f2 := tc_bind (.ref C)
  have hT : (⟨h, g, d, t, os⟩ : Shared).TypeIs (.ref C) "type" := ⟨_, hC, rfl⟩
  refine codeAny_of_tree ?_
  show wpAny _ _ (callAny (.ref C) _) _ _ _
  repeat (any_goals (first | assumption | with_reducible refine wpAny_loadPart_at hC ?_ | wp_step))
  refine ⟨rfl, ?_⟩
  refine codeAny_call_builtin_at (Code.quiet_builtin _ (by decide +kernel)) entry_typeCall (wpAny_check_type_call_sub hC ?_)
  repeat (first | with_reducible refine wpAny_loadPart_at hC ?_ | with_reducible refine wpAny_madeBy_exc hC ?_ | wp_step)
  refine codeAny_call_builtin_code (Code.quiet_builtin _ F.quiet) (wpAny_check_new_sub F hC ?_)
  refine codeAny_exc_new_sub F hC ?_ hrest
  show wpAny _ _ _ _ _ _
  have k : ∀ b o, h.get? b = some o → ((h.push { cls := .type "tuple", data := .seq rest.toArray }).push (excObj C none h.objs.size)).get? b = some o := fun b o e => Heap.get?_push_of_some _ (Heap.get?_push_of_some _ e)
  have hC₁ := k _ _ hC
  have hget : ((h.push { cls := .type "tuple", data := .seq rest.toArray }).push (excObj C none h.objs.size)).get? (h.objs.size + 1) = some (excObj C none h.objs.size) := by heap_get
  have hcC : (Value.ref C :: bm).contains (.ref C) = true := by simp
  have t1 : Looks (model prog w) ((h.push { cls := .type "tuple", data := .seq rest.toArray }).push (excObj C none h.objs.size)) (typeOf (.ref (h.objs.size + 1))) (.ref C) := (Looks.ld hget).andThen .now
  have i1 := (looks_findIn (M := model prog w) X hi).keeps k
  have b1 := (bind_fn (M := model prog w) X (.ref (h.objs.size + 1)) hf).keeps k
  unfold isInstance
  repeat (first | with_reducible refine wpAny_loadPart_at hget ?_ | (with_reducible refine wpAny_isSubtype_exc hC₁ ?_; rw [hcC]) | wp_step)
  refine wpAny_isSubtype_exc hC₁ ?_
  rw [hcC]
  simp only [Bool.not_true, Bool.false_eq_true, if_false]
  unfold callSpecial? specialOf
  refine wpAny_bind (wpAny_holding (wpAny_bind (wpAny_bind (t1.here (i1.here ?_)))))
  dsimp only
  refine wpAny_holding (wpAny_bind (b1.here (wpAny_bind (wpAny_call ?_))))
  refine codeAny_mono hq fun r s' z => ?_
  rcases r with e | (v | _ | _ | _) <;> first | exact z | exact z.elim | skip
  obtain ⟨rfl, z⟩ := z
  exact wpAny_pure (wpAny_pure z)
end
section
variable {prog : Program} {w : World} {A : Around} {E : Value → Shared → Prop} {s : Shared} {K : Frag} {R : Result → Shared → Prop} {h₀ : Heap} {L x C t dx : Addr} {m : Str → Option Value} {news : Led} {bm : List Value} {cd : ClassData} {B sa owner : String}
/-- e's record: its fields' first is an address -/
theorem exc_init_call {newId initId : String} {vals : List Value} {g : Obj → Led} {od : Option Addr} {Q : Value → Shared → Prop}
    {nm q : Str} {Nn : Addr} {bs : List Value} {hdct : Bool} {sn : List Str} {sub : List Value} {ab : Bool} {col : Option Bool} {dd : Option Addr} {k0 k1 k2 k3 k5 : Option Value}
    (EB : ExcBaseFacts B newId initId bm) (F : Fr h₀ L s.heap m) (N : News h₀ L s.heap news) (X : K.In s.heap) (hC : K.lookup C = some (excClassObj nm q C Nn bs bm hdct sn sub ab col dd k0 k1 k2 k3 k5 newId))
    (U : UpdF x (excObj C od t) news g) (hv : vals.length ≤ sizeLine)
    (h : ∀ t' h', Fr h₀ L h' m → News h₀ L h' ((t', { cls := .type "tuple", data := .seq vals.toArray }) :: g (excObj C od t')) → (∀ p ∈ news, p.1 < t') → Q .none { s with heap := h' }) :
    wpAny (model prog w) A (call (.builtin initId) (.ref x :: vals)) Q E s := by
  refine goalAside fun Xg kg => ?_
  obtain ⟨pre, post, rfl, hg, a, b⟩ := U.split
  refine kg ?_
  clear kg Xg
  refine goalAside fun Xg kg => ?_
  obtain ⟨hp, gs, d, tk, os⟩ := s
  refine kg ?_
  clear kg Xg
  have Z := N (x, excObj C od t) (List.mem_append_right _ (.head _))
  have hlt : ∀ p ∈ pre ++ (x, excObj C od t) :: post, p.1 < hp.objs.size := fun p hp' => Heap.lt_size (N p hp').1
  refine wpAny_call (codeAny_call_builtin EB.init.plain EB.initEntry (wpAny_check_init_sub EB (X _ _ hC) Z.1 rfl ?_))
  have hget : (hp.push { cls := .type "tuple", data := .seq vals.toArray }).get? x = some (excObj C od t) := Heap.get?_push_of_some _ Z.1
  wp_walk
  have N2 := N.push F ({ cls := .type "tuple", data := .seq vals.toArray } : Obj)
  have e0 : ((hp.objs.size, ({ cls := .type "tuple", data := .seq vals.toArray } : Obj)) :: (pre ++ (x, excObj C od t) :: post)) = (((hp.objs.size, ({ cls := .type "tuple", data := .seq vals.toArray } : Obj)) :: pre) ++ (x, excObj C od t) :: post) := rfl
  rw [e0] at N2
  have na : ∀ p ∈ ((hp.objs.size, ({ cls := .type "tuple", data := .seq vals.toArray } : Obj)) :: pre), p.1 ≠ x := fun p hp' => by
    rcases List.mem_cons.mp hp' with rfl | hp'
    · exact Nat.ne_of_gt (Heap.lt_size Z.1)
    · exact a p hp'
  obtain ⟨F3, N3⟩ := news_upd (o' := excObj C od hp.objs.size) (f := Obj.mapFields (·.setIfInBounds 0 (Value.ref hp.objs.size))) (F.push _) N2 na b rfl rfl
  refine h hp.objs.size _ F3 ?_ hlt
  rw [hg]
  exact N3

theorem exc_store_open {ox : Obj} {od : Option Obj} {name : Str} {tk : Tok} {v : Value} {r : Option Value} (SF : StoreFacts B bm "object.__setattr__" "object") (X : K.In s.heap) (I : InstAt s.heap x ox C od) (hc : clsIn K C = some cd) (hm : cd.mro = .ref C :: bm) (ht : takerIn K C name = some r)
    (h : ∀ b, wpAny (model prog w) A.in1 (match r with | some a => setByDescriptor a (.ref x) v | none => storeInOwnDict (.ref x) (.ref C) (.str name tk) name v b)
      (fun fin s' => match fin with | .done f => R (.ok f) s' | .again c' => c'.quiet = true ∧ codeAny (model prog w) A c' R s') (fun e s' => R (.error e) s') s) :
    codeAny (model prog w) A (.call (.builtin "object.__setattr__") ⟨[.ref x, .str name tk, v], []⟩) R s := by
  have hmL : Looks (model prog w) s.heap (mroOf (.ref C)) (.ref C :: bm) := hm ▸ (looks_clsIn X hc).andThen .now
  have sub : Looks (model prog w) s.heap (isInstance (.ref x) (.type "object")) true := I.type.andThen (looks_mroIn X (by unfold mroIn; rw [hc, Option.bind_some, if_neg (by rw [hm]; simp), hm, List.contains_cons, SF.hasOwner, Bool.or_true]))
  refine codeAny_call_builtin SF.slot.plain SF.entry (@check_slot (model prog w) _ _ s "object.__setattr__" "object" "__setattr__" (.ref x) [.str name tk, v] [] _ SF.kind SF.split sub (SF.args (.ref x) (.str name tk) v) ?_)
  obtain ⟨attr, ha, hr⟩ := Option.bind_eq_some_iff.mp ht
  have L3 : Looks (model prog w) s.heap (storeTaker? attr) r := by
    cases attr with
    | none => cases hr; exact .now
    | some a =>
      obtain ⟨b, hb, rfl⟩ := Option.map_eq_some_iff.mp hr
      refine (looks_takesIn X hb).andThen ?_
      cases b <;> exact .now
  rw [osa_eq, refuse_eq]
  refine wpAny_bind (wpAny_bind (I.type.here (wpAny_bind (hmL.here ?_))))
  rw [refuseLoop_ref, SF.passes (.ref x)]
  exact wpAny_pure (wpAny_bind (I.type.here (wpAny_bind ((looks_findIn X ha).here (wpAny_bind (L3.here (h _)))))))

/-- the last part of a store: the name goes into the object's own dict -/
theorem exc_store_tail {name : Str} {tk : Tok} {v : Value} {pre post : Led} {es es' : List DictEntry} {n n' : Nat} {Q : PySem.Fin → Shared → Prop} (F : Fr h₀ L s.heap m) (N : News h₀ L s.heap (pre ++ (dx, dictOf es n) :: post))
    (h1 : ∀ p ∈ pre, p.1 ≠ dx) (h2 : ∀ p ∈ post, p.1 ≠ dx) (hl : (getL name es).isSome = true)
    (e : (putL name (PyData.keyHash w.params name) (.str name s.toks) v es, putN name es n) = (es', n')) (hz : es'.length ≤ 1000)
    (h : ∀ h', Fr h₀ L h' m → News h₀ L h' (pre ++ (dx, dictOf es' n') :: post) → Q (.done (.ret .none)) { s with heap := h', toks := s.toks + 1 }) :
    wpAny (model prog w) A (storeInDict dx (.str name tk) name v) Q E s := by
  obtain ⟨e1, e2⟩ := Prod.mk.inj e
  have ep : Obj.putName name (PyData.keyHash w.params name) (.str name s.toks) v (dictOf es n) = dictOf es' n' := by rw [putName_dict, e1, e2]
  obtain ⟨U1, U2⟩ := news_upd (o' := dictOf es' n') (f := Obj.putName name (PyData.keyHash w.params name) (.str name s.toks) v) F N h1 h2 ep rfl
  have D := (N (dx, dictOf es n) (by simp)).1
  have D' := (U2 (dx, dictOf es' n') (by simp)).1
  unfold storeInDict newKeyGuard
  refine wpAny_bind (wpAny_pure (wpAny_bind ?_))
  unfold nsSet
  refine wpAny_bind (wpAny_bind (wpAny_askSetting (wpAny_pure (wpAny_bind (wpAny_mkText (wpAny_bind (wpAny_loadPart D ?_)))))))
  dsimp only
  have c : (!es.toArray.any (·.key.isStr name) && es.toArray.any (·.refKey)) = false := by
    rw [← Array.any_toList, ← Array.any_toList]
    show (!es.any (·.key.isStr name) && es.any (·.refKey)) = false
    unfold getL at hl
    split at hl
    · rename_i en he
      rw [List.any_eq_true.mpr ⟨en, List.mem_of_find?_eq_some he, List.find?_some he⟩]; rfl
    · split at hl
      · cases hl
      · rename_i z; rw [Bool.not_eq_true] at z; rw [z, Bool.and_false]
  rw [aRefKeyMayBeTheName_at, c]
  refine wpAny_updatePart D ?_
  refine wpAny_bind (wpAny_lookBehind D' (pastItsLine_dict (by rw [List.size_toArray, sizeLine_eq]; omega)) ?_)
  exact wpAny_pure (h _ U1 U2)

/-- a store into an exception that has its dict already -/
theorem exc_set {name : Str} {v : Value} {news' : Led} {es es' : List DictEntry} {n n' : Nat} {Q : Unit → Shared → Prop} (SF : StoreFacts B bm "object.__setattr__" "object") (F : Fr h₀ L s.heap m) (X₀ : K.In h₀) (N : News h₀ L s.heap news)
    (hm1 : (x, excObj C (some dx) t) ∈ news) (_hm2 : (dx, dictOf es n) ∈ news) (hc : clsIn K C = some cd) (hm : cd.mro = .ref C :: bm) (hh : cd.hasDict = true) (hs : findIn K (.ref C) "__setattr__" = some (some (.builtin "object.__setattr__"))) (ht : takerIn K C name = some none)
    (hl : (getL name es).isSome = true) (U : Upd dx (dictOf es n) (dictOf es' n') news news')
    (e : (putL name (PyData.keyHash w.params name) (.str name (s.toks + 1)) v es, putN name es n) = (es', n')) (hz : es'.length ≤ 1000)
    (h : ∀ h', Fr h₀ L h' m → News h₀ L h' news' → Q () { s with heap := h', toks := s.toks + 2 }) :
    wpAny (model prog w) A (setAttr (.ref x) name v) Q E s := by
  refine goalAside fun Xg kg => ?_
  obtain ⟨pre, post, rfl, rfl, a, b⟩ := U.split
  refine kg ?_
  clear kg Xg
  have X := X₀.keeps F.keep
  have I : InstAt s.heap x (excObj C (some dx) t) C (some (dictOf es n)) := ⟨(N _ hm1).1, rfl, rfl, (N _ (List.mem_append_right _ (.head _))).1⟩
  refine set_plain X I hs (exc_store_open SF X I hc hm ht fun bb => ?_)
  refine wpAny_bind (wpAny_pure (wpAny_bind (wpAny_bind (wpAny_loadPart I.at_ (wpAny_bind ((looks_clsIn X hc) _ _ _ _ (fun _ _ q => q) ?_))))))
  rw [hh]
  refine wpAny_pure (a := some dx) (exc_store_tail (s := { s with toks := s.toks + 1 }) F N a b hl e hz fun h' F' N' => h h' F' N')

/-- the first store: the dict is made -/
theorem exc_set0 {name : Str} {v : Value} {g : Obj → Led} {es' : List DictEntry} {n' : Nat} {Q : Unit → Shared → Prop} (SF : StoreFacts B bm "object.__setattr__" "object") (F : Fr h₀ L s.heap m) (X₀ : K.In h₀) (N : News h₀ L s.heap news)
    (U : UpdF x (excObj C none t) news g) (hc : clsIn K C = some cd) (hm : cd.mro = .ref C :: bm) (hh : cd.hasDict = true) (hs : findIn K (.ref C) "__setattr__" = some (some (.builtin "object.__setattr__"))) (ht : takerIn K C name = some none)
    (e : (putL name (PyData.keyHash w.params name) (.str name (s.toks + 1)) v [], putN name [] 0) = (es', n')) (hz : es'.length ≤ 1000)
    (h : ∀ dx h', Fr h₀ L h' m → News h₀ L h' ((dx, dictOf es' n') :: g (excObj C (some dx) t)) → (∀ p ∈ news, p.1 < dx) → Q () { s with heap := h', toks := s.toks + 2 }) :
    wpAny (model prog w) A (setAttr (.ref x) name v) Q E s := by
  refine goalAside fun Xg kg => ?_
  obtain ⟨pre, post, rfl, hg, a, b⟩ := U.split
  refine kg ?_
  clear kg Xg
  have X := X₀.keeps F.keep
  have Z := N (x, excObj C none t) (List.mem_append_right _ (.head _))
  have I : InstAt s.heap x (excObj C none t) C none := ⟨Z.1, rfl, rfl, trivial⟩
  refine set_plain X I hs (exc_store_open SF X I hc hm ht fun bb => ?_)
  refine wpAny_bind (wpAny_pure (wpAny_bind (wpAny_bind (wpAny_loadPart I.at_ (wpAny_bind ((looks_clsIn X hc) _ _ _ _ (fun _ _ q => q) ?_))))))
  rw [hh]
  have hlt : ∀ p ∈ pre ++ (x, excObj C none t) :: post, p.1 < s.heap.objs.size := fun p hp' => Heap.lt_size (N p hp').1
  have F1 := F.push (dictOf [] 0)
  have N1 := N.push F (dictOf [] 0)
  have e0 : ((s.heap.objs.size, dictOf [] 0) :: (pre ++ (x, excObj C none t) :: post)) = (((s.heap.objs.size, dictOf [] 0) :: pre) ++ (x, excObj C none t) :: post) := rfl
  rw [e0] at N1
  have na : ∀ p ∈ ((s.heap.objs.size, dictOf [] 0) :: pre), p.1 ≠ x := fun p hp' => by
    rcases List.mem_cons.mp hp' with rfl | hp'
    · exact Nat.ne_of_gt (Heap.lt_size Z.1)
    · exact a p hp'
  obtain ⟨F2, N2⟩ := news_upd (o' := excObj C (some s.heap.objs.size) t) (f := fun o => { o with dict := some s.heap.objs.size }) F1 N1 na b rfl rfl
  have N3 : News h₀ L ((s.heap.push (dictOf [] 0)).update x fun o => { o with dict := some s.heap.objs.size }) ([] ++ (s.heap.objs.size, dictOf [] 0) :: (pre ++ (x, excObj C (some s.heap.objs.size) t) :: post)) := N2
  refine wpAny_bind (wpAny_alloc (wpAny_bind (wpAny_update (o := excObj C none t) (Heap.get?_push_of_some _ Z.1) ?_)))
  refine wpAny_pure (a := some s.heap.objs.size) (exc_store_tail (s := { s with heap := (s.heap.push (dictOf [] 0)).update x fun o => { o with dict := some s.heap.objs.size }, toks := s.toks + 1 }) F2 N3 (fun _ q => nomatch q) (fun p hp' => ?_) rfl e hz fun h' F' N' => h _ h' F' ?_ hlt)
  · rcases List.mem_append.mp hp' with q | q
    · exact Nat.ne_of_lt (hlt p (List.mem_append_left _ q))
    · rcases List.mem_cons.mp q with rfl | q
      · exact Nat.ne_of_lt (Heap.lt_size Z.1)
      · exact Nat.ne_of_lt (hlt p (List.mem_append_right _ (.tail _ q)))
  · rw [hg]
    exact N'
end
end
-- part Raise
section
-- raise of an own exception's object, made just now
noncomputable def RaiseQ (E : Value → Shared → Prop) (v : Value) (s₁ : Shared) : Prop :=
  ∃ (e C : Addr) (dx : Option Addr) (t : Addr) (nm q : Str) (N : Addr) (bs bm : List Value) (hdct : Bool) (sn : List Str) (sub : List Value) (ab : Bool) (col : Option Bool) (dd : Option Addr) (k0 k1 k2 k3 k5 : Option Value) (newId : String),
    v = .ref e ∧ bm.contains (.type "BaseException") = true ∧ s₁.heap.get? C = some (excClassObj nm q C N bs bm hdct sn sub ab col dd k0 k1 k2 k3 k5 newId) ∧ s₁.heap.get? e = some (excObj C dx t) ∧ E (.ref e) s₁
theorem raise_exc {M : Model} {A : Around} {E : Value → Shared → Prop} {s : Shared} {env : Env} {ex : PySem.Expr} {pos : Pos} {Q : Flow → Shared → Prop} (hh : A.handled = none)
    (h : wpAny M A (eval ex env) (RaiseQ E) E s) : wpAny M A (exec (.Raise (some ex) none pos) env) Q E s := by
  show wpAny M A (do standAt pos; raiseStmt env (some (do let v ← eval ex env; standAt pos; pure v)) none) Q E s
  refine wpAny_bind (wpAny_standAt ?_)
  unfold raiseStmt
  dsimp only
  refine wpAny_bind (wpAny_bind (wpAny_mono h (fun v s₁ h₁ => wpAny_bind (wpAny_standAt (wpAny_pure ?_))) fun _ _ x => x))
  refine goalAside fun Xg kg => ?_
  obtain ⟨e, C, dx, t, nm, q, N, bs, bm, hdct, sn, sub, ab, col, dd, k0, k1, k2, k3, k5, newId, rfl, hbase, hC, he, hE⟩ := h₁
  refine kg ?_
  clear kg Xg
  have hcB : (Value.ref C :: bm).contains (.type "BaseException") = true := by rw [List.contains_cons, hbase, Bool.or_true]
  refine goalAside fun Xg kg => ?_
  obtain ⟨hp, g, d, tk, os⟩ := s₁
  refine kg ?_
  clear kg Xg
  repeat (first | (with_reducible refine wpAny_loadPart_at he ?_) | with_reducible refine wpAny_loadPart_at hC ?_ | (with_reducible refine wpAny_isSubtype_exc hC ?_; rw [hcB]) | wp_step)
  exact wpAny_raiseNew_none hh hE
end
-- part Fly
section
-- an own exception on its way, its dict kept in sight
structure Fly (base : Heap) (l : List Env) (e d : Addr) (fl : Value) (h : Heap) : Prop where
  stays : base.StaysIn h
  new : base.get? e = none
  frames : h.FunFrames base l
  exc : ∃ vs T oT ts, h.get? e = some ({ cls := .ref 38, dict := some d, data := .fields vs } : Obj) ∧ vs[1]? = some (.ref T) ∧ base.get? T = none ∧ T ≠ e ∧ h.get? T = some oT ∧ oT.data = .fields ts ∧ ts[3]? = some fl
section
variable {M : Model} {A : Around} {E : Value → Shared → Prop} {s : Shared}
theorem fly_entry {base : Heap} {env : Env} {outer : List Env} {L e d : Addr} {vs : Array Value} {head : Value} {hadNext : Bool} {Q : Unit → Shared → Prop}
    (hfr : A.frames = some (env :: outer)) (hl : s.heap.FunFrames base (env :: outer)) (hf : env.frame = some L)
    (he : s.heap.get? e = some ({ cls := .ref 38, dict := some d, data := .fields vs } : Obj)) (hkb : base.StaysIn s.heap) (hen : base.get? e = none) (hsz : 1 < vs.size)
    (h : ∀ h', Fly base (env :: outer) e d (rawInt L) h' → s.heap.UpToSlots h' → Q () { s with heap := h' }) :
    wpAny M A (do let a ← frameOf env; let pl ← entryPlaceOf L hadNext; let b ← EntryCells.newEntry head a .none (rawInt L) .none pl; setField (.ref e) 1 b) Q E s := by
  have hene : e ∉ (env :: outer).filterMap (·.frame) := fun hm => by
    refine goalAside fun Xg kg => ?_
    obtain ⟨_, o, ho, hnf⟩ := hl.mem hm
    refine kg ?_
    clear kg Xg
    rw [he] at ho; injection ho with ho; subst ho; exact hnf vs rfl
  refine wpAny_bind (wpAny_frameOf_fun hfr hl hf fun h₁ hs₁ => ?_)
  refine wpAny_bind (wpAny_entryPlaceOf fun pl hpl => ?_)
  unfold EntryCells.newEntry newFields
  refine wpAny_bind (wpAny_newObj_type ?_ (hpl.sizeOk5 _ _ _ _ _))
  have he₁ := (hs₁.2.1 e hene).trans he
  have kb₁ : base.StaysIn h₁ := fun b o hbo => (hs₁.2.1 b fun hm => by rw [(hl.mem hm).1] at hbo; cases hbo).trans (hkb b o hbo)
  generalize htb : ({ cls := .type "traceback", dict := none, data := .fields ([head, .ref L, .none, rawInt L, .none] ++ (if pl.isEmpty then List.replicate 6 Value.none else pl)).toArray } : Obj) = tb
  have he₂ := Heap.get?_push_of_some tb he₁
  refine wpAny_setField he₂ rfl hsz ?_
  have hTe : h₁.objs.size ≠ e := Nat.ne_of_gt (Heap.lt_size he₁)
  have hd₃ := Obj.data_mapFields (o := ({ cls := .ref 38, dict := some d, data := .fields vs } : Obj)) rfl (·.setIfInBounds 1 (Value.ref h₁.objs.size))
  have he₃ := Heap.get?_update_self (Obj.mapFields (·.setIfInBounds 1 (Value.ref h₁.objs.size))) he₂ (Obj.isFreed_of_fields hd₃)
  have hT₃ := (Heap.get?_update_other (h₁.push tb) (Obj.mapFields (·.setIfInBounds 1 (Value.ref h₁.objs.size))) (Ne.symm hTe)).trans (Heap.get?_push_size h₁ (by rw [← htb]; rfl))
  have keep : ∀ b o, b ≠ e → h₁.get? b = some o → ((h₁.push tb).update e (Obj.mapFields (·.setIfInBounds 1 (Value.ref h₁.objs.size)))).get? b = some o := fun b o hbe hb => by
    rw [Heap.get?_update_other _ _ (Ne.symm hbe)]
    exact Heap.get?_push_of_some _ hb
  have noRecord : ∀ b o, s.heap.get? b = some o → (∀ vs, o.data ≠ .fields vs) → b ≠ e := fun b o hb hnf q => by
    rw [q, he] at hb; injection hb with hb; subst hb; exact hnf vs rfl
  refine h _ ⟨fun b o hbo => keep b o (fun q => by rw [q, hen] at hbo; cases hbo) (kb₁ b o hbo), hen, hl.of_keeps fun b o hb hnf => ?_, ?_⟩ fun b o hb hnf => ?_
  · obtain ⟨sl, hs⟩ := hs₁.2.2 b o hb
    exact ⟨_, keep b _ (noRecord b o hb hnf) hs, rfl⟩
  · refine ⟨_, h₁.objs.size, tb, _, he₃, by simp [hsz], kb₁.fresh, hTe, hT₃, by rw [← htb], ?_⟩
    first | (simp; done) | (rcases hpl with rfl | ⟨_, _, _, _, _, _, _, rfl⟩ <;> simp)
  · obtain ⟨sl, hs⟩ := hs₁.2.2 b o hb
    exact ⟨sl, keep b _ (noRecord b o hb hnf) hs⟩
-- the flight's mark is taken off
theorem fly_land {base : Heap} {l : List Env} {e d : Addr} {fl : Value} {Q : Unit → Shared → Prop} (R : Fly base l e d fl s.heap)
    (h : ∀ h', Fly base l e d .none h' → s.heap.UpToSlots h' → Q () { s with heap := h' }) : wpAny M A (setFlight (.ref e) none) Q E s := by
  refine goalAside fun Xg kg => ?_
  obtain ⟨hkb, hen, hl, vs, T, oT, ts, he, h1, hnT, hTe, hT, hdT, h3⟩ := R
  refine kg ?_
  clear kg Xg
  have hsz3 : 3 < ts.size := (Array.getElem?_eq_some_iff.mp h3).1
  have other : ∀ b, b ≠ T → (s.heap.update T (Obj.mapFields (·.setIfInBounds 3 ((none : Option Addr).elim Value.none fun f => rawInt f)))).get? b = s.heap.get? b :=
    fun b hb => Heap.get?_update_other _ _ (Ne.symm hb)
  have noRecord : ∀ b o, s.heap.get? b = some o → (∀ vs, o.data ≠ .fields vs) → b ≠ T := fun b o hb hnf q => by
    rw [q, hT] at hb; injection hb with hb; subst hb; exact hnf ts hdT
  unfold setFlight
  refine wpAny_bind (wpAny_field he rfl h1 ?_)
  rw [if_pos (show (Value.ref T != Value.none) = true from by simp)]
  refine wpAny_setField hT hdT hsz3 (h _ ⟨fun b o hbo => (other b fun q => by rw [q, hnT] at hbo; cases hbo).trans (hkb b o hbo), hen,
    hl.of_keeps fun b o hb hnf => ⟨o, (other b (noRecord b o hb hnf)).trans hb, rfl⟩, ?_⟩ fun b o hb hnf => ⟨o.slots, (other b (noRecord b o hb hnf)).trans hb⟩)
  exact ⟨vs, T, _, _, (other e (Ne.symm hTe)).trans he, h1, hnT, hTe, Heap.get?_update_self _ hT (Obj.isFreed_of_fields (Obj.data_mapFields hdT _)), Obj.data_mapFields hdT _, by simp [hsz3]⟩
-- a frame is noted on an exception that has been noted before
theorem fly_note {base : Heap} {env : Env} {outer : List Env} {L e d : Addr} {Q : Unit → Shared → Prop}
    (hfr : A.frames = some (env :: outer)) (hf : env.frame = some L) (R : Fly base (env :: outer) e d .none s.heap)
    (h : ∀ h', Fly base (env :: outer) e d (rawInt L) h' → s.heap.UpToSlots h' → Q () { s with heap := h' }) : wpAny M A (noteFrame (.ref e) env) Q E s := by
  refine goalAside fun Xg kg => ?_
  obtain ⟨hkb, hen, hl, vs, T, oT, ts, he, h1, hnT, hTe, hT, hdT, h3⟩ := R
  refine kg ?_
  clear kg Xg
  unfold noteFrame
  simp only [hf]
  refine wpAny_bind (wpAny_field he rfl h1 ?_)
  rw [if_pos (show (Value.ref T != Value.none) = true from by simp)]
  refine wpAny_bind (wpAny_field hT hdT h3 ?_)
  rw [if_neg (show ¬ ((Value.none == rawInt L) = true) from by simp [rawInt])]
  refine wpAny_bind (wpAny_setField hT hdT (Array.getElem?_eq_some_iff.mp h3).1 ?_)
  have other : ∀ b, b ≠ T → (s.heap.update T (Obj.mapFields (·.setIfInBounds 3 Value.none))).get? b = s.heap.get? b := fun b hb => Heap.get?_update_other _ _ (Ne.symm hb)
  have noRecord : ∀ b o, s.heap.get? b = some o → (∀ vs, o.data ≠ .fields vs) → b ≠ T := fun b o hb hnf q => by
    rw [q, hT] at hb; injection hb with hb; subst hb; exact hnf ts hdT
  refine fly_entry (s := { s with heap := s.heap.update T (Obj.mapFields (·.setIfInBounds 3 Value.none)) }) hfr (hl.of_keeps fun b o hb hnf => ⟨o, (other b (noRecord b o hb hnf)).trans hb, rfl⟩) hf ((other e (Ne.symm hTe)).trans he)
    (fun b o hbo => (other b fun q => by rw [q, hnT] at hbo; cases hbo).trans (hkb b o hbo)) hen (Array.getElem?_eq_some_iff.mp h1).1
    fun h' x1 x2 => h h' x1 fun b o hb hnf => x2 b o ((other b (noRecord b o hb hnf)).trans hb) hnf
-- the frame is left by an exception that is on its way
theorem fly_leave {base : Heap} {env : Env} {outer : List Env} {L e d : Addr} {Q : Unit → Shared → Prop}
    (hfr : A.frames = some (env :: outer)) (hf : env.frame = some L) (R : Fly base (env :: outer) e d .none s.heap)
    (h : ∀ h', Fly base outer e d .none h' → s.heap.UpToSlots h' → Q () { s with heap := h' }) : wpAny M A (leaving env (.ref e)) Q E s := by
  unfold leaving
  refine wpAny_bind (fly_note hfr hf R fun h₁ R₁ u₁ => fly_land R₁ fun h₂ R₂ u₂ => h h₂ ⟨R₂.stays, R₂.new, R₂.frames.2.2, R₂.exc⟩ (u₁.trans u₂))
-- the frame is left by an exception that was made in it
theorem fly_first {base : Heap} {env : Env} {outer : List Env} {L e d t : Addr} {Q : Unit → Shared → Prop}
    (hfr : A.frames = some (env :: outer)) (hf : env.frame = some L) (hl : s.heap.FunFrames base (env :: outer)) (he : s.heap.get? e = some (excObj 38 (some d) t)) (hkb : base.StaysIn s.heap) (hen : base.get? e = none)
    (h : ∀ h', Fly base outer e d .none h' → s.heap.UpToSlots h' → Q () { s with heap := h' }) : wpAny M A (leaving env (.ref e)) Q E s := by
  unfold leaving noteFrame
  simp only [hf]
  have h1 : (#[Value.ref t, .none, .none, .none, .bool false, .none] : Array Value)[1]? = some Value.none := rfl
  refine wpAny_bind (wpAny_bind (wpAny_field he rfl h1 ?_))
  rw [if_neg (by decide)]
  exact fly_entry hfr hl hf he hkb hen (Nat.le_of_ble_eq_true rfl) fun h₁ R₁ u₁ => fly_land R₁ fun h₂ R₂ u₂ => h h₂ ⟨R₂.stays, R₂.new, R₂.frames.2.2, R₂.exc⟩ (u₁.trans u₂)
end
end
-- part Catch
section
noncomputable def RaisedX (base G : Heap) (l : List Env) (e d : Addr) (news : Led) (h : Heap) : Prop :=
  ∃ B : Heap, base.StaysIn B ∧ (∀ b o, G.get? b = some o → b ∉ l.filterMap (·.frame) → B.get? b = some o) ∧ (∀ q ∈ news, B.get? q.1 = some q.2 ∧ G.get? q.1 = none ∧ base.get? q.1 = none) ∧ Fly B l e d .none h
section
variable {M : Model} {A : Around} {E : Value → Shared → Prop} {s' : Shared} {base g g₂ : Heap} {outer : List Env} {L a e d t : Addr} {m : Str → Option Value} {name : Str} {scope : Scope} {cd : Value} {Q : Unit → Shared → Prop} {news : Led}
theorem leaveX_first (K : Below A base outer g) (F : Fr g L s'.heap m) (N : News g L s'.heap ((e, excObj 38 (some d) t) :: news)) (hne : ∀ p ∈ news, p.1 ≠ e)
    (hQ : ∀ h', RaisedX base g outer e d news h' → g.UpToSlots h' → Q () { s' with heap := h' }) (hk : scope.kind = .function := by rfl) :
    wpAny M (A.deeper (envOf name scope L a cd)) (leaving (envOf name scope L a cd) (.ref e)) Q E s' := by
  have K' := K.push (name := name) (a := a) (cd := cd) F hk
  have Ze := N _ (.head _)
  have hfe : ∀ b, b ∈ (envOf name scope L a cd :: outer).filterMap (·.frame) → b ≠ e := fun b hb q => by
    obtain ⟨_, o, ho, hnf⟩ := K'.frames.mem hb
    rw [q, Ze.1] at ho; injection ho with ho; subst ho; exact hnf _ rfl
  have hin : ∀ env ∈ (envOf name scope L a cd :: outer), ∀ b, env.frame = some b → b ∈ e :: (envOf name scope L a cd :: outer).filterMap (·.frame) := fun env he b hb => .tail _ (List.mem_filterMap.mpr ⟨env, he, hb⟩)
  have st : base.StaysIn (hideAll s'.heap (e :: (envOf name scope L a cd :: outer).filterMap (·.frame))) := fun b o q => hideAll_get _ (K'.stays b o q) fun hm => by
    rcases List.mem_cons.mp hm with z | hm
    · have := K.stays b o q
      rw [z, Ze.2.2] at this; cases this
    · rw [(K'.frames.mem hm).1] at q; cases q
  have sg : ∀ b o, g.get? b = some o → b ∉ outer.filterMap (·.frame) → (hideAll s'.heap (e :: (envOf name scope L a cd :: outer).filterMap (·.frame))).get? b = some o := fun b o q nm => hideAll_get _ (F.keep b o q) fun hm => by
    rcases List.mem_cons.mp hm with z | hm
    · rw [z, Ze.2.2] at q; cases q
    · rcases kts_mem hm with z | z
      · rw [z, kts_self F] at q
        cases q
      · exact nm z
  have hl : ∀ q ∈ news, (hideAll s'.heap (e :: (envOf name scope L a cd :: outer).filterMap (·.frame))).get? q.1 = some q.2 ∧ g.get? q.1 = none ∧ base.get? q.1 = none := fun q hq => by
    have Zq := N q (.tail _ hq)
    refine ⟨hideAll_get _ Zq.1 fun hm => ?_, Zq.2.2, fresh_of_stays K.stays Zq.2.2⟩
    rcases List.mem_cons.mp hm with z | hm
    · exact hne q hq z
    · obtain ⟨env, he, hf⟩ := List.mem_filterMap.mp hm
      rcases List.mem_cons.mp he with rfl | he
      · exact Zq.2.1 (Option.some.inj hf).symm
      · obtain ⟨o, ho, _⟩ := (K.frames.mem (List.mem_filterMap.mpr ⟨env, he, hf⟩)).2
        rw [Zq.2.2] at ho; cases ho
  exact fly_first K'.stack rfl (funFrames_hide K'.frames hin) Ze.1 (fun b o q => of_hideAll _ q) (hideAll_none _ (.head _)) fun h' x1 x2 =>
    hQ h' ⟨_, st, sg, hl, x1⟩ ((Heap.UpToSlots.of_keeps F.keep).trans x2)

theorem leaveX_on (K : Below A base outer g) (F : Fr g L g₂ m) (R : RaisedX base g₂ (envOf name scope L a cd :: outer) e d news s'.heap) (hsm : g₂.UpToSlots s'.heap)
    (hQ : ∀ h', RaisedX base g outer e d news h' → g.UpToSlots h' → Q () { s' with heap := h' }) :
    wpAny M (A.deeper (envOf name scope L a cd)) (leaving (envOf name scope L a cd) (.ref e)) Q E s' := by
  obtain ⟨B, hB, hBG, hl, hfl⟩ := R
  exact fly_leave (Around.frames_deeper K.stack) rfl hfl fun h' x1 x2 =>
    hQ h' ⟨B, hB, fun b o q nm => hBG b o (F.keep b o q) (fun hm => by
      rcases kts_mem hm with z | z
      · rw [z, kts_self F] at q
        cases q
      · exact nm z), fun q hq => ⟨(hl q hq).1, kts_none F.keep (hl q hq).2.1, (hl q hq).2.2⟩, x1⟩ ((Heap.UpToSlots.of_keeps F.keep).trans (hsm.trans x2))
end
section
variable {prog : Program} {w : World} {A₀ : Around} {E : Value → Shared → Prop} {s' : Shared} {base g g₀ G : Heap} {outer : List Env} {L a e d : Addr} {m : Str → Option Value} {name : Str} {scope : Scope} {cd : Value}
  {n : Str} {b₀ : Stmt} {suite : List Stmt} {pos np : Pos} {rest : List ExceptHandler} {Q : Flow → Shared → Prop} {news : Led} {KF : Frag}
  {p : Program} {loose : List Str} {mean : ExcName → Option Value} {mg mb : Str → Option Value} {x : Str}
theorem catchX (R : RaisedX base G (envOf name scope L a cd :: outer) e d news s'.heap) (F : Fr g L G m) (K : Below A₀ base outer g) (hsm : G.UpToSlots s'.heap) (XB : KF.In base) (TB : Top p loose mean mg mb base)
    (D : KtsDicts (outer.filterMap (·.frame)) g) (T0 : KtsTurn (outer.filterMap (·.frame)) g₀ g)
    (ex : nsIn KF mainGlobals x = some (some (.ref 38))) (q : ktsIn KF 38 "BaseException" = true)
    (k : ∀ h' g' vs tk, KtsTurn (outer.filterMap (·.frame)) g₀ g' → Fr g' L h' (fun y => if y = n then some (.ref e) else m y) → News g' L h' ((e, ({ cls := .ref 38, dict := some d, data := .fields vs } : Obj)) :: news) → Below A₀ base outer g' → KF.In g' → Top p loose mean mg mb g' → KtsDicts (outer.filterMap (·.frame)) g' →
      wpAny (model prog w) ((A₀.deeper (envOf name scope L a cd)).mark (some (.ref e))) (execs (b₀ :: suite) (envOf name scope L a cd))
        (fun f s₄ => wpAny (model prog w) (A₀.deeper (envOf name scope L a cd)) (do bindName (envOf name scope L a cd) n .none; unbindBehindTheSuite (envOf name scope L a cd) n pos) (fun _ s₅ => Q f s₅) E s₄)
        (AsSuiteRaised (model prog w) ((A₀.deeper (envOf name scope L a cd)).mark (some (.ref e))) (envOf name scope L a cd) n pos (notedBy (model prog w) ((A₀.deeper (envOf name scope L a cd)).mark (some (.ref e))) (envOf name scope L a cd) (cameBackBy (model prog w) (A₀.deeper (envOf name scope L a cd)) (envOf name scope L a cd) E)))
        { s' with heap := h', toks := tk })
    (hk : scope.kind = .function := by rfl) (hlo : (envOf name scope L a cd).kindOf n = some .local := by rfl) (hx : (envOf name scope L a cd).kindOf x = some .globalImplicit := by rfl) (hd : (x == ("__debug__" : Str)) = false := by decide) :
    wpAny (model prog w) (A₀.deeper (envOf name scope L a cd)) (noteFrame (.ref e) (envOf name scope L a cd))
      (fun _ s₂ => wpAny (model prog w) (A₀.deeper (envOf name scope L a cd)) (setFlight (.ref e) none) (fun _ s₃ =>
        wpAny (model prog w) (A₀.deeper (envOf name scope L a cd)) (handleBy (.ref e) (envOf name scope L a cd) (.ExceptHandler (some (.Name x np)) (some n) (b₀ :: suite) pos :: rest)) Q E s₃) E s₂) E s' := by
  refine goalAside fun Xg kg => ?_
  obtain ⟨B, hB, hBG, hl, hfl⟩ := R
  refine kg ?_
  clear kg Xg
  have hL : B.get? L = none := by
    refine goalAside fun Xg kg => ?_
    obtain ⟨_, ⟨L', _, hf, hn', _⟩, _⟩ := hfl.frames
    refine kg ?_
    clear kg Xg
    obtain rfl : L = L' := Option.some.inj hf
    exact hn'
  refine fly_note (Around.frames_deeper K.stack) rfl hfl fun h₄ hheld₄ hsm₄ => ?_
  refine fly_land hheld₄ fun h₅ hheld hsm₅' => ?_
  have hsm₅ := hsm₄.trans hsm₅'
  refine goalAside fun Xg kg => ?_
  obtain ⟨g₅, T₅, F₅, K₅⟩ := kts_ground K F hBG hheld.stays (hsm.trans hsm₅)
  refine kg ?_
  clear kg Xg
  have X₅ : KF.In g₅ := XB.keeps K₅.stays
  have P₅ : TopRead p loose mg mb g₅ := topRead_of (TB.keeps K₅.stays)
  refine goalAside fun Xg kg => ?_
  obtain ⟨ws₅, _, _, _, hob, _⟩ := hheld.exc
  refine kg ?_
  clear kg Xg
  refine goalAside fun Xg kg => ?_
  obtain ⟨nm, q', N, bs, bm, hdct, sn, sub, ab, col, dd, k0, k1, k2, k3, k5, newId, hC, hbase, hbT⟩ := kts_cls X₅ q
  refine kg ?_
  clear kg Xg
  have hC₅ := F₅.keep _ _ hC
  refine wpAny_handleBy_cons (codeAny_handlers_test (name_K F₅ X₅ P₅ ex ?_ hk hx hd)) (by intro q; cases q)
  refine wpAny_excMatches_sub_self hC₅ hob rfl hbase (codeAny_handlers_suite_as ?_)
  refine fly_land hheld fun h₆ hfl₆ hsm₆ => ?_
  refine goalAside fun Xg kg => ?_
  obtain ⟨g₆, T₆, F₆, K₆⟩ := kts_ground K F hBG hfl₆.stays ((hsm.trans hsm₅).trans hsm₆)
  refine kg ?_
  clear kg Xg
  refine goalAside fun Xg kg => ?_
  obtain ⟨ws, _, _, _, hoe, _⟩ := hfl₆.exc
  refine kg ?_
  clear kg Xg
  have ne₆ : g₆.get? e = none := T₆.none_ _ (kts_fresh F hBG hfl₆.new fun o ho m => by
    refine goalAside fun Xg kg => ?_
    obtain ⟨_, o', ho', hd⟩ := K.frames.mem m
    refine kg ?_
    clear kg Xg
    rw [ho] at ho'
    cases ho'
    obtain ⟨sl, hs⟩ := ((hsm.trans hsm₅).trans hsm₆) _ _ (F.keep _ _ ho) hd
    rw [hoe] at hs
    have z := congrArg (fun o : Option Obj => o.map (·.data)) hs
    exact hd _ (Option.some.inj z).symm)
  have N₆ := News.more F₆ News.nil hoe (fun es n q => by cases q) ne₆
  have Nl : News g₆ L h₆ news := fun q hq => ⟨hfl₆.stays _ _ (hl q hq).1, (fun z => by have := (hl q hq).1; rw [z, hL] at this; cases this), T₆.none_ _ (kts_none F.keep (hl q hq).2.1)⟩
  have X₆ : KF.In g₆ := XB.keeps K₆.stays
  have P₆ : Top p loose mean mg mb g₆ := TB.keeps K₆.stays
  have D₆ : KtsDicts (outer.filterMap (·.frame)) g₆ := D.turn T₆
  refine stN F₆ (news := _ ++ news) (fun q hq => (List.mem_append.mp hq).elim (N₆ q) (Nl q)) (fun h₇ F₇ N₇ => ?_) hk hlo
  exact k h₇ g₆ ws _ (T0.trans T₆) F₇ N₇ K₆ X₆ P₆ D₆
end
end
-- part ExcGet
section
section
variable {prog : Program} {w : World} {A : Around} {E : Value → Shared → Prop} {s : Shared} {K : Frag} {x C dx L : Addr} {h₀ : Heap} {m : Str → Option Value} {news : Led} {ox : Obj} {od : Option Obj} {name : Str} {v : Value} {R : Result → Shared → Prop}
theorem exc_get_call {tk : Tok} (X : K.In s.heap) (I : InstAt s.heap x ox C od) (hb : subIn K (.ref C) (.type "BaseException") = some true) (hf : findObj K C od name = some (.value v)) (hq : R (.ok (.ret v)) s) :
    codeAny (model prog w) A (.call (.builtin "BaseException.__getattribute__") ⟨[.ref x, .str name tk], []⟩) R s := by
  have hk : builtinKind "BaseException.__getattribute__" = some .slot := by decide +kernel
  have hsplit : splitId "BaseException.__getattribute__" = some ("BaseException", "__getattribute__") := by decide +kernel
  have sub : Looks (model prog w) s.heap (isInstance (.ref x) (.type "BaseException")) true := I.type.andThen (looks_subIn X hb)
  have L0 := I.type (M := model prog w)
  have L1 := looks_find (M := model prog w) X I hf
  refine codeAny_call_builtin PySem.F.attrBase_Exception.ga.plain PySem.F.entry_bexc_ga (@check_slot (model prog w) _ _ s "BaseException.__getattribute__" "BaseException" "__getattribute__" (.ref x) [.str name tk] [] _ hk hsplit sub (PySem.F.args_bexc_ga _ _) ?_)
  refine wpAny_bind (wpAny_pure (wpAny_bind (wpAny_pure (wpAny_bind (L0.here (wpAny_bind (L1.here ?_)))))))
  exact wpAny_pure hq
theorem exc_get {expr : Bool} {Q : Value → Shared → Prop} (X : K.In s.heap) (I : InstAt s.heap x ox C od) (hb : subIn K (.ref C) (.type "BaseException") = some true)
    (hga : findIn K (.ref C) "__getattribute__" = some (some (.builtin "BaseException.__getattribute__"))) (hgt : findIn K (.ref C) "__getattr__" = some none)
    (hf : findObj K C od name = some (.value v)) (hh : handedIn v = true) (hq : Q v { s with toks := s.toks + 1 }) : wpAny (model prog w) A (getAttr (.ref x) name expr) Q E s := by
  refine goalAside fun Xg kg => ?_
  obtain ⟨hp, g, d, t, os⟩ := s
  refine kg ?_
  clear kg Xg
  have L0 := I.type (M := model prog w)
  have L1 := looks_findIn (M := model prog w) X hga
  have L2 := looks_findIn (M := model prog w) X hgt
  have f3 := PySem.F.attrBase_Exception.ga.bind (.ref x)
  have hx0 : (expr && onTheHeap (Value.builtin "BaseException.__getattribute__")) = false := by cases expr <;> rfl
  have hx2 : (Value.builtin "BaseException.__getattribute__" == Value.builtin "object.__getattribute__") = false := by decide +kernel
  have hx1 : (onTheHeap (Value.ref C) && Value.builtin "BaseException.__getattribute__" == Value.builtin "object.__getattribute__") = false := by rw [hx2]; rfl
  have ho := handedOut_of hh
  unfold getAttr getAttrBy
  refine wpAny_bind (wpAny_mkText (wpAny_holding (wpAny_bind (L0.at (wpAny_bind (L1.at ?_))))))
  dsimp only
  rw [hx1]
  simp only [Bool.false_eq_true, if_false]
  unfold getAttrByItsOwn
  repeat (any_goals (first | assumption | with_reducible refine L2.at ?_ | with_reducible refine L0.at ?_ | wp_step))
  refine exc_get_call (s := ⟨hp, g, d, t + 1, os⟩) X I hb hf ?_
  dsimp only
  rw [ho]
  exact wpAny_pure hq
end
end
-- part Part
section
abbrev partEs (P : Params) (t1 t2 t3 t4 t5 t6 t7 t8 : Tok) (limit state pieces read_to highest final_size reset_code stop_code : Value) : List DictEntry :=
  [⟨PyData.keyHash P (Str.ofString "limit"), .str (Str.ofString "limit") t1, limit⟩,
   ⟨PyData.keyHash P (Str.ofString "state"), .str (Str.ofString "state") t2, state⟩,
   ⟨PyData.keyHash P (Str.ofString "pieces"), .str (Str.ofString "pieces") t3, pieces⟩,
   ⟨PyData.keyHash P (Str.ofString "read_to"), .str (Str.ofString "read_to") t4, read_to⟩,
   ⟨PyData.keyHash P (Str.ofString "highest"), .str (Str.ofString "highest") t5, highest⟩,
   ⟨PyData.keyHash P (Str.ofString "final_size"), .str (Str.ofString "final_size") t6, final_size⟩,
   ⟨PyData.keyHash P (Str.ofString "reset_code"), .str (Str.ofString "reset_code") t7, reset_code⟩,
   ⟨PyData.keyHash P (Str.ofString "stop_code"), .str (Str.ofString "stop_code") t8, stop_code⟩]
-- None or an int
noncomputable def OptInt (v : Value) : Option Int → Prop
  | none => v = .none
  | some k => ∃ u, v = .int k u
-- what a part holds
structure PSt where
  lim : Int
  st : String
  pl : Addr
  rd : Int
  hi : Int
  fin : Option Int
  stop : Option Int
inductive PartAt (w : World) (σ : PSt) (o : Obj) : Prop
  | mk (t1 t2 t3 t4 t5 t6 t7 t8 u1 u2 u3 u4 : Tok) (fv rv sv : Value)
    (ho : o = dictOf (partEs w.params t1 t2 t3 t4 t5 t6 t7 t8 (.int σ.lim u1) (.str (Str.ofString σ.st) u2) (.ref σ.pl) (.int σ.rd u3) (.int σ.hi u4) fv rv sv) 8) (hf : OptInt fv σ.fin) (hs : OptInt sv σ.stop) : PartAt w σ o
-- a call that may raise: behind a raise the ledger stands as it stood
noncomputable def FnE (w : World) (f : Addr) (args : List Value) (news : Led) (D U : Nat) (Post : Value → Led → Prop) (Exc : List DictEntry → Prop) : Prop :=
  ∀ (p : Program) (loose : List Str) (mean : ExcName → Option Value) (mg mb : Str → Option Value)
  (dp un : Nat) (gd : Option (List Code)) (cn : Str) (cs : Scope) (a : Addr) (ccd : Value) (cl : List (Str × Addr)) (outer : List Env) (A₀ : Around) (base h₀ : Heap) (L : Addr) (m : Str → Option Value) (s : Shared) (Q E : Value → Shared → Prop),
  Below A₀ base outer h₀ → Fr h₀ L s.heap m → (Mine.hd.heap_1 w.params).In h₀ → News h₀ L s.heap news → Top p loose mean mg mb h₀ → cs.kind = .function → dp + D < recursionLimit → un + U < cLine →
  (∀ r news' h' tk', Fr h₀ L h' m → News h₀ L h' news' → Post r news' → Q r { s with heap := h', toks := tk' }) →
  (∀ e d es g h' tk', Fr h₀ L g m → RaisedX base g (envX cn cs L a ccd cl :: outer) e d ((d, dictOf es 3) :: news) h' → g.UpToSlots h' → Exc es → E (.ref e) { s with heap := h', toks := tk' }) →
  wpAny (model Challenge.pw_tk0094_01 w) (ktrTop dp un gd cn cs L a ccd cl outer) (call (.ref f) args) Q E s
section
variable {w : World} {f : Addr} {args : List Value} {news : Led} {D U : Nat} {Post : Value → Led → Prop} {Exc : List DictEntry → Prop}
  {p : Program} {loose : List Str} {mean : ExcName → Option Value} {mg mb : Str → Option Value}
  {dp un : Nat} {gd : Option (List Code)} {cn : Str} {cs : Scope} {a : Addr} {ccd : Value} {cl : List (Str × Addr)} {outer : List Env} {A₀ : Around} {base h₀ : Heap} {L : Addr} {m : Str → Option Value} {s : Shared} {Q E : Value → Shared → Prop}
theorem FnE.use {hp : Heap} {gg : Array GenState} {dw : Drawn} {tk₀ : Nat} {os : OsState} (B : Below A₀ base outer h₀) (F : Fr h₀ L hp m) (X : (Mine.hd.heap_1 w.params).In h₀) (N : News h₀ L hp news) (T : Top p loose mean mg mb h₀) (hk : cs.kind = .function)
    (C : FnE w f args news D U Post Exc) (hd : dp + D < recursionLimit) (hu : un + U < cLine)
    (h : ∀ r news' h' tk', Fr h₀ L h' m → News h₀ L h' news' → Post r news' → Q r ⟨h', gg, dw, tk', os⟩)
    (he : ∀ e d es g h' tk', Fr h₀ L g m → RaisedX base g (envX cn cs L a ccd cl :: outer) e d ((d, dictOf es 3) :: news) h' → g.UpToSlots h' → Exc es → E (.ref e) ⟨h', gg, dw, tk', os⟩) :
    wpAny (model Challenge.pw_tk0094_01 w) (ktrTop dp un gd cn cs L a ccd cl outer) (call (.ref f) args) Q E ⟨hp, gg, dw, tk₀, os⟩ := C _ _ _ _ _ _ _ _ _ _ _ _ _ _ _ _ _ _ _ ⟨hp, gg, dw, tk₀, os⟩ _ _ B F X N T hk hd hu h he
end
theorem raiseQ_of {w : World} {h₀ : Heap} {L e t : Addr} {dx : Option Addr} {m : Str → Option Value} {r : Led} {E : Value → Shared → Prop} {s : Shared} (X : (Mine.hd.heap_1 w.params).In h₀) (F : Fr h₀ L s.heap m) (N : News h₀ L s.heap ((e, excObj 38 dx t) :: r)) (h : E (.ref e) s) : RaiseQ E (.ref e) s :=
  ⟨e, 38, dx, t, _, _, _, _, [.type "Exception", .type "BaseException", .type "object"], _, _, _, _, _, _, _, _, _, _, _, "Exception.__new__", rfl, by decide +kernel, X.keeps F.keep _ _ (by k_dflt k_is), (N _ (.head _)).1, h⟩
theorem drop3 {h₀ h : Heap} {L : Addr} {a b c : Addr × Obj} {r : Led} (N : News h₀ L h (a :: b :: c :: r)) : News h₀ L h (a :: b :: r) := fun p hp => N p (by
  simp only [List.mem_cons] at hp ⊢
  rcases hp with q | q | q <;> simp [q])
end
-- part Pieces
section
-- the octets of the places from s up to e
noncomputable def D (s e : Nat) : Array UInt8 := ((List.range' s (e - s)).map fun i => UInt8.ofNat (3 * i + 1)).toArray
theorem D_size (s e : Nat) : (D s e).size = e - s := by simp [D]
theorem D_none {s e : Nat} (h : e ≤ s) : D s e = #[] := by
  have : e - s = 0 := by omega
  simp [D, this]
theorem D_app {s m e : Nat} (h1 : s ≤ m) (h2 : m ≤ e) : D s m ++ D m e = D s e := by
  apply Array.toList_inj.mp
  simp only [D, Array.toList_append]
  rw [← List.map_append]
  congr 1
  have e1 : m = s + 1 * (m - s) := by rw [Nat.one_mul, Nat.add_sub_cancel' h1]
  have e2 : e - s = (m - s) + (e - m) := by rw [Nat.add_comm, Nat.sub_add_sub_cancel h2 h1]
  rw [e2]
  conv => lhs; rhs; rw [e1]
  have e3 : e - (s + 1 * (m - s)) = e - m := by rw [Nat.one_mul, Nat.add_sub_cancel' h1]
  rw [e3]
  exact List.range'_append ..
abbrev Pc := Nat × Nat
noncomputable def PcAt (led : Led) (v : Value) (x : Pc) : Prop := ∃ (a : Addr) (n : Nat) (t u : Tok), v = .ref a ∧ (a, tupN #[.int (x.1 : Int) t, .bytes (D x.1 x.2) u] n) ∈ led
theorem PcAt.mono {led led' : Led} {v : Value} {x : Pc} (h : PcAt led v x) (hs : ∀ p ∈ led, p ∈ led') : PcAt led' v x :=
  let ⟨a, n, t, u, e, hm⟩ := h; ⟨a, n, t, u, e, hs _ hm⟩
noncomputable def PcsAt (led : Led) (pl : Addr) (ps : List Pc) : Prop := ∃ vs n, (pl, listOf vs.toArray n) ∈ led ∧ All2 (PcAt led) vs ps
noncomputable def SpAt (led : Led) (v : Value) (x : Pc) : Prop := ∃ (a : Addr) (n : Nat) (t u : Tok), v = .ref a ∧ (a, tupN #[.int (x.1 : Int) t, .int (x.2 : Int) u] n) ∈ led
theorem SpAt.mono {led led' : Led} {v : Value} {x : Pc} (h : SpAt led v x) (hs : ∀ p ∈ led, p ∈ led') : SpAt led' v x :=
  let ⟨a, n, t, u, e, hm⟩ := h; ⟨a, n, t, u, e, hs _ hm⟩
noncomputable def SpsAt (led : Led) (pl : Addr) (ps : List Pc) : Prop := ∃ vs n, (pl, listOf vs.toArray n) ∈ led ∧ All2 (SpAt led) vs ps
-- ordered, apart, within eight places
noncomputable def Gap : Nat → List Pc → Prop
  | _, [] => True
  | b, (s, e) :: r => b ≤ s ∧ s < e ∧ e ≤ 8 ∧ Gap (e + 1) r
end
-- part Loop
section
-- a for over a list of the ledger: any target, any body that raises nothing; the ground under the frame may change
-- what a turn's end is; opaque for the walk
noncomputable def LpPost (Q : Flow → Shared → Prop) (End : Shared → Prop) (f : Flow) (s₃ : Shared) : Prop := match f with
  | .ret r => Q (.ret r) s₃
  | .brk => Q .next s₃
  | _ => End s₃
noncomputable def LpEndB (s : Shared) (L : Addr) (lo : Addr × Obj) (I : Addr) (oI : Obj) (Jn : Heap → (Str → Option Value) → Led → Prop) (s₃ : Shared) : Prop :=
  ∃ h₂ h' tk' m' news', s₃ = { s with heap := h', toks := tk' } ∧ Fr h₂ L h' m' ∧ News h₂ L h' ((I, oI) :: news') ∧ (∀ p ∈ news', p.1 ≠ I) ∧ lo ∈ news' ∧ Jn h₂ m' news'
noncomputable def LpEnd (s : Shared) (h₀ : Heap) (L : Addr) (lo : Addr × Obj) (I : Addr) (oI : Obj) (Jn : (Str → Option Value) → Led → Prop) (s₃ : Shared) : Prop :=
  ∃ h' tk' m' news', s₃ = { s with heap := h', toks := tk' } ∧ Fr h₀ L h' m' ∧ News h₀ L h' ((I, oI) :: news') ∧ (∀ p ∈ news', p.1 ≠ I) ∧ lo ∈ news' ∧ Jn m' news'
theorem LpEnd.intro {s : Shared} {h₀ h' : Heap} {L : Addr} {lo : Addr × Obj} {I : Addr} {oI : Obj} {Jn : (Str → Option Value) → Led → Prop} {m' : Str → Option Value} {news' : Led} {tk' : Nat} (F : Fr h₀ L h' m') (N : News h₀ L h' ((I, oI) :: news')) (hn : ∀ p ∈ news', p.1 ≠ I) (hl : lo ∈ news') (hj : Jn m' news') :
    LpEnd s h₀ L lo I oI Jn { s with heap := h', toks := tk' } := ⟨h', tk', m', news', rfl, F, N, hn, hl, hj⟩
theorem LpEndB.intro {s : Shared} {h₂ h' : Heap} {L : Addr} {lo : Addr × Obj} {I : Addr} {oI : Obj} {Jn : Heap → (Str → Option Value) → Led → Prop} {m' : Str → Option Value} {news' : Led} {tk' : Nat} (F : Fr h₂ L h' m') (N : News h₂ L h' ((I, oI) :: news')) (hn : ∀ p ∈ news', p.1 ≠ I) (hl : lo ∈ news') (hj : Jn h₂ m' news') :
    LpEndB s L lo I oI Jn { s with heap := h', toks := tk' } := ⟨h₂, h', tk', m', news', rfl, F, N, hn, hl, hj⟩
section
variable {prog : Program} {w : World} {A : Around} {env : Env}
theorem for_listB {target iterx : PySem.Expr} {body : List Stmt} {pos : Pos} {l : Addr} {vs : List Value} {nn : Nat} {s : Shared} {Q : Flow → Shared → Prop} {E : Value → Shared → Prop} {h₀ : Heap} {m₀ : Str → Option Value} {news₀ : Led}
    (J : Nat → Heap → (Str → Option Value) → Led → Prop)
    (hh : A.handled = none) (hiter : ∀ Q' : Value → Shared → Prop, Q' (.ref l) s → wpAny (model prog w) A (eval iterx env) Q' (fun _ _ => False) s) (hs : ∀ x, foldedSetIterable iterx env x = pure x)
    (F : Fr h₀ env.locals s.heap m₀) (N : News h₀ env.locals s.heap news₀) (hl : (l, listOf vs.toArray nn) ∈ news₀) (hj : J 0 h₀ m₀ news₀)
    (turn : ∀ i v h₁ m₁ news₁ I oI h tk, vs[i]? = some v → J i h₁ m₁ news₁ → (l, listOf vs.toArray nn) ∈ news₁ → (∀ p ∈ news₁, p.1 ≠ I) → Fr h₁ env.locals h m₁ → News h₁ env.locals h ((I, oI) :: news₁) →
      wpAny (model prog w) A (assign target env v) (fun _ s₂ => wpAny (model prog w) A (execs body env) (LpPost Q (LpEndB s env.locals (l, listOf vs.toArray nn) I oI (J (i + 1)))) (fun _ _ => False) s₂) (fun _ _ => False) { s with heap := h, toks := tk })
    (done : ∀ h₁ m₁ news₁ h tk, J vs.length h₁ m₁ news₁ → Fr h₁ env.locals h m₁ → News h₁ env.locals h news₁ → Q .next { s with heap := h, toks := tk }) :
    wpAny (model prog w) A (exec (.For target iterx body [] pos) env) Q E s := by
  refine wpAny_mono (E := fun _ _ => False) ?_ (fun _ _ x => x) fun _ _ x => x.elim
  refine wpAny_For (hiter _ ?_) hs
  have hls : s.heap.IsList l vs.toArray := PySem.IsL.isList (n := nn) (N _ hl).1
  refine wpAny_pyIter_list hls ?_
  have hIL : s.heap.objs.size ≠ env.locals := Nat.ne_of_gt F.ns.lt
  have hI0 : ∀ p ∈ news₀, p.1 ≠ s.heap.objs.size := fun p hp => Nat.ne_of_lt (Heap.lt_size (N p hp).1)
  have old : ∀ {α : Type} {t : Sem α} {Q' : α → Shared → Prop} {s' : Shared}, wpAny (model prog w) A t Q' (fun _ _ => False) s' → ∀ (R : Value → Shared → Prop), wpAny (model prog w) A t Q' R s' :=
    fun h R => wpAny_mono h (fun _ _ x => x) fun _ _ x => x.elim
  refine codeAny_forLoop_any
    (fun k s' => ∃ h' tk m' news' h₁ i oI, s' = { s with heap := h', toks := tk } ∧ (oI.cls = .type "list_iterator" ∧ oI.data = .fields #[.ref l, .int (i : Nat) 0]) ∧ Fr h₁ env.locals h' m' ∧ News h₁ env.locals h' ((s.heap.objs.size, oI) :: news') ∧
      (∀ p ∈ news', p.1 ≠ s.heap.objs.size) ∧ (l, listOf vs.toArray nn) ∈ news' ∧ J i h₁ m' news' ∧ i ≤ vs.length ∧ k = vs.length + 1 - i) ?_ (vs.length + 1)
    ⟨_, s.toks, m₀, news₀, h₀, 0, _, rfl, ⟨rfl, rfl⟩, F.push _, N.push F _, hI0, hl, hj, Nat.zero_le _, rfl⟩
  rintro k s' hp1g
  refine goalAside fun Xg kg => ?_
  obtain ⟨h', tk, m', news', h₁, i, oI, rfl, ⟨hc, hd⟩, F', N', hne, hl', hJ, hi, rfl⟩ := hp1g
  refine kg ?_
  clear kg Xg
  have ZI := N' _ (.head _)
  have hit : h'.IsListIter s.heap.objs.size l i := ⟨oI, ZI.1, hc, hd⟩
  have hls' : h'.IsList l vs.toArray := PySem.IsL.isList (n := nn) (N' _ (.tail _ hl')).1
  by_cases hlt : i < vs.length
  · refine wpAny_pyNext_list_item (x := vs[i]) hit hls' (by simp [hlt]) fun h₂ hit₂ hsb => ?_
    dsimp only
    refine letGo_listiter hit₂ ?_
    refine goalAside fun Xg kg => ?_
    obtain ⟨oI₂, hoI₂, hc₂, hd₂⟩ := hit₂
    refine kg ?_
    clear kg Xg
    have F₂ : Fr h₁ env.locals h₂ m' := F'.change hsb ZI.2.1 ZI.2.2
    have N₂ : News h₁ env.locals h₂ ((s.heap.objs.size, oI₂) :: news') := fun p hp => by
      rcases List.mem_cons.mp hp with rfl | hp
      · exact ⟨hoI₂, ZI.2⟩
      · have Zp := N' p (.tail _ hp)
        exact ⟨(hsb.2 p.1 (hne p hp)).trans Zp.1, Zp.2⟩
    refine old (wpAny_mono (turn i vs[i] h₁ m' news' s.heap.objs.size oI₂ h₂ tk (by simp [hlt]) hJ hl' hne F₂ N₂) (fun _ s₂ h₂ => old (wpAny_mono h₂ (fun f s₃ h₃ => ?_) fun _ _ e => e) _) fun _ _ e => e) _
    have fin : (∃ h₂ h' tk' m' news', s₃ = { s with heap := h', toks := tk' } ∧ Fr h₂ env.locals h' m' ∧ News h₂ env.locals h' ((s.heap.objs.size, oI₂) :: news') ∧ (∀ p ∈ news', p.1 ≠ s.heap.objs.size) ∧ (l, listOf vs.toArray nn) ∈ news' ∧ J (i + 1) h₂ m' news') →
        ∃ m, m < vs.length + 1 - i ∧ (∃ h' tk m' news' h₁ i oI, s₃ = { s with heap := h', toks := tk } ∧ (oI.cls = .type "list_iterator" ∧ oI.data = .fields #[.ref l, .int (i : Nat) 0]) ∧ Fr h₁ env.locals h' m' ∧ News h₁ env.locals h' ((s.heap.objs.size, oI) :: news') ∧
          (∀ p ∈ news', p.1 ≠ s.heap.objs.size) ∧ (l, listOf vs.toArray nn) ∈ news' ∧ J i h₁ m' news' ∧ i ≤ vs.length ∧ m = vs.length + 1 - i) := by
      rintro hp2g
      refine goalAside fun Xg kg => ?_
      obtain ⟨h₃, h'', tk', m'', news'', e, F₃, N₃, ne₃, l₃, J₃⟩ := hp2g
      refine kg ?_
      clear kg Xg
      exact ⟨vs.length + 1 - (i + 1), by omega, h'', tk', m'', news'', h₃, i + 1, oI₂, e, ⟨hc₂, hd₂⟩, F₃, N₃, ne₃, l₃, J₃, hlt, rfl⟩
    cases f with
    | ret v => exact h₃
    | brk => exact h₃
    | next => exact fin h₃
    | cont => exact fin h₃
  · have hin : i = vs.length := by omega
    subst hin
    refine wpAny_pyNext_list_end hh hit hls' (by simp) fun h₂ hex => wpAny_execs_nil ?_
    have F₂ : Fr h₁ env.locals h₂ m' := ⟨F'.ns.at' fun o e => hex _ o (Ne.symm hIL) e, fun b o e => hex b o (fun q => by have := ZI.2.2; rw [← q, e] at this; cases this) (F'.keep b o e), F'.above⟩
    exact done h₁ m' news' h₂ tk hJ F₂ fun p hp => ⟨hex p.1 p.2 (hne p hp) (N' p (.tail _ hp)).1, (N' p (.tail _ hp)).2⟩
-- the same on one ground
theorem for_list {target iterx : PySem.Expr} {body : List Stmt} {pos : Pos} {l : Addr} {vs : List Value} {nn : Nat} {s : Shared} {Q : Flow → Shared → Prop} {E : Value → Shared → Prop} {h₀ : Heap} {m₀ : Str → Option Value} {news₀ : Led}
    (J : Nat → (Str → Option Value) → Led → Prop)
    (hh : A.handled = none) (hiter : ∀ Q' : Value → Shared → Prop, Q' (.ref l) s → wpAny (model prog w) A (eval iterx env) Q' (fun _ _ => False) s) (hs : ∀ x, foldedSetIterable iterx env x = pure x)
    (F : Fr h₀ env.locals s.heap m₀) (N : News h₀ env.locals s.heap news₀) (hl : (l, listOf vs.toArray nn) ∈ news₀) (hj : J 0 m₀ news₀)
    (turn : ∀ i v m₁ news₁ I oI h tk, vs[i]? = some v → J i m₁ news₁ → (l, listOf vs.toArray nn) ∈ news₁ → (∀ p ∈ news₁, p.1 ≠ I) → Fr h₀ env.locals h m₁ → News h₀ env.locals h ((I, oI) :: news₁) →
      wpAny (model prog w) A (assign target env v) (fun _ s₂ => wpAny (model prog w) A (execs body env) (LpPost Q (LpEnd s h₀ env.locals (l, listOf vs.toArray nn) I oI (J (i + 1)))) (fun _ _ => False) s₂) (fun _ _ => False) { s with heap := h, toks := tk })
    (done : ∀ m₁ news₁ h tk, J vs.length m₁ news₁ → Fr h₀ env.locals h m₁ → News h₀ env.locals h news₁ → Q .next { s with heap := h, toks := tk }) :
    wpAny (model prog w) A (exec (.For target iterx body [] pos) env) Q E s := by
  refine for_listB (fun i h₁ m n => h₁ = h₀ ∧ J i m n) hh hiter hs F N hl ⟨rfl, hj⟩ ?_ ?_
  · rintro i v h₁ m₁ news₁ I oI h tk hv ⟨rfl, hJ⟩ hl₁ hne F₁ N₁
    refine wpAny_mono (turn i v m₁ news₁ I oI h tk hv hJ hl₁ hne F₁ N₁) (fun _ s₂ h₂ => wpAny_mono h₂ (fun f s₃ h₃ => ?_) fun _ _ e => e) fun _ _ e => e
    cases f with
    | ret v => exact h₃
    | brk => exact h₃
    | next =>
      refine goalAside fun Xg kg => ?_
      obtain ⟨h', tk', m', news', a, b, c, d, e, f⟩ := h₃
      refine kg ?_
      clear kg Xg
      exact ⟨h₁, h', tk', m', news', a, b, c, d, e, rfl, f⟩
    | cont =>
      refine goalAside fun Xg kg => ?_
      obtain ⟨h', tk', m', news', a, b, c, d, e, f⟩ := h₃
      refine kg ?_
      clear kg Xg
      exact ⟨h₁, h', tk', m', news', a, b, c, d, e, rfl, f⟩
  · rintro h₁ m₁ news₁ h tk ⟨rfl, hJ⟩ F₁ N₁
    exact done m₁ news₁ h tk hJ F₁ N₁
end
-- a frame's names by a written list over a ground
noncomputable def fm (base : Str → Option Value) : List (Str × Value) → Str → Option Value
  | [] => base
  | (x, v) :: r => fun y => if y = x then some v else fm base r y
noncomputable def FmIs (m : Str → Option Value) (kv : List (Str × Value)) (xs : List Str) (base : Str → Option Value) : Prop := (∀ p ∈ kv, m p.1 = some p.2) ∧ ∀ y, xs.contains y = false → m y = base y
theorem fm_eq {m : Str → Option Value} : ∀ {kv : List (Str × Value)} {f : Str → Option Value}, (∀ p ∈ kv, m p.1 = some p.2) → (∀ y, (∀ p ∈ kv, y ≠ p.1) → m y = f y) → ∀ y, m y = fm f kv y
  | [], _, _, h2, y => h2 y fun _ hp => nomatch hp
  | (x, v) :: r, f, h1, h2, y => by
    show m y = if y = x then some v else fm f r y
    by_cases q : y = x
    · rw [if_pos q, q]; exact h1 (x, v) (.head _)
    · rw [if_neg q]
      by_cases hr : ∃ p ∈ r, y = p.1
      · obtain ⟨p, hp, rfl⟩ := hr
        have : ∀ (l : List (Str × Value)), (∀ p ∈ l, m p.1 = some p.2) → p ∈ l → fm f l p.1 = m p.1 := by
          intro l
          induction l with
          | nil => intro _ hp; cases hp
          | cons a l ih =>
            intro hl hp
            show (if p.1 = a.1 then some a.2 else fm f l p.1) = _
            by_cases z : p.1 = a.1
            · rw [if_pos z, z]; exact (hl a (.head _)).symm
            · rw [if_neg z]
              rcases List.mem_cons.mp hp with rfl | hp
              · exact absurd rfl z
              · exact ih (fun q hq => hl q (.tail _ hq)) hp
        exact (this r (fun q hq => h1 q (.tail _ hq)) hp).symm
      · have hm : m y = f y := h2 y fun p hp => by
          rcases List.mem_cons.mp hp with rfl | hp
          · exact q
          · exact fun z => hr ⟨p, hp, z⟩
        have : ∀ (l : List (Str × Value)), (∀ p ∈ l, y ≠ p.1) → fm f l y = f y := by
          intro l
          induction l with
          | nil => intro _; rfl
          | cons a l ih =>
            intro hl
            show (if y = a.1 then some a.2 else fm f l y) = _
            rw [if_neg (hl a (.head _))]
            exact ih fun q hq => hl q (.tail _ hq)
        rw [hm, this r fun p hp z => hr ⟨p, hp, z⟩]
theorem FmIs.get {m base : Str → Option Value} {kv : List (Str × Value)} {xs : List Str} (h : FmIs m kv xs base) : ∃ u : Str → Option Value, m = fm (fun z => if xs.contains z then u z else base z) kv :=
  ⟨m, funext (fm_eq h.1 fun y _ => by
    show m y = if xs.contains y then m y else base y
    cases q : xs.contains y with
    | true => rw [if_pos rfl]
    | false => rw [if_neg Bool.false_ne_true]; exact h.2 y q)⟩
theorem fm_out {f base : Str → Option Value} {xs : List Str} {x : Str} {v : Value} (hx : xs.contains x = true) (h : ∀ y, xs.contains y = false → f y = base y) : ∀ y, xs.contains y = false → (if y = x then some v else f y) = base y := fun y hy => by
  rw [if_neg fun q => by rw [q, hx] at hy; cases hy]
  exact h y hy
theorem fm_base {u base : Str → Option Value} {xs : List Str} : ∀ y, xs.contains y = false → (if xs.contains y then u y else base y) = base y := fun y hy => by
  rw [hy]; rfl
theorem mem_take_succ {α : Type} {l : List α} {i : Nat} {x p : α} (hx : l[i]? = some x) (h : p ∈ l.take (i + 1)) : p ∈ l.take i ∨ p = x := by
  rw [List.take_add_one, hx] at h
  simpa using h
theorem drop1 {h₀ h : Heap} {L : Addr} {a : Addr × Obj} {r : Led} (N : News h₀ L h (a :: r)) : News h₀ L h r := fun p hp => N p (.tail _ hp)
end
-- part Comp
section
section
variable {prog : Program} {w : World} {A : Around} {h₀ : Heap} {L : Addr} {m : Str → Option Value} {env : Env} {elt ct : PySem.Expr} {x x₂ : Str} {scope : Scope} {cl : List (Str × Addr)} {s : Shared} {S : List (Addr × Obj) → Prop} {P : Nat → Value → Prop} {Fin : List Value → List (Addr × Obj) → Prop}
theorem compEnd_mono {s₁ : Shared} {I C D : Addr} {oI oC oD : Obj} {r r' : Value → Led → Prop} {y : Value} {s₂ : Shared} (h : LCg.CompEnd h₀ L m s₁ I oI C oC D oD S r y s₂) (hr : ∀ n, r y n → r' y n) : LCg.CompEnd h₀ L m s₁ I oI C oC D oD S r' y s₂ :=
  let ⟨h', tk, n, a, b, c, d, e, f⟩ := h; ⟨h', tk, n, a, b, c, d, e, hr _ f⟩
theorem compU_run (J : Nat → List Value → Led → Prop) (n : Nat)
    (turn : ∀ i ys news v I oI C oC D m₂ h tk (E' : Value → Shared → Prop), i < n → J i ys news → P i v → LCg.NsObj oC m₂ → m₂ x = some v → Fr h₀ L h m → News h₀ L h ((I, oI) :: (C, oC) :: (D, LCg.lst ys) :: news) → LCg.Off3 I C D news → ((@Ne Nat I C) ∧ (@Ne Nat I D) ∧ (@Ne Nat C D)) →
      wpAny (model prog w) A (eval elt (compEnvC scope cl C env)) (LCg.CompEnd h₀ L m { s with heap := h, toks := tk } I oI C oC D (LCg.lst ys) S (fun y news' => J (i + 1) (ys ++ [y]) news')) E' { s with heap := h, toks := tk })
    (fin : ∀ ys news, J n ys news → Fin ys news) : ∀ k i ys news, i + k = n → J i ys news → LCg.CompRest prog w A h₀ L m env elt x scope cl s S P Fin k i ys news
  | 0, i, ys, news, e, j => by
    obtain rfl : i = n := e
    exact fin _ _ j
  | k + 1, i, ys, news, e, j => LCg.CompRest.succ fun v I oI C oC D m₂ h tk E' hv hC hx F N off ne =>
    wpAny_mono (turn i ys news v I oI C oC D m₂ h tk E' (by omega) j hv hC hx F N off ne) (fun _ _ z => compEnd_mono z fun nx q => compU_run J n turn fin k (i + 1) _ _ (by omega) q) fun _ _ z => z
theorem compP_run (J : Nat → List Value → Led → Prop) (n : Nat)
    (turn : ∀ i ys news v, i < n → J i ys news → P i v → ∃ (t : Addr) (ot : Obj) (v₁ v₂ : Value) (nt : Nat), v = .ref t ∧ (t, ot) ∈ news ∧ ot.cls = .type "tuple" ∧ ot.data = .seq #[v₁, v₂] nt ∧
      ∀ I oI C oC D m₂ h tk (E' : Value → Shared → Prop), LCg.NsObj oC m₂ → m₂ x = some v₁ → m₂ x₂ = some v₂ → Fr h₀ L h m → News h₀ L h ((I, oI) :: (C, oC) :: (D, LCg.lst ys) :: news) → LCg.Off3 I C D news → ((@Ne Nat I C) ∧ (@Ne Nat I D) ∧ (@Ne Nat C D)) →
      wpAny (model prog w) A (eval elt (compEnvC scope cl C env)) (LCg.CompEnd h₀ L m { s with heap := h, toks := tk } I oI C oC D (LCg.lst ys) S (fun y news' => J (i + 1) (ys ++ [y]) news')) E' { s with heap := h, toks := tk })
    (fin : ∀ ys news, J n ys news → Fin ys news) : ∀ k i ys news, i + k = n → J i ys news → LCp.CompRestP prog w A h₀ L m env elt x x₂ scope cl s S P Fin k i ys news
  | 0, i, ys, news, e, j => by
    obtain rfl : i = n := e
    exact fin _ _ j
  | k + 1, i, ys, news, e, j => LCp.CompRestP.succ fun v hv => by
    refine goalAside fun Xg kg => ?_
    obtain ⟨t, ot, v₁, v₂, nt, e1, e2, e3, e4, H⟩ := turn i ys news v (by omega) j hv
    refine kg ?_
    clear kg Xg
    exact ⟨t, ot, v₁, v₂, nt, e1, e2, e3, e4, fun I oI C oC D m₂ h tk E' hC hx hx2 F N off ne => wpAny_mono (H I oI C oC D m₂ h tk E' hC hx hx2 F N off ne) (fun _ _ z => compEnd_mono z fun nx q => compP_run J n turn fin k (i + 1) _ _ (by omega) q) fun _ _ z => z⟩
theorem compT_run (J : Nat → List Value → Led → Prop) (n : Nat)
    (turn : ∀ i ys news v I oI C oC D m₂ h tk (E' : Value → Shared → Prop), i < n → J i ys news → P i v → LCg.NsObj oC m₂ → m₂ x = some v → Fr h₀ L h m → News h₀ L h ((I, oI) :: (C, oC) :: (D, LCg.lst ys) :: news) → LCg.Off3 I C D news → ((@Ne Nat I C) ∧ (@Ne Nat I D) ∧ (@Ne Nat C D)) →
      wpAny (model prog w) A (isTrue ct (compEnvC scope cl C env) (eval ct (compEnvC scope cl C env))) (fun ok s' => if ok = true then
        wpAny (model prog w) A (eval elt (compEnvC scope cl C env)) (LCg.CompEnd h₀ L m { s with heap := h, toks := tk } I oI C oC D (LCg.lst ys) S (fun y news' => J (i + 1) (ys ++ [y]) news')) E' s'
        else LCg.CompEnd h₀ L m { s with heap := h, toks := tk } I oI C oC D (LCg.lst ys) S (fun _ news' => J (i + 1) ys news') Value.none s') E' { s with heap := h, toks := tk })
    (fin : ∀ ys news, J n ys news → Fin ys news) : ∀ k i ys news, i + k = n → J i ys news → LCt.CompRestT prog w A h₀ L m env ct elt x scope cl s S P Fin k i ys news
  | 0, i, ys, news, e, j => by
    obtain rfl : i = n := e
    exact fin _ _ j
  | k + 1, i, ys, news, e, j => LCt.CompRestT.succ fun v I oI C oC D m₂ h tk E' hv hC hx F N off ne =>
    wpAny_mono (turn i ys news v I oI C oC D m₂ h tk E' (by omega) j hv hC hx F N off ne) (fun ok _ z => by
      cases ok with
      | true =>
        simp only [if_true] at z ⊢
        exact wpAny_mono z (fun _ _ z => compEnd_mono z fun nx q => compT_run J n turn fin k (i + 1) _ _ (by omega) q) fun _ _ z => z
      | false =>
        simp only [Bool.false_eq_true, if_false] at z ⊢
        exact compEnd_mono z fun nx q => compT_run J n turn fin k (i + 1) _ _ (by omega) q) fun _ _ z => z
end
theorem off3_fresh {new old : Led} {I C D : Addr} (h : LCg.Off3 I C D old) (hn : ∀ p ∈ new, p.1 ≠ I ∧ p.1 ≠ C ∧ p.1 ≠ D) : LCg.Off3 I C D (new ++ old) := LCg.Off3.of fun p hp => (List.mem_append.mp hp).elim (hn p) (h.mem p)
theorem compEnd_new {h₀ : Heap} {L : Addr} {m : Str → Option Value} {s₁ : Shared} {S : Led → Prop} {I C D9 : Addr} {oI oC oD : Obj} {x : Addr × Obj} {news : Led} {rest : Value → Led → Prop} {y : Value} {h' : Heap} {tk : Nat} (F : Fr h₀ L h' m) (N : News h₀ L h' (x :: (I, oI) :: (C, oC) :: (D9, oD) :: news)) (off : LCg.Off3 I C D9 (x :: news)) (hS : S (x :: news)) (r : rest y (x :: news)) :
    LCg.CompEnd h₀ L m s₁ I oI C oC D9 oD S rest y { s₁ with heap := h', toks := tk } := LCg.CompEnd.intro F N _ (fun q hq => by
      simp only [List.mem_cons] at hq ⊢
      rcases hq with h | h | h | h | h <;> simp [h]) off hS r
theorem compEnd_same {h₀ : Heap} {L : Addr} {m : Str → Option Value} {s₁ : Shared} {S : Led → Prop} {I C D9 : Addr} {oI oC oD : Obj} {news : Led} {rest : Value → Led → Prop} {y : Value} {h' : Heap} {tk : Nat} (F : Fr h₀ L h' m) (N : News h₀ L h' ((I, oI) :: (C, oC) :: (D9, oD) :: news)) (off : LCg.Off3 I C D9 news) (hS : S news) (r : rest y news) :
    LCg.CompEnd h₀ L m s₁ I oI C oC D9 oD S rest y { s₁ with heap := h', toks := tk } := LCg.CompEnd.intro F N _ (fun _ h => h) off hS r
end
-- part Byt
section
theorem look_own_bytes : typeLookup (.type "bytes") "__bytes__" = pure (some (.builtin "bytes.__bytes__")) := by rw [typeLookup_type, builtinLookup_eq_fast]; kernel_rfl
section
variable {prog : Program} {w : World} {A : Around} {E : Value → Shared → Prop} {s : Shared}
-- bytes(b) of bytes
theorem bytes_bytes {b : Array UInt8} {t : Tok} {Q : Value → Shared → Prop} (hQ : ∀ t' tk, Q (.bytes b t') { s with toks := tk }) : wpAny (model prog w) A (call (.type "bytes") [.bytes b t]) Q E s := by
  refine PySem.callType_codes (Q₁ := fun obj s₁ => obj = .bytes b t ∧ s₁ = s) PySem.F.bm_called (PySem.F.bm_typeCall _) F.entry_object_init ?_ fun obj s₁ h₁ => ?_
  · refine codeAny_of_tree ?_
    show wpAny _ A.in1.in1 (do checkBuiltinCall "bytes.__new__" ⟨[.type "bytes", .bytes b t], []⟩; again (.builtin "bytes.__new__" ⟨[.type "bytes", .bytes b t], []⟩)) _ _ s
    refine wpAny_bind (wpAny_of_eq (PySem.F.bm_newCall _) (wpAny_pure ⟨plainId_quiet PySem.F.bm_plain _, codeAny_builtin PySem.F.bm_entry ?_⟩))
    rw [Around.under_plainId PySem.F.bm_plain _]
    unfold Builtin.«bytes.__new__»
    refine wpAny_bind (wpAny_of_eq (a := true) rfl ?_)
    refine bm_if_false rfl ?_
    refine wpAny_bind (wpAny_of_eq PySem.F.bm_sub ?_)
    refine bm_if_false rfl ?_
    refine wpAny_bind (wpAny_of_eq (PySem.F.bm_bind _) ?_)
    refine wpAny_bind (wpAny_of_eq (a := ()) rfl ?_)
    refine wpAny_bind (wpAny_of_eq (a := ()) rfl ?_)
    refine bm_if_false rfl ?_
    refine wpAny_bind (wpAny_specialOf (typeIs_bytes s b t) look_own_bytes ?_)
    refine wpAny_bind (wpAny_rule ?_)
    refine wpAny_bind (wpAny_typeOf (typeIs_bytes s b t) ?_)
    refine bm_if_true rfl ?_
    exact wpAny_pure ⟨rfl, rfl⟩
  · obtain ⟨rfl, rfl⟩ := h₁
    exact ⟨typeIs_bytes _ _ _, F.args_object_init_2 _ _, object_init_meets PySem.F.bm_called.init.lookup PySem.F.bm_called.made (by decide) prog w A.in1 _ s₁ ⟨typeIs_bytes _ _ _, rfl, by have := hQ t s₁.toks; exact this⟩⟩
end
section
variable {prog : Program} {w : World} {A : Around} {E : Value → Shared → Prop} {s : Shared} {value slice : PySem.Expr} {b : Array UInt8} {t : Tok} {h₀ : Heap} {L : Addr} {m : Str → Option Value} {news : Led} {l u : Value} {lo hi : Option Int} {Q : Value → Shared → Prop}
-- a slice of bytes
theorem slice_any (hF : Fr h₀ L s.heap m) (hN : News h₀ L s.heap news) (hl : IsPart l lo) (hu : IsPart u hi) (hz : b.size ≤ 16777216)
    (h : ∀ h' t' k P, Fr h₀ L h' m → News h₀ L h' news → P = KBy.picked b lo hi → P.size ≤ b.size → Q (.bytes P t') { s with heap := h', toks := k })
    (hs : subscripted slice false (.bytes b t) (.ref s.heap.objs.size) = operate [.ref s.heap.objs.size, .bytes b t] (getItem (.bytes b t) (.ref s.heap.objs.size)) := by with_unfolding_all rfl)
    (ht : ∀ r, letTemporaryGo value (.bytes b t) r = pure () := by intro _; with_unfolding_all rfl) :
    wpAny (model prog w) A (subscriptTail value slice (.bytes b t) (.ref s.heap.objs.size)) Q E { s with heap := s.heap.push { cls := .type "slice", data := .fields #[l, u, .none] } } :=
  KBc.slice_K hF hN rfl hl hu (by rw [KBw.ints_length]; exact hz) (fun h' t' k F N _ => h h' t' k _ F N rfl (KBc.size_picked_le ..)) hs ht
end
theorem D_drop {s e k : Nat} (h : s ≤ e) : ((D s e).toList.drop k).toArray = D (min e (s + k)) e := by
  apply Array.toList_inj.mp
  simp only [D]
  rw [← List.map_drop, List.drop_range']
  by_cases q : s + k ≤ e
  · rw [Nat.min_eq_right q, Nat.mul_one, Nat.sub_sub]
  · have q' : e ≤ s + k := Nat.le_of_lt (Nat.lt_of_not_le q)
    rw [Nat.min_eq_left q', Nat.sub_self, Nat.sub_sub, Nat.sub_eq_zero_of_le q']; rfl
theorem D_take {s e k : Nat} : ((D s e).toList.take k).toArray = D s (min e (s + k)) := by
  apply Array.toList_inj.mp
  show (D s e).toList.take k = _
  by_cases q : s + k ≤ e
  · have e1 : min e (s + k) = s + k := by omega
    rw [e1, ← D_app (Nat.le_add_right s k) q, Array.toList_append, List.take_left' (by rw [Array.length_toList, D_size]; omega)]
  · have e1 : min e (s + k) = e := by omega
    rw [e1, List.take_of_length_le (by rw [Array.length_toList, D_size]; omega)]
theorem min_clip {e s n : Nat} : min e (s + min n (e - s)) = min e (s + n) := by
  rcases Nat.le_total n (e - s) with h | h
  · rw [Nat.min_eq_left h]
  · rw [Nat.min_eq_right h]
    rcases Nat.le_total s e with q | q
    · have z : e ≤ s + n := Nat.le_trans (Nat.le_of_eq (Nat.add_sub_cancel' q).symm) (Nat.add_le_add_left h s)
      rw [Nat.add_sub_cancel' q, Nat.min_self, Nat.min_eq_left z]
    · rw [Nat.min_eq_left (Nat.le_trans q (Nat.le_add_right _ _)), Nat.min_eq_left (Nat.le_trans q (Nat.le_add_right _ _))]
theorem picked_to {s e : Nat} {k : Int} (hk : 0 ≤ k) : KBy.picked (D s e) none (some k) = D s (min e (s + k.toNat)) := by
  obtain ⟨n, rfl⟩ := Int.eq_ofNat_of_zero_le hk
  rw [KBc.picked_eq]
  simp only [Option.elim, clipAt_nat, List.drop_zero, Nat.sub_zero, D_take, D_size, Int.toNat_natCast]
  rw [min_clip]
theorem picked_from {s e : Nat} {k : Int} (h : s ≤ e) (hk : 0 ≤ k) : KBy.picked (D s e) (some k) none = D (min e (s + k.toNat)) e := by
  obtain ⟨n, rfl⟩ := Int.eq_ofNat_of_zero_le hk
  rw [KBc.picked_eq]
  simp only [Option.elim, clipAt_nat, Int.toNat_natCast]
  rw [List.take_of_length_le (by simp), D_drop h, D_size]
  rw [min_clip]
end
-- part Lst
section
section
variable {prog : Program} {w : World} {A : Around} {E : Value → Shared → Prop} {s : Shared} {h₀ : Heap} {L D9 b : Addr} {m : Str → Option Value} {news news' : Led} {vs : List Value} {n : Nat} {Q : Value → Shared → Prop}
-- l.append(x), of any values
theorem append_any {x : Value} (F : Fr h₀ L s.heap m) (N : News h₀ L s.heap news) (U : Upd D9 (listOf vs.toArray n) (listOf (vs ++ [x]).toArray (n + 1)) news news') (hz : vs.length ≤ 1000)
    (h : ∀ h', Fr h₀ L h' m → News h₀ L h' news' → Q .none { s with heap := h' }) : wpAny (model prog w) A (call (.builtin "list.append") [.ref D9, x]) Q E s := by
  have e : (vs ++ [x]).toArray = vs.toArray.push x := by simp
  rw [e] at U
  exact append_K F N U h (by rw [List.size_toArray]; exact Nat.le_trans hz (by decide))
-- list(l)
theorem copy_any (F : Fr h₀ L s.heap m) (N : News h₀ L s.heap news) (hb : (b, listOf vs.toArray n) ∈ news) (hz : vs.length ≤ 1000)
    (h : ∀ D c h', Fr h₀ L h' m → News h₀ L h' ((D, listOf vs.toArray c) :: news) → (∀ q ∈ news, q.1 < D) → Q (.ref D) { s with heap := h' }) : wpAny (model prog w) A (call (.type "list") [.ref b]) Q E s :=
  kup_listOf F N hb rfl h (by show vs.length ≤ _; exact Nat.le_trans hz (by decide))
end
theorem All2.toList {α β : Type} {R : α → β → Prop} {xs : List α} {ys : List β} (h : All2 R xs ys) : All2 R xs.toArray.toList ys := h
end
-- part Add
section
noncomputable def addStep (x : List Pc × Nat × Nat) (p : Pc) : List Pc × Nat × Nat :=
  if p.2 < x.2.1 ∨ x.2.2 < p.1 then (x.1 ++ [p], x.2.1, x.2.2) else (x.1, min x.2.1 p.1, max x.2.2 p.2)
noncomputable def ins (x : Pc) : List Pc → List Pc
  | [] => [x]
  | p :: r => if p.1 < x.1 then p :: ins x r else x :: p :: r
noncomputable def addP (ps : List Pc) (b e : Nat) : List Pc := if e ≤ b then ps else ins (ps.foldl addStep ([], b, e)).2 (ps.foldl addStep ([], b, e)).1
noncomputable def Cov (ps : List Pc) (x : Nat) : Prop := ∃ p ∈ ps, p.1 ≤ x ∧ x < p.2
theorem cov_cons {p : Pc} {r : List Pc} {x : Nat} : Cov (p :: r) x ↔ (p.1 ≤ x ∧ x < p.2) ∨ Cov r x := by
  unfold Cov; simp
theorem cov_nil {x : Nat} : ¬ Cov [] x := fun ⟨_, h, _⟩ => nomatch h
theorem cov_app {p q : List Pc} {x : Nat} : Cov (p ++ q) x ↔ Cov p x ∨ Cov q x := by
  unfold Cov
  constructor
  · rintro ⟨y, h, k⟩
    exact (List.mem_append.mp h).elim (fun h => .inl ⟨y, h, k⟩) fun h => .inr ⟨y, h, k⟩
  · rintro (⟨y, h, k⟩ | ⟨y, h, k⟩)
    · exact ⟨y, List.mem_append_left _ h, k⟩
    · exact ⟨y, List.mem_append_right _ h, k⟩
theorem gap_mem : ∀ {ps : List Pc} {k : Nat}, Gap k ps → ∀ p ∈ ps, k ≤ p.1 ∧ p.1 < p.2 ∧ p.2 ≤ 8
  | [], _, _, _, h => nomatch h
  | (s, e) :: r, k, ⟨h1, h2, h3, h4⟩, p, h => by
    rcases List.mem_cons.mp h with rfl | h
    · exact ⟨h1, h2, h3⟩
    · have := gap_mem h4 p h
      omega
theorem gap_len : ∀ {ps : List Pc} {k : Nat}, k ≤ 9 → Gap k ps → k + 2 * ps.length ≤ 9
  | [], _, hk, _ => by simpa using hk
  | (s, e) :: r, k, _, ⟨h1, h2, h3, h4⟩ => by
    have := gap_len (by omega) h4
    simp only [List.length_cons]
    omega
theorem gap_mono : ∀ {ps : List Pc} {k j : Nat}, j ≤ k → Gap k ps → Gap j ps
  | [], _, _, _, _ => trivial
  | (_, _) :: _, _, _, hj, ⟨h1, h2, h3, h4⟩ => ⟨Nat.le_trans hj h1, h2, h3, h4⟩
theorem gap_snoc : ∀ {ps : List Pc} {k : Nat} {q : Pc}, Gap k ps → (∀ p ∈ ps, p.2 < q.1) → k ≤ q.1 → q.1 < q.2 → q.2 ≤ 8 → Gap k (ps ++ [q])
  | [], _, _, _, _, h1, h2, h3 => ⟨h1, h2, h3, trivial⟩
  | (s, e) :: r, k, q, ⟨h1, h2, h3, h4⟩, hp, _, h6, h7 => ⟨h1, h2, h3, gap_snoc h4 (fun p h => hp p (.tail _ h)) (hp (s, e) (.head _)) h6 h7⟩
-- what the fold keeps
structure FoldOk (fs : List Pc) (bg en k : Nat) : Prop where
  gap : Gap 0 fs
  lt : ∀ p ∈ fs, p.2 < k
  off : ∀ p ∈ fs, p.2 < bg ∨ en < p.1
  pos : bg < en
  le : en ≤ 8
theorem fold_ok : ∀ (ps : List Pc) (k : Nat) (fs : List Pc) (bg en : Nat), Gap k ps → FoldOk fs bg en k → ∃ k', FoldOk (ps.foldl addStep (fs, bg, en)).1 (ps.foldl addStep (fs, bg, en)).2.1 (ps.foldl addStep (fs, bg, en)).2.2 k'
  | [], k, _, _, _, _, h => ⟨k, h⟩
  | (s, t) :: r, k, fs, bg, en, ⟨h1, h2, h3, h4⟩, h => by
    obtain ⟨a, b, c, d, e⟩ := h
    rw [List.foldl_cons]
    by_cases q : t < bg ∨ en < s
    · have e1 : addStep (fs, bg, en) (s, t) = (fs ++ [(s, t)], bg, en) := if_pos q
      rw [e1]
      refine fold_ok r (t + 1) _ _ _ h4 ⟨gap_snoc a (fun p hp => by have := b p hp; show p.2 < s; omega) (Nat.zero_le _) h2 h3, fun p hp => ?_, fun p hp => ?_, d, e⟩
      · rcases List.mem_append.mp hp with hp | hp
        · have := b p hp; omega
        · rw [List.mem_singleton.mp hp]; exact Nat.lt_succ_self _
      · rcases List.mem_append.mp hp with hp | hp
        · exact c p hp
        · rw [List.mem_singleton.mp hp]; exact q
    · have e1 : addStep (fs, bg, en) (s, t) = (fs, min bg s, max en t) := if_neg q
      rw [e1]
      refine fold_ok r (t + 1) _ _ _ h4 ⟨a, fun p hp => by have := b p hp; omega, fun p hp => ?_, by omega, by omega⟩
      have := b p hp
      have := c p hp
      have := gap_mem a p hp
      omega
theorem fold_cov : ∀ (ps : List Pc) (k : Nat) (fs : List Pc) (bg en : Nat), Gap k ps → bg < en → ∀ x, (Cov (ps.foldl addStep (fs, bg, en)).1 x ∨ ((ps.foldl addStep (fs, bg, en)).2.1 ≤ x ∧ x < (ps.foldl addStep (fs, bg, en)).2.2)) ↔ Cov ps x ∨ Cov fs x ∨ (bg ≤ x ∧ x < en)
  | [], _, fs, bg, en, _, _, x => by simp [cov_nil]
  | (s, t) :: r, k, fs, bg, en, ⟨h1, h2, h3, h4⟩, hlt, x => by
    rw [List.foldl_cons]
    by_cases q : t < bg ∨ en < s
    · have e1 : addStep (fs, bg, en) (s, t) = (fs ++ [(s, t)], bg, en) := if_pos q
      rw [e1, fold_cov r (t + 1) _ _ _ h4 hlt x, cov_cons, cov_app, cov_cons]
      simp only [cov_nil, or_false]
      constructor
      · rintro (h | (h | h) | h) <;> simp [h]
      · rintro ((h | h) | h | h) <;> simp [h]
    · have e1 : addStep (fs, bg, en) (s, t) = (fs, min bg s, max en t) := if_neg q
      rw [e1, fold_cov r (t + 1) _ _ _ h4 (by omega) x, cov_cons]
      have e2 : (min bg s ≤ x ∧ x < max en t) ↔ (s ≤ x ∧ x < t) ∨ (bg ≤ x ∧ x < en) := by omega
      rw [e2]
      constructor
      · rintro (h | h | h | h) <;> simp [h]
      · rintro ((h | h) | h | h) <;> simp [h]
theorem ins_cov {y : Pc} : ∀ {ps : List Pc} {x : Nat}, Cov (ins y ps) x ↔ (y.1 ≤ x ∧ x < y.2) ∨ Cov ps x
  | [], x => by simp only [ins, cov_cons]
  | p :: r, x => by
    unfold ins
    split
    · rw [cov_cons, ins_cov, cov_cons]
      constructor
      · rintro (h | h | h) <;> simp [h]
      · rintro (h | h | h) <;> simp [h]
    · rw [cov_cons]
theorem ins_gap {y : Pc} : ∀ {ps : List Pc} {k : Nat}, Gap k ps → (∀ p ∈ ps, p.2 < y.1 ∨ y.2 < p.1) → k ≤ y.1 → y.1 < y.2 → y.2 ≤ 8 → Gap k (ins y ps)
  | [], _, _, _, h1, h2, h3 => ⟨h1, h2, h3, trivial⟩
  | (s, e) :: r, k, ⟨g1, g2, g3, g4⟩, hp, h1, h2, h3 => by
    unfold ins
    have q := hp (s, e) (.head _)
    dsimp only at q
    split
    · refine ⟨g1, g2, g3, ins_gap g4 (fun p h => hp p (.tail _ h)) ?_ h2 h3⟩
      (rename s < y.1 => z)
      omega
    · refine ⟨h1, h2, h3, ?_, g2, g3, g4⟩
      (rename ¬ _ => z)
      dsimp only at z
      omega
theorem add_gap {ps : List Pc} {b e : Nat} (h : Gap 0 ps) (he : e ≤ 8) : Gap 0 (addP ps b e) := by
  unfold addP
  split
  · exact h
  · (rename ¬ _ => z)
    obtain ⟨k, a, _, c, d, f⟩ := fold_ok ps 0 [] b e h ⟨trivial, (fun _ h => nomatch h), (fun _ h => nomatch h), by omega, he⟩
    exact ins_gap a c (Nat.zero_le _) d f
theorem add_cov {ps : List Pc} {b e x : Nat} (h : Gap 0 ps) : Cov (addP ps b e) x ↔ Cov ps x ∨ (b ≤ x ∧ x < e) := by
  unfold addP
  split
  · (rename e ≤ b => z)
    constructor
    · exact .inl
    · rintro (h | h)
      · exact h
      · omega
  · (rename ¬ _ => z)
    have := fold_cov ps 0 [] b e h (by omega) x
    simp only [cov_nil, false_or] at this
    rw [ins_cov, ← this]
    exact or_comm
theorem join_eq {bg en s1 e1 : Nat} {k1 k2 : Int} {P1 P2 : Array UInt8} (hbe : bg ≤ en) (hse : s1 ≤ e1) (h1 : ¬ e1 < bg) (h2 : ¬ en < s1) (hk1 : k1.toNat = s1 - bg) (h01 : 0 ≤ k1) (hP1 : P1 = KBy.picked (D bg en) none (some k1)) (hk2 : k2 = (e1 : Int) - bg) (hP2 : P2 = KBy.picked (D bg en) (some k2) none) :
    P1 ++ D s1 e1 ++ P2 = D (min bg s1) (max en e1) := by
  subst hk2
  rw [hP1, hP2, picked_to h01, picked_from hbe (Int.sub_nonneg_of_le (Int.ofNat_le.mpr (Nat.le_of_not_lt h1))), hk1]
  have e2 : min en (bg + (s1 - bg)) = max bg s1 := by
    rcases Nat.le_total bg s1 with q | q
    · rw [Nat.add_sub_cancel' q, Nat.max_eq_right q, Nat.min_eq_right (Nat.le_of_not_lt h2)]
    · rw [Nat.sub_eq_zero_of_le q, Nat.add_zero, Nat.max_eq_left q, Nat.min_eq_right hbe]
  have e3 : min en (bg + ((e1 : Int) - bg).toNat) = min en e1 := by rw [Int.toNat_sub, Nat.add_sub_cancel' (Nat.le_of_not_lt h1)]
  rw [e2, e3]
  have e4 : D bg (max bg s1) ++ D s1 e1 = D (min bg s1) e1 := by
    by_cases q : s1 ≤ bg
    · rw [Nat.max_eq_left q, D_none (Nat.le_refl _), Nat.min_eq_right q]; simp
    · have q' : bg ≤ s1 := Nat.le_of_lt (Nat.lt_of_not_le q)
      rw [Nat.max_eq_right q', D_app q' hse, Nat.min_eq_left q']
  rw [e4]
  by_cases q : e1 ≤ en
  · rw [Nat.min_eq_right q, D_app (Nat.le_trans (Nat.min_le_right _ _) hse) q, Nat.max_eq_left q]
  · have q' : en ≤ e1 := Nat.le_of_lt (Nat.lt_of_not_le q)
    rw [Nat.min_eq_left q', D_none (Nat.le_refl _), Nat.max_eq_right q']; simp
end
-- part One
section
section
variable {prog : Program} {w : World} {A : Around} {E : Value → Shared → Prop} {s : Shared} {h₀ : Heap} {L a b : Addr} {m : Str → Option Value} {news : Led} {vs ws : List Value} {n k : Nat} {Q : Value → Shared → Prop}
-- two lists, one behind the other
theorem cat_any (F : Fr h₀ L s.heap m) (N : News h₀ L s.heap news) (ha : (a, listOf vs.toArray n) ∈ news) (hb : (b, listOf ws.toArray k) ∈ news) (hz : vs.length ≤ 1000) (hz2 : ws.length ≤ 1000)
    (h : ∀ D h', Fr h₀ L h' m → News h₀ L h' ((D, listOf (vs ++ ws).toArray 0) :: news) → (∀ p ∈ news, p.1 < D) → Q (.ref D) { s with heap := h' }) : wpAny (model prog w) A (binaryOp .Add (.ref a) (.ref b)) Q E s :=
  kmk_add_lit F N (N.isList ha) (N.isList hb) rfl h (by show vs.length + ws.length ≤ _; exact Nat.le_trans (Nat.add_le_add hz hz2) (by decide))
theorem one_sort {x : Value} {P : PySem.Fin → Shared → Prop} (F : Fr h₀ L s.heap m) (N : News h₀ L s.heap news) (ho : s.heap.get? a = some (seqObj "list" [x].toArray n)) (haL : a ≠ L) (ha0 : h₀.get? a = none) (hna : ∀ p ∈ news, p.1 ≠ a)
    (h : ∀ c h', Fr h₀ L h' m → News h₀ L h' ((a, listOf [x].toArray c) :: news) → P (.done (.ret .none)) { s with heap := h' }) :
    wpAny (model prog w) A (Builtin.«list.sort» ⟨[.ref a], []⟩) P E s := by
  have ha : a < s.heap.objs.size := Heap.lt_size ho
  have s1 := Heap.SameBut.update s.heap a (Obj.mapSeq fun _ => (#[] : Array Value))
  obtain ⟨e1, ho1⟩ : ∃ e1, (s.heap.update a (Obj.mapSeq fun _ => (#[] : Array Value))).get? a = some (seqObj "list" #[] e1) := ⟨_, get?_update_seq ho fun _ => #[]⟩
  have F3 : Fr h₀ L (((s.heap.update a (Obj.mapSeq fun _ => (#[] : Array Value))).push (seqObj "tuple" [x].toArray 0)).push (seqObj "list" #[] 0)) m := ((kas_fr F s1 haL ha0).push _).push _
  have N2 : News h₀ L (((s.heap.update a (Obj.mapSeq fun _ => (#[] : Array Value))).push (seqObj "tuple" [x].toArray 0)).push (seqObj "list" #[] 0)) news :=
    (kas_news N s1 hna).grown fun b x e => Heap.get?_push_of_some _ (Heap.get?_push_of_some _ e)
  have ho6 : (((s.heap.update a (Obj.mapSeq fun _ => (#[] : Array Value))).push (seqObj "tuple" [x].toArray 0)).push (seqObj "list" #[] 0)).get? a = some (seqObj "list" #[] e1) :=
    Heap.get?_push_of_some _ (Heap.get?_push_of_some _ ho1)
  rw [list_sort_plain]
  refine wpAny_bind (listItems_at ho rfl ?_)
  refine wpAny_bind (listUpdate_at ho rfl ?_ (by rw [sizeLine_eq]; exact (by decide : 1 ≤ 16777216)) (Nat.zero_le _))
  refine wpAny_bind (seqEpoch_at ho1 rfl ?_)
  refine wpAny_bind (wpAny_newTuple ?_ (by show 1 ≤ _; rw [sizeLine_eq]; omega))
  refine wpAny_bind (wpAny_newList ?_ (Nat.zero_le _))
  refine wpAny_holding ?_
  show wpAny (model prog w) A _ P E { s with heap := ((s.heap.update a (Obj.mapSeq fun _ => (#[] : Array Value))).push (seqObj "tuple" [x].toArray 0)).push (seqObj "list" #[] 0) }
  dsimp only
  have h2 : [x].toArray.size < 2 := Nat.lt_succ_self 1
  rw [if_pos h2, if_pos h2]
  refine wpAny_bind (wpAny_pure ?_)
  rw [StateT.run_pure]
  refine wpAny_bind (wpAny_pure ?_)
  dsimp only
  refine wpAny_bind (seqEpoch_at ho6 rfl ?_)
  have sz : ((arrOf (SortSt.mk' general' ([x].toArray.zip [x].toArray) #[] 7 none)).map (·.2)) = [x].toArray := by
    show ([x].toArray.zip [x].toArray).map (·.2) = _
    simp
  rw [sz]
  have s2 := Heap.SameBut.update (((s.heap.update a (Obj.mapSeq fun _ => (#[] : Array Value))).push (seqObj "tuple" [x].toArray 0)).push (seqObj "list" #[] 0)) a (Obj.mapSeq fun _ => [x].toArray)
  obtain ⟨c2, hc2⟩ : ∃ c2, ((((s.heap.update a (Obj.mapSeq fun _ => (#[] : Array Value))).push (seqObj "tuple" [x].toArray 0)).push (seqObj "list" #[] 0)).update a (Obj.mapSeq fun _ => [x].toArray)).get? a = some (seqObj "list" [x].toArray c2) := ⟨_, get?_update_seq ho6 fun _ => [x].toArray⟩
  refine wpAny_bind (listUpdate_at ho6 rfl ?_ (Nat.zero_le _) (by rw [sizeLine_eq]; exact (by decide : 1 ≤ 16777217)))
  simp only [bne_self_eq_false, Bool.false_eq_true, if_false]
  refine wpAny_pure (h c2 _ (kas_fr F3 s2 haL ha0) fun p hp => ?_)
  rcases List.mem_cons.mp hp with rfl | hp
  · exact ⟨hc2, haL, ha0⟩
  · exact ⟨s2.extBut _ _ (hna p hp) (N2 p hp).1, (N2 p hp).2⟩
theorem one_sorted {l : Addr} {x : Value} (F : Fr h₀ L s.heap m) (N : News h₀ L s.heap news) (hl : s.heap.IsList l [x].toArray)
    (h : ∀ D c h', Fr h₀ L h' m → News h₀ L h' ((D, listOf [x].toArray c) :: news) → (∀ q ∈ news, q.1 < D) → Q (.ref D) { s with heap := h' }) :
    wpAny (model prog w) A (call (.builtin "sorted") [.ref l]) Q E s := by
  refine Calls.call_function_entry kind_sorted plain_sorted entry_sorted (args_sorted1 _) ?_
  unfold Builtin.«sorted»
  refine wpAny_bind (m := checkCount "sorted" 1 1 _) (wpAny_pure ?_)
  refine wpAny_bind (collect_list hl ?_ (by rw [sizeLine_eq]; exact (by decide : 1 ≤ 16777216)))
  refine wpAny_bind (wpAny_newList ?_ (by rw [sizeLine_eq]; exact (by decide : 1 ≤ 16777216)))
  have hsz : ((s.heap.push (seqObj "list" #[] 0)).update s.heap.objs.size (Obj.mapSeq (· ++ [x].toArray))).objs.size = s.heap.objs.size + 1 := by
    rw [Heap.size_update, size_push']
  have hoL : (((s.heap.push (seqObj "list" #[] 0)).update s.heap.objs.size (Obj.mapSeq (· ++ [x].toArray))).push (seqObj "list" [x].toArray 0)).get? (s.heap.objs.size + 1) = some (seqObj "list" [x].toArray 0) := by
    rw [← hsz]; exact Heap.get?_push_size _ rfl
  have keep : ∀ b o, s.heap.get? b = some o → (((s.heap.push (seqObj "list" #[] 0)).update s.heap.objs.size (Obj.mapSeq (· ++ [x].toArray))).push (seqObj "list" [x].toArray 0)).get? b = some o := fun b o q => by
    have hlt : b < s.heap.objs.size := Heap.lt_size q
    rw [Heap.get?_push_ne _ _ _ (by rw [hsz]; exact Nat.ne_of_lt (Nat.lt_succ_of_lt hlt)), Heap.get?_update_ne _ _ _ _ (Nat.ne_of_lt hlt), Heap.get?_push_ne _ _ _ (Nat.ne_of_lt hlt)]
    exact q
  have hL : L < s.heap.objs.size := F.ns.lt
  show wpAny _ _ _ _ _ { s with heap := ((s.heap.push (seqObj "list" #[] 0)).update s.heap.objs.size (Obj.mapSeq (· ++ [x].toArray))).push (seqObj "list" [x].toArray 0) }
  rw [hsz]
  refine wpAny_bind (wpAny_holding (wpAny_call_entry slot_list_sort ⟨_, hoL, rfl⟩ entry_list_sort ?body (args_list_sort _)))
  case body =>
    refine one_sort (s := { s with heap := ((s.heap.push (seqObj "list" #[] 0)).update s.heap.objs.size (Obj.mapSeq (· ++ [x].toArray))).push (seqObj "list" [x].toArray 0) })
      (F.kept keep) (N.grown keep) hoL (Nat.ne_of_gt (Nat.lt_succ_of_lt hL)) (Heap.get?_none_of_le (Nat.le_trans F.above (Nat.le_succ_of_le (Nat.le_of_lt hL))))
      (fun p hp => Nat.ne_of_lt (Nat.lt_succ_of_lt (Heap.lt_size (N p hp).1))) fun c h' F' N' => ?_
    exact ⟨_, rfl, wpAny_pure ⟨_, rfl, h _ c h' F' N' fun q hq => Nat.lt_succ_of_lt (Heap.lt_size (N q hq).1)⟩⟩
end
end
-- part Meth
section
-- what stands at an address of a ledger stands there once
noncomputable def Once (l : Led) : Prop := ∀ p ∈ l, ∀ q ∈ l, p.1 = q.1 → p.2 = q.2
theorem once_of {h₀ h : Heap} {L : Addr} {l : Led} (N : News h₀ L h l) : Once l := fun p hp q hq e => by
  have a := (N p hp).1
  have b := (N q hq).1
  rw [e, b] at a
  exact (Option.some.inj a).symm
-- all but the dicts are kept
noncomputable def KeepND (l l' : Led) : Prop := ∀ p ∈ l, p.2.cls ≠ .type "dict" → p ∈ l'
theorem KeepND.refl {l : Led} : KeepND l l := fun _ h _ => h
theorem KeepND.trans {a b c : Led} (h : KeepND a b) (k : KeepND b c) : KeepND a c := fun p hp hc => k p (h p hp hc) hc
theorem KeepND.more {a b c : Led} (h : KeepND a b) (k : ∀ p ∈ b, p ∈ c) : KeepND a c := fun p hp hc => k p (h p hp hc)
theorem PcAt.keep {led led' : Led} {v : Value} {x : Pc} (h : PcAt led v x) (hk : KeepND led led') : PcAt led' v x :=
  let ⟨a, n, t, u, e, hm⟩ := h; ⟨a, n, t, u, e, hk _ hm (show Value.type "tuple" ≠ .type "dict" by decide)⟩
theorem PcsAt.keep {led led' : Led} {pl : Addr} {ps : List Pc} (h : PcsAt led pl ps) (hk : KeepND led led') : PcsAt led' pl ps :=
  let ⟨vs, n, hm, ha⟩ := h; ⟨vs, n, hk _ hm (show Value.type "list" ≠ .type "dict" by decide), All2.mono (fun _ _ q => q.keep hk) ha⟩
theorem PcsAt.mono {led led' : Led} {pl : Addr} {ps : List Pc} (h : PcsAt led pl ps) (hs : ∀ p ∈ led, p ∈ led') : PcsAt led' pl ps := h.keep fun p hp _ => hs p hp
theorem WdAt.keep {led led' : Led} {v : Value} {x : Wd} (h : WdAt led v x) (hk : KeepND led led') : WdAt led' v x :=
  let ⟨a, n, t1, t2, e, hm⟩ := h; ⟨a, n, t1, t2, e, hk _ hm (show Value.type "tuple" ≠ .type "dict" by decide)⟩
theorem WdsAt.keep {led led' : Led} {vs : List Value} {xs : List Wd} (h : WdsAt led vs xs) (hk : KeepND led led') : WdsAt led' vs xs := All2.mono (fun _ _ q => q.keep hk) h
theorem PartAt.dict {w : World} {σ : PSt} {o : Obj} (h : PartAt w σ o) : o.cls = .type "dict" := by
  obtain ⟨_, _, _, _, _, _, _, _, _, _, _, _, _, _, _, rfl, _⟩ := h
  rfl
theorem updF_iff {d : Addr} {o : Obj} {news : Led} {g : Obj → Led} (Up : UpdF d o news g) : ∃ rest : Led, (∀ p ∈ rest, p.1 ≠ d) ∧ (∀ p, p ∈ news ↔ p ∈ (d, o) :: rest) ∧ ∀ o' p, p ∈ g o' ↔ p ∈ (d, o') :: rest := by
  obtain ⟨pre, post, rfl, hg, h1, h2⟩ := Up.split
  refine ⟨pre ++ post, fun p hp => (List.mem_append.mp hp).elim (h1 p) (h2 p), fun p => ?_, fun o' p => ?_⟩
  · simp only [List.mem_append, List.mem_cons]
    constructor <;> rintro (h | h | h) <;> simp [h]
  · rw [hg]
    simp only [List.mem_append, List.mem_cons]
    constructor <;> rintro (h | h | h) <;> simp [h]
section
variable {w : World} {f : Addr} {args : List Value} {news : Led} {DD U : Nat} {d : Addr} {o : Obj} {g : Obj → Led} {P : Value → Obj → Led → Prop}
theorem Fn.updK (hmono : ∀ r o' m m', (∀ p ∈ m, p ∈ m') → P r o' m → P r o' m') (hoD : o.cls = .type "dict") (Up : UpdF d o news g)
    (C : ∀ rest, (∀ p ∈ rest, p.1 ≠ d) → KeepND news rest → (∀ p ∈ rest, p ∈ news) →
      Fn w f args ((d, o) :: rest) DD U fun r n => ∃ o' new, n = new ++ (d, o') :: rest ∧ Fresh new ((d, o) :: rest) ∧ P r o' n) :
    Fn w f args news DD U fun r n => ∃ o' new, n = new ++ g o' ∧ Fresh new news ∧ KeepND news n ∧ P r o' n := by
  obtain ⟨rest, hoff, hn, hg⟩ := updF_iff Up
  intro p loose mean mg mb dp un gd cn cs a ccd cl outer A₀ base h₀ L m s Q E B F X N T hk hd hu hret
  have on := once_of N
  have kd : KeepND news rest := fun p hp hc => by
    rcases List.mem_cons.mp ((hn p).mp hp) with rfl | h
    · exact absurd hoD hc
    · exact h
  refine C rest hoff kd (fun p hp => (hn p).mpr (.tail _ hp)) _ _ _ _ _ _ _ _ _ _ _ _ _ _ _ _ _ _ _ _ _ _ B F X (fun p hp => N p ((hn p).mpr hp)) T hk hd hu fun r n h' tk' F' N' q => ?_
  obtain ⟨o', new, rfl, hf, hP⟩ := q
  have sub : ∀ p ∈ new ++ (d, o') :: rest, p ∈ new ++ g o' := fun p hp => (List.mem_append.mp hp).elim (fun h => List.mem_append_left _ h) fun h => List.mem_append_right _ ((hg o' p).mpr h)
  have sub' : ∀ p ∈ new ++ g o', p ∈ new ++ (d, o') :: rest := fun p hp => (List.mem_append.mp hp).elim (fun h => List.mem_append_left _ h) fun h => List.mem_append_right _ ((hg o' p).mp h)
  exact hret r (new ++ g o') h' tk' F' (fun p hp => N' p (sub' p hp)) ⟨o', new, rfl, fun p hp q hq => hf p hp q ((hn q).mp hq), fun p hp hc => List.mem_append_right _ ((hg o' p).mpr (.tail _ (kd p hp hc))), hmono _ _ _ _ sub hP⟩
theorem raisedX_sub {base G h : Heap} {l : List Env} {e d : Addr} {n n' : Led} (R : RaisedX base G l e d n h) (hs : ∀ p ∈ n', p ∈ n) : RaisedX base G l e d n' h := by
  obtain ⟨B, a, b, c, f⟩ := R
  exact ⟨B, a, b, fun q hq => c q (hs q hq), f⟩
theorem FnE.updK {Exc : List DictEntry → Prop} (hmono : ∀ r o' m m', (∀ p ∈ m, p ∈ m') → P r o' m → P r o' m') (hoD : o.cls = .type "dict") (Up : UpdF d o news g)
    (C : ∀ rest, (∀ p ∈ rest, p.1 ≠ d) → KeepND news rest → (∀ p ∈ rest, p ∈ news) →
      FnE w f args ((d, o) :: rest) DD U (fun r n => ∃ o' new, n = new ++ (d, o') :: rest ∧ Fresh new ((d, o) :: rest) ∧ P r o' n) Exc) :
    FnE w f args news DD U (fun r n => ∃ o' new, n = new ++ g o' ∧ Fresh new news ∧ KeepND news n ∧ P r o' n) Exc := by
  obtain ⟨rest, hoff, hn, hg⟩ := updF_iff Up
  intro p loose mean mg mb dp un gd cn cs a ccd cl outer A₀ base h₀ L m s Q E B F X N T hk hd hu hret hexc
  have on := once_of N
  have kd : KeepND news rest := fun p hp hc => by
    rcases List.mem_cons.mp ((hn p).mp hp) with rfl | h
    · exact absurd hoD hc
    · exact h
  refine C rest hoff kd (fun p hp => (hn p).mpr (.tail _ hp)) _ _ _ _ _ _ _ _ _ _ _ _ _ _ _ _ _ _ _ _ _ _ B F X (fun p hp => N p ((hn p).mpr hp)) T hk hd hu (fun r n h' tk' F' N' q => ?_) fun e d' es g' h' tk' F' R U' x => hexc e d' es g' h' tk' F' (raisedX_sub R fun p hp => ?_) U' x
  · obtain ⟨o', new, rfl, hf, hP⟩ := q
    have sub : ∀ p ∈ new ++ (d, o') :: rest, p ∈ new ++ g o' := fun p hp => (List.mem_append.mp hp).elim (fun h => List.mem_append_left _ h) fun h => List.mem_append_right _ ((hg o' p).mpr h)
    have sub' : ∀ p ∈ new ++ g o', p ∈ new ++ (d, o') :: rest := fun p hp => (List.mem_append.mp hp).elim (fun h => List.mem_append_left _ h) fun h => List.mem_append_right _ ((hg o' p).mp h)
    exact hret r (new ++ g o') h' tk' F' (fun p hp => N' p (sub' p hp)) ⟨o', new, rfl, fun p hp q hq => hf p hp q ((hn q).mp hq), fun p hp hc => List.mem_append_right _ ((hg o' p).mpr (.tail _ (kd p hp hc))), hmono _ _ _ _ sub hP⟩
  · rcases List.mem_cons.mp hp with rfl | h
    · exact .head _
    · exact .tail _ ((hn p).mp h)
end
-- where a part's pieces lie: where they lay, or at a place that is new
noncomputable def PlF (news : Led) (pl pl' : Addr) : Prop := pl' = pl ∨ ∀ q ∈ news, q.2.cls ≠ .type "dict" → q.1 ≠ pl'
theorem PlF.ne {news rest : Led} {pl pl' : Addr} (hin : KeepND news rest) (h : ∀ q ∈ rest, q.1 ≠ pl') : PlF news pl pl' := .inr fun q hq hc => h q (hin q hq hc)
theorem PlF.of {news rest new : Led} {d pl pl' : Addr} {o : Obj} (hin : KeepND news rest) (hf : Fresh new ((d, o) :: rest)) (hm : ∃ ol, (pl', ol) ∈ new) : PlF news pl pl' := .inr fun q hq hc e => by
  obtain ⟨ol, hm⟩ := hm
  exact hf _ hm q (.tail _ (hin q hq hc)) e.symm
theorem PlF.mono {news n' : Led} {pl pl' : Addr} (h : PlF news pl pl') (hs : ∀ p ∈ n', p ∈ news) : PlF n' pl pl' := h.imp id fun k q hq hc => k q (hs q hq) hc
-- the six states
noncomputable def Stt (s : String) : Prop := s = "recv" ∨ s = "size_known" ∨ s = "data_recvd" ∨ s = "data_read" ∨ s = "reset_recvd" ∨ s = "reset_read"
-- a part in order, its pieces ps, read up to c
structure Ok (w : World) (n : Led) (σ : PSt) (ps : List Pc) (c : Nat) (o : Obj) : Prop where
  part : PartAt w σ o
  pcs : PcsAt n σ.pl ps
  gap : Gap 0 ps
  rd : σ.rd = (c : Int)
  c8 : c ≤ 8
  st : Stt σ.st
theorem Ok.mono {w : World} {n n' : Led} {σ : PSt} {ps : List Pc} {c : Nat} {o : Obj} (h : Ok w n σ ps c o) (hs : ∀ p ∈ n, p ∈ n') : Ok w n' σ ps c o := ⟨h.part, h.pcs.mono hs, h.gap, h.rd, h.c8, h.st⟩
theorem allLt_ne1 {d a : Nat} {l : Led} (h : (@LT.lt Nat _ a d) ∧ AllLt d l) : ∀ p ∈ l, p.1 ≠ d := allLt_ne h.2
theorem allLt_ne2 {d a b : Nat} {l : Led} (h : (@LT.lt Nat _ a d) ∧ (@LT.lt Nat _ b d) ∧ AllLt d l) : ∀ p ∈ l, p.1 ≠ d := allLt_ne h.2.2
theorem allLt_ne3 {d a b c : Nat} {l : Led} (h : (@LT.lt Nat _ a d) ∧ (@LT.lt Nat _ b d) ∧ (@LT.lt Nat _ c d) ∧ AllLt d l) : ∀ p ∈ l, p.1 ≠ d := allLt_ne h.2.2.2
theorem allLt_ne4 {d a b c e : Nat} {l : Led} (h : (@LT.lt Nat _ a d) ∧ (@LT.lt Nat _ b d) ∧ (@LT.lt Nat _ c d) ∧ (@LT.lt Nat _ e d) ∧ AllLt d l) : ∀ p ∈ l, p.1 ≠ d := allLt_ne h.2.2.2.2
theorem lt_ne' {d : Nat} {l : Led} (h : ∀ p ∈ l, p.1 < d) : ∀ p ∈ l, p.1 ≠ d := fun p hp => Nat.ne_of_lt (h p hp)
end
-- part Sts
section
-- a state of unknown name looked for among the two open ones
noncomputable def stsIn (x : String) : Bool := Str.ofString "recv" == Str.ofString x || Str.ofString "size_known" == Str.ofString x
theorem stsIn_open {x : String} (h : x = "recv" ∨ x = "size_known") : stsIn x = true := by rcases h with rfl | rfl <;> decide
theorem stsIn_not {x : String} (hs : Stt x) (h : ¬ (x = "recv" ∨ x = "size_known")) : stsIn x = false := by
  rcases hs with rfl | rfl | rfl | rfl | rfl | rfl <;> first | decide | exact absurd (by simp) h
section
variable {prog : Program} {w : World} {A : Around} {E : Value → Shared → Prop} {s : Shared} {h₀ : Heap} {L a : Addr} {news : Led} {n : Nat} {Q : Value → Shared → Prop}
noncomputable def strHit (x : Str) : Value → Bool
  | .str y _ => y == x
  | _ => false
theorem notin_sts {x : String} {b : Bool} {t t1 t2 : Tok} (N : News h₀ L s.heap news) (ha : (a, tupN #[.str (Str.ofString "recv") t1, .str (Str.ofString "size_known") t2] n) ∈ news) (hb : stsIn x = b) (h : Q (.bool (!b)) s) :
    wpAny (model prog w) A (compareOp .NotIn (.str (Str.ofString x) t) (.ref a)) Q E s := by
  refine SeqAt.notIn_tupleAt (strHit (Str.ofString x)) ⟨_, (N _ ha).1, rfl, _, rfl⟩ (fun y hy => ?_) ?_
  · have hy' : y = .str (Str.ofString "recv") t1 ∨ y = .str (Str.ofString "size_known") t2 := by simpa using hy
    rcases hy' with rfl | rfl
    · exact SeqAt.EqAt.str_str _ _ _ _
    · exact SeqAt.EqAt.str_str _ _ _ _
  · subst hb
    simpa [strHit, stsIn] using h
theorem in_sts {x : String} {b : Bool} {t t1 t2 : Tok} (N : News h₀ L s.heap news) (ha : (a, tupN #[.str (Str.ofString "recv") t1, .str (Str.ofString "size_known") t2] n) ∈ news) (hb : stsIn x = b) (h : Q (.bool b) s) :
    wpAny (model prog w) A (compareOp .In (.str (Str.ofString x) t) (.ref a)) Q E s := by
  refine SeqAt.in_tupleAt (strHit (Str.ofString x)) ⟨_, (N _ ha).1, rfl, _, rfl⟩ (fun y hy => ?_) ?_
  · have hy' : y = .str (Str.ofString "recv") t1 ∨ y = .str (Str.ofString "size_known") t2 := by simpa using hy
    rcases hy' with rfl | rfl
    · exact SeqAt.EqAt.str_str _ _ _ _
    · exact SeqAt.EqAt.str_str _ _ _ _
  · subst hb
    simpa [strHit, stsIn] using h
end
end
-- part Join
section
-- a mark: the walk stops at an if
noncomputable def HaltIf : Prop := True
noncomputable def JnPost (Q : Flow → Shared → Prop) (End : Shared → Prop) (f : Flow) (s : Shared) : Prop := match f with
  | .next => End s
  | f => Q f s
noncomputable def JnEnd (s : Shared) (h₀ : Heap) (L : Addr) (J : (Str → Option Value) → Led → Prop) (s₃ : Shared) : Prop :=
  ∃ h' tk' m' news', s₃ = { s with heap := h', toks := tk' } ∧ Fr h₀ L h' m' ∧ News h₀ L h' news' ∧ J m' news'
theorem JnEnd.intro {s : Shared} {h₀ h' : Heap} {L : Addr} {J : (Str → Option Value) → Led → Prop} {m' : Str → Option Value} {news' : Led} {tk' : Nat} (F : Fr h₀ L h' m') (N : News h₀ L h' news') (hj : J m' news') : JnEnd s h₀ L J { s with heap := h', toks := tk' } := ⟨h', tk', m', news', rfl, F, N, hj⟩
theorem join_if {M : Model} {A : Around} {E : Value → Shared → Prop} {s : Shared} {Q : Flow → Shared → Prop} {t : Sem Flow} {h₀ : Heap} {L : Addr} (J : (Str → Option Value) → Led → Prop)
    (h : wpAny M A t (JnPost Q (JnEnd s h₀ L J)) E s)
    (k : ∀ h' tk' m' news', Fr h₀ L h' m' → News h₀ L h' news' → J m' news' → Q .next { s with heap := h', toks := tk' }) : wpAny M A t Q E s :=
  wpAny_mono h (fun f s' q => by
    cases f with
    | next =>
      refine goalAside fun Xg kg => ?_
      obtain ⟨h', tk', m', n', rfl, F, N, j⟩ := q
      refine kg ?_
      clear kg Xg
      exact k h' tk' m' n' F N j
    | ret v => exact q
    | brk => exact q
    | cont => exact q) fun _ _ e => e
theorem join_ifM {M : Model} {A : Around} {E : Value → Shared → Prop} {s : Shared} {Q : Flow → Shared → Prop} {t : Sem Flow} {h₀ : Heap} {L : Addr} {m : Str → Option Value} (F : Fr h₀ L s.heap m) (J : Led → Prop)
    (h : wpAny M A t (JnPost Q (JnEnd s h₀ L fun m' n => m' = m ∧ J n)) E s)
    (k : ∀ h' tk' n, Fr h₀ L h' m → News h₀ L h' n → J n → Q .next { s with heap := h', toks := tk' }) : wpAny M A t Q E s :=
  join_if (fun m' n => m' = m ∧ J n) h fun h' tk' m' n F N ⟨e, j⟩ => k h' tk' n (e ▸ F) N j
theorem Fresh.obj {new r : Led} {d : Addr} {o o' : Obj} (h : Fresh new ((d, o) :: r)) : Fresh new ((d, o') :: r) := fun p hp q hq => by
  rcases List.mem_cons.mp hq with rfl | hq
  · exact h p hp (d, o) (.head _)
  · exact h p hp q (.tail _ hq)
theorem Fresh.appl {a b r : Led} (h : Fresh a (b ++ r)) (k : Fresh b r) : Fresh (a ++ b) r := fun p hp q hq => (List.mem_append.mp hp).elim (fun hp => h p hp q (List.mem_append_right _ hq)) fun hp => k p hp q hq
theorem keepND_obj {a r : Led} {d : Addr} {es es' : List DictEntry} {n n' : Nat} : KeepND (a ++ (d, dictOf es n) :: r) (a ++ (d, dictOf es' n') :: r) := fun p hp hc => by
  rcases List.mem_append.mp hp with h | h
  · exact List.mem_append_left _ h
  · rcases List.mem_cons.mp h with rfl | h
    · exact absurd rfl hc
    · exact List.mem_append_right _ (.tail _ h)
theorem upd_app {d : Addr} {o o' : Obj} : ∀ {pre l l' : Led}, (∀ p ∈ pre, p.1 ≠ d) → Upd d o o' l l' → Upd d o o' (pre ++ l) (pre ++ l')
  | [], _, _, _, U => U
  | _ :: _, _, _, h, U => .tail (h _ (.head _)) (upd_app (fun p hp => h p (.tail _ hp)) U)
theorem updF_app {d : Addr} {o : Obj} : ∀ {pre l : Led} {g : Obj → Led}, (∀ p ∈ pre, p.1 ≠ d) → UpdF d o l g → UpdF d o (pre ++ l) (fun o' => pre ++ g o')
  | [], _, _, _, U => U
  | _ :: _, _, _, h, U => .tail (h _ (.head _)) (updF_app (fun p hp => h p (.tail _ hp)) U)
end
-- part Eqs
section
noncomputable def dueC (ws : List Wd) (x : Wd) (lim : Int) : Option Int := if ws.any (fun y => contra y x) = true then some 6 else if lim < x.e then some 3 else none
noncomputable def frameR (x : Wd) : Int := if x.r then 4 else 8
noncomputable def Tup2 (n : Led) (r : Value) (k f : Int) : Prop := ∃ a m t1 t2, r = .ref a ∧ (a, tupN #[.int k t1, .int f t2] m) ∈ n
noncomputable def DueIs (n : Led) (r : Value) (o : Option Int) (f i : Int) : Prop := match o with
  | some k => Tup2 n r k f
  | none => ∃ t, r = .int i t
noncomputable def wdP (x : Wd) : PyData := .tuple [.bool x.r, .int x.b, .int x.e, .bool x.f]
theorem wdP_reads {h₀ h : Heap} {L : Addr} {news : Led} {v : Value} {x : Wd} (N : News h₀ L h news) (q : WdAt news v x) : Reads h v (wdP x) [] := by
  obtain ⟨a, n, t1, t2, rfl, hm⟩ := q
  exact Reads.tuple (N _ hm).1 rfl rfl (readsAll_cons_val (.bool _) (readsAll_cons_val (.int _ _) (readsAll_cons_val (.int _ _) (readsAll_cons_val (.bool _) .nil))))
theorem wds_reads {h₀ h : Heap} {L : Addr} {news : Led} (N : News h₀ L h news) : ∀ {vs : List Value} {ws : List Wd}, WdsAt news vs ws → ReadsAll h vs (ws.map wdP) []
  | _, _, .nil => .nil
  | _, _, .cons a r => readsAll_cons_val (wdP_reads N a) (wds_reads N r)
theorem wds_lay : ∀ ws : List Wd, PyData.canLayAll0 (ws.map wdP) = true ∧ PyData.depthAll (ws.map wdP) ≤ 4
  | [] => ⟨by simp [PyData.canLayAll0], by simp [PyData.depthAll]⟩
  | x :: r => by
    obtain ⟨a, b⟩ := wds_lay r
    refine ⟨?_, ?_⟩
    · simp [PyData.canLayAll0, PyData.canLay0, wdP, a]
    · simp only [List.map_cons, PyData.depthAll, wdP, PyData.depth]
      omega
theorem wds_shaped (ws : List Wd) : SeqAt.shaped (.list (ws.map wdP)) = true := by
  obtain ⟨a, b⟩ := wds_lay ws
  have h2 : PyData.depth (.list (ws.map wdP)) ≤ 64 := by simp only [PyData.depth]; omega
  show (PyData.canLay0 (.list (ws.map wdP)) && decide (PyData.depth (.list (ws.map wdP)) ≤ 64)) = true
  rw [Bool.and_eq_true]
  exact ⟨by simp only [PyData.canLay0]; exact a, decide_eq_true h2⟩
theorem wds_self : ∀ ws : List Wd, PyData.eqvAll (ws.map wdP) (ws.map wdP) = true
  | [] => by simp [PyData.eqvAll]
  | x :: r => by simp [PyData.eqvAll, PyData.eqv, wdP, wds_self r]
section
variable {prog : Program} {w : World} {A : Around} {E : Value → Shared → Prop} {s : Shared} {h₀ : Heap} {L a b : Addr} {news n₁ : Led} {vs us : List Value} {n m : Nat} {ws : List Wd} {Q : Value → Shared → Prop}
theorem ne_nil1 {v : Value} (N : News h₀ L s.heap news) (ha : (a, listOf (v :: vs).toArray n) ∈ news) (hb : (b, listOf #[] m) ∈ news) (hw : WdsAt n₁ (v :: vs) ws) (hs : ∀ p ∈ n₁, p ∈ news) (hu : A.units + 64 < cLine) (h : Q (.bool true) s) :
    wpAny (model prog w) A (compareOp .NotEq (.ref a) (.ref b)) Q E s := by
  refine ne_dataH (Reads.list (N _ ha).1 rfl rfl (wds_reads N (hw.mono hs))) (Reads.list (N _ hb).1 rfl rfl .nil) (wds_shaped ws) (wds_shaped []) hu ?_
  cases hw
  simp only [PyData.eqv, List.map_cons, PyData.eqvAll, Bool.not_false]
  exact h
theorem ne_wds (N : News h₀ L s.heap news) (ha : (a, listOf vs.toArray n) ∈ news) (hb : (b, listOf vs.toArray m) ∈ news) (hw : WdsAt n₁ vs ws) (hs : ∀ p ∈ n₁, p ∈ news) (hu : A.units + 64 < cLine) (h : Q (.bool false) s) :
    wpAny (model prog w) A (compareOp .NotEq (.ref a) (.ref b)) Q E s := by
  refine ne_dataH (Reads.list (N _ ha).1 rfl rfl (wds_reads N (hw.mono hs))) (Reads.list (N _ hb).1 rfl rfl (wds_reads N (hw.mono hs))) (wds_shaped ws) (wds_shaped ws) hu ?_
  simp only [PyData.eqv, wds_self, Bool.not_true]
  exact h
theorem ne_tup2 {k f : Int} {u v : Value} (N : News h₀ L s.heap news) (ha : Tup2 news u k f) (hb : Tup2 news v k f) (hu : A.units + 64 < cLine) (h : Q (.bool false) s) :
    wpAny (model prog w) A (compareOp .NotEq u v) Q E s := by
  obtain ⟨a, n, t1, t2, rfl, ma⟩ := ha
  obtain ⟨b, m, t3, t4, rfl, mb⟩ := hb
  have hsh : SeqAt.shaped (.tuple [.int k, .int f]) = true := by
    show (PyData.canLay0 _ && decide (PyData.depth _ ≤ 64)) = true
    simp [PyData.canLay0, PyData.canLayAll0, PyData.depth, PyData.depthAll]
  refine ne_dataH (Reads.tuple (N _ ma).1 rfl rfl (readsAll_cons_val (.int _ _) (readsAll_cons_val (.int _ _) .nil))) (Reads.tuple (N _ mb).1 rfl rfl (readsAll_cons_val (.int _ _) (readsAll_cons_val (.int _ _) .nil))) hsh hsh hu ?_
  simp only [PyData.eqv, PyData.eqvAll, beq_self_eq_true, Bool.and_true, Bool.not_true]
  exact h
end
end
-- part Loops2
section
-- a for over range(n), and a for over enumerate(a list of the ledger): the ground may change
abbrev rItO (n i : Nat) : Obj := { cls := .type "range_iterator", dict := none, data := .fields #[rawInt (i : Nat), rawInt ((n : Int) - (i : Nat)), rawInt 1], slots := #[] }
noncomputable def LpEndR (s : Shared) (h₀ : Heap) (L I : Addr) (oI : Obj) (Jn : (Str → Option Value) → Led → Prop) (s₃ : Shared) : Prop :=
  ∃ h' tk' m' news', s₃ = { s with heap := h', toks := tk' } ∧ Fr h₀ L h' m' ∧ News h₀ L h' ((I, oI) :: news') ∧ (∀ p ∈ news', p.1 ≠ I) ∧ Jn m' news'
theorem LpEndR.intro {s : Shared} {h₀ h' : Heap} {L : Addr} {I : Addr} {oI : Obj} {Jn : (Str → Option Value) → Led → Prop} {m' : Str → Option Value} {news' : Led} {tk' : Nat} (F : Fr h₀ L h' m') (N : News h₀ L h' ((I, oI) :: news')) (hn : ∀ p ∈ news', p.1 ≠ I) (hj : Jn m' news') :
    LpEndR s h₀ L I oI Jn { s with heap := h', toks := tk' } := ⟨h', tk', m', news', rfl, F, N, hn, hj⟩
abbrev enO (I : Addr) (i : Int) (v : Value) : Obj := { cls := .type "enumerate", dict := none, data := .fields #[.none, .bool false, .ref I, rawInt i, .none, v], slots := #[] }
noncomputable def LpEndE (s : Shared) (L : Addr) (lo : Addr × Obj) (e I : Addr) (oE oI : Obj) (Jn : Heap → (Str → Option Value) → Led → Prop) (s₃ : Shared) : Prop :=
  ∃ h₂ h' tk' m' news', s₃ = { s with heap := h', toks := tk' } ∧ Fr h₂ L h' m' ∧ News h₂ L h' ((e, oE) :: (I, oI) :: news') ∧ (∀ p ∈ news', p.1 ≠ e ∧ p.1 ≠ I) ∧ lo ∈ news' ∧ Jn h₂ m' news'
theorem LpEndE.intro {s : Shared} {h₂ h' : Heap} {L : Addr} {lo : Addr × Obj} {e I : Addr} {oE oI : Obj} {Jn : Heap → (Str → Option Value) → Led → Prop} {m' : Str → Option Value} {news' : Led} {tk' : Nat} (F : Fr h₂ L h' m') (N : News h₂ L h' ((e, oE) :: (I, oI) :: news')) (hn : ∀ p ∈ news', p.1 ≠ e ∧ p.1 ≠ I) (hl : lo ∈ news') (hj : Jn h₂ m' news') :
    LpEndE s L lo e I oE oI Jn { s with heap := h', toks := tk' } := ⟨h₂, h', tk', m', news', rfl, F, N, hn, hl, hj⟩
section
variable {prog : Program} {w : World} {A : Around} {env : Env}
theorem for_range {x : Str} {px : Pos} {iterx : PySem.Expr} {body : List Stmt} {pos : Pos} {n : Nat} {t : Tok} {s : Shared} {Q : Flow → Shared → Prop} {E : Value → Shared → Prop} {h₀ : Heap} {m₀ : Str → Option Value} {news₀ : Led}
    (J : Nat → (Str → Option Value) → Led → Prop)
    (hh : A.handled = none) (hiter : ∀ Q' : Value → Shared → Prop, wpAny (model prog w) A (call (.type "range") [.int (n : Int) t]) Q' (fun _ _ => False) s → wpAny (model prog w) A (eval iterx env) Q' (fun _ _ => False) s) (hs : ∀ x, foldedSetIterable iterx env x = pure x)
    (hn : n < 1000) (F : Fr h₀ env.locals s.heap m₀) (N : News h₀ env.locals s.heap news₀) (hj : J 0 m₀ news₀)
    (turn : ∀ i t m₁ news₁ I oI h tk, i < n → J i m₁ news₁ → (∀ p ∈ news₁, p.1 ≠ I) → Fr h₀ env.locals h m₁ → News h₀ env.locals h ((I, oI) :: news₁) →
      wpAny (model prog w) A (assign (.Name x px) env (.int (i : Int) t)) (fun _ s₂ => wpAny (model prog w) A (execs body env) (LpPost Q (LpEndR s h₀ env.locals I oI (J (i + 1)))) (fun _ _ => False) s₂) (fun _ _ => False) { s with heap := h, toks := tk })
    (done : ∀ m₁ news₁ h tk, J n m₁ news₁ → Fr h₀ env.locals h m₁ → News h₀ env.locals h news₁ → Q .next { s with heap := h, toks := tk }) :
    wpAny (model prog w) A (exec (.For (.Name x px) iterx body [] pos) env) Q E s := by
  refine wpAny_mono (E := fun _ _ => False) ?_ (fun _ _ x => x) fun _ _ x => x.elim
  refine wpAny_For (hiter _ (call_range_1 ?_)) hs
  refine wpAny_pyIter_range (IsRange.new ..) (small_one (by decide) (by decide) (by omega) (by omega)) ?_
  have hsz : Builtin.Range.rangeSize 0 (n : Int) 1 = (n : Int) := by rw [rangeSize_one]; split <;> omega
  have old : ∀ {α : Type} {t : Sem α} {Q' : α → Shared → Prop} {s' : Shared}, wpAny (model prog w) A t Q' (fun _ _ => False) s' → ∀ (R : Value → Shared → Prop), wpAny (model prog w) A t Q' R s' :=
    fun h R => wpAny_mono h (fun _ _ x => x) fun _ _ x => x.elim
  rw [hsz]
  generalize hoR : ({ cls := .type "range", data := .fields #[.int 0 s.toks, .int (n : Int) t, .int 1 (s.toks + 1)] } : Obj) = oR
  have FR := F.push oR
  have NR := N.push F oR (by rw [← hoR]; rfl)
  generalize s.heap.push oR = hR at FR NR ⊢
  have hI0 : ∀ p ∈ news₀, p.1 ≠ hR.objs.size := fun p hp => Nat.ne_of_lt (Heap.lt_size (NR p (.tail _ hp)).1)
  have N2 := NR.push FR { cls := .type "range_iterator", data := .fields #[rawInt 0, rawInt (n : Int), rawInt 1] }
  refine codeAny_forLoop_any
    (fun k s' => ∃ h' tk m' news' i oI, s' = { s with heap := h', toks := tk } ∧ oI = rItO n i ∧ Fr h₀ env.locals h' m' ∧ News h₀ env.locals h' ((hR.objs.size, oI) :: news') ∧
      (∀ p ∈ news', p.1 ≠ hR.objs.size) ∧ J i m' news' ∧ i ≤ n ∧ k = n + 1 - i) ?_ (n + 1)
    ⟨_, s.toks + 1 + 1, m₀, news₀, 0, _, rfl, rfl, FR.push _, (fun p hp => by
      rcases List.mem_cons.mp hp with rfl | hp
      · have e0 : rItO n 0 = { cls := .type "range_iterator", data := .fields #[rawInt 0, rawInt (n : Int), rawInt 1] } := by simp [rItO]
        rw [e0]
        exact N2 _ (.head _)
      · exact N2 _ (.tail _ (.tail _ hp))), hI0, hj, Nat.zero_le _, rfl⟩
  rintro k s' hp21g
  refine goalAside fun Xg kg => ?_
  obtain ⟨h', tk, m', news', i, oI, rfl, hoI, F', N', hne, hJ, hi, rfl⟩ := hp21g
  refine kg ?_
  clear kg Xg
  have ZI := N' _ (.head _)
  subst hoI
  have hit : IsRangeIter h' hR.objs.size (i : Int) ((n : Int) - (i : Nat)) 1 := ZI.1
  by_cases hlt : i < n
  · refine wpAny_pyNext_range_item hit (by omega) fun h₂ hit₂ hsb => ?_
    dsimp only
    refine wpAny_pure ?_
    have e1 : (i : Int) + 1 = ((i + 1 : Nat) : Int) := by omega
    have e2 : (n : Int) - (i : Nat) - 1 = (n : Int) - ((i + 1 : Nat) : Int) := by omega
    rw [e1, e2] at hit₂
    have F₂ : Fr h₀ env.locals h₂ m' := F'.change hsb ZI.2.1 ZI.2.2
    have N₂ : News h₀ env.locals h₂ ((hR.objs.size, rItO n (i + 1)) :: news') := fun p hp => by
      rcases List.mem_cons.mp hp with rfl | hp
      · exact ⟨hit₂, ZI.2⟩
      · have Zp := N' p (.tail _ hp)
        exact ⟨(hsb.2 p.1 (hne p hp)).trans Zp.1, Zp.2⟩
    refine old (wpAny_mono (turn i tk m' news' hR.objs.size (rItO n (i + 1)) h₂ (tk + 1) hlt hJ hne F₂ N₂) (fun _ s₂ h₂ => old (wpAny_mono h₂ (fun f s₃ h₃ => ?_) fun _ _ e => e) _) fun _ _ e => e) _
    have fin : LpEndR s h₀ env.locals hR.objs.size (rItO n (i + 1)) (J (i + 1)) s₃ →
        ∃ m, m < n + 1 - i ∧ (∃ h' tk m' news' i oI, s₃ = { s with heap := h', toks := tk } ∧ oI = rItO n i ∧ Fr h₀ env.locals h' m' ∧ News h₀ env.locals h' ((hR.objs.size, oI) :: news') ∧
      (∀ p ∈ news', p.1 ≠ hR.objs.size) ∧ J i m' news' ∧ i ≤ n ∧ m = n + 1 - i) := by
      rintro hp22g
      refine goalAside fun Xg kg => ?_
      obtain ⟨h'', tk', m'', news'', e, F₃, N₃, ne₃, J₃⟩ := hp22g
      refine kg ?_
      clear kg Xg
      exact ⟨n + 1 - (i + 1), by omega, h'', tk', m'', news'', i + 1, _, e, rfl, F₃, N₃, ne₃, J₃, hlt, rfl⟩
    cases f with
    | ret v => exact h₃
    | brk => exact h₃
    | next => exact fin h₃
    | cont => exact fin h₃
  · have hin : i = n := by omega
    subst hin
    refine wpAny_pyNext_range_end hh hit (by omega) fun h₂ hex => wpAny_execs_nil ?_
    have F₂ : Fr h₀ env.locals h₂ m' := ⟨F'.ns.at' fun o e => hex _ o (fun q => ZI.2.1 q.symm) e, fun b o e => hex b o (fun q => by have := ZI.2.2; rw [← q, e] at this; cases this) (F'.keep b o e), F'.above⟩
    exact done m' news' h₂ tk hJ F₂ fun p hp => ⟨hex p.1 p.2 (hne p hp) (N' p (.tail _ hp)).1, (N' p (.tail _ hp)).2⟩
theorem for_enumB {elts : List PySem.Expr} {kx : Nat} {px : Pos} {iterx : PySem.Expr} {body : List Stmt} {pos : Pos} {l : Addr} {vs : List Value} {nn : Nat} {s : Shared} {Q : Flow → Shared → Prop} {E : Value → Shared → Prop} {h₀ : Heap} {m₀ : Str → Option Value} {news₀ : Led}
    (J : Nat → Heap → (Str → Option Value) → Led → Prop)
    (hh : A.handled = none) (hiter : ∀ Q' : Value → Shared → Prop, wpAny (model prog w) A (call (.type "enumerate") [.ref l]) Q' (fun _ _ => False) s → wpAny (model prog w) A (eval iterx env) Q' (fun _ _ => False) s) (hs : ∀ x, foldedSetIterable iterx env x = pure x)
    (F : Fr h₀ env.locals s.heap m₀) (N : News h₀ env.locals s.heap news₀) (hl : (l, listOf vs.toArray nn) ∈ news₀) (hj : J 0 h₀ m₀ news₀)
    (turn : ∀ i v h₁ m₁ news₁ e I oE oI T oT t h tk, vs[i]? = some v → J i h₁ m₁ news₁ → (l, listOf vs.toArray nn) ∈ news₁ → (∀ p ∈ news₁, p.1 ≠ e ∧ p.1 ≠ I) → e ≠ I → oE.cls = .type "enumerate" → oI.cls = .type "list_iterator" → Fr h₁ env.locals h m₁ → News h₁ env.locals h ((T, tupN #[.int (i : Int) t, v] oT) :: (e, oE) :: (I, oI) :: news₁) → (∀ p ∈ (e, oE) :: (I, oI) :: news₁, p.1 < T) →
      wpAny (model prog w) A (assign (.Tuple elts kx px) env (.ref T)) (fun _ s₂ => wpAny (model prog w) A (execs body env) (LpPost Q (LpEndE s env.locals (l, listOf vs.toArray nn) e I oE oI (J (i + 1)))) (fun _ _ => False) s₂) (fun _ _ => False) { s with heap := h, toks := tk })
    (done : ∀ h₁ m₁ news₁ h tk, J vs.length h₁ m₁ news₁ → Fr h₁ env.locals h m₁ → News h₁ env.locals h news₁ → Q .next { s with heap := h, toks := tk }) :
    wpAny (model prog w) A (exec (.For (.Tuple elts kx px) iterx body [] pos) env) Q E s := by
  refine wpAny_mono (E := fun _ _ => False) ?_ (fun _ _ x => x) fun _ _ x => x.elim
  have old : ∀ {α : Type} {t : Sem α} {Q' : α → Shared → Prop} {s' : Shared}, wpAny (model prog w) A t Q' (fun _ _ => False) s' → ∀ (R : Value → Shared → Prop), wpAny (model prog w) A t Q' R s' :=
    fun h R => wpAny_mono h (fun _ _ x => x) fun _ _ x => x.elim
  have hls : s.heap.IsList l vs.toArray := PySem.IsL.isList (n := nn) (N _ hl).1
  have hltN : ∀ p ∈ news₀, p.1 < s.heap.objs.size := fun p hp => Heap.lt_size (N p hp).1
  have hLs : env.locals < s.heap.objs.size := F.ns.lt
  refine wpAny_For (hiter _ (call_enumerate_list hls fun h1 hE hI hsz hk => wpAny_pyIter_enum hE ?_)) hs
  refine goalAside fun Xg kg => ?_
  obtain ⟨oI0, hoI0, hIc, hId⟩ := id hI
  refine kg ?_
  clear kg Xg
  have hb0 : ∀ b o, h₀.get? b = some o → b < s.heap.objs.size := fun b o e => Heap.lt_size (F.keep b o e)
  have n0 : ∀ a, s.heap.objs.size ≤ a → h₀.get? a = none := fun a ha => by
    cases q : h₀.get? a with
    | none => rfl
    | some o => exact absurd (hb0 a o q) (Nat.not_lt.mpr ha)
  refine codeAny_forLoop_any
    (fun k s' => ∃ h' tk m' news' h₁, ∃ i : Nat, ∃ oE oI, s' = { s with heap := h', toks := tk } ∧ (∃ old, IsEnum h' (s.heap.objs.size + 1) s.heap.objs.size (i : Int) old) ∧ h'.IsListIter s.heap.objs.size l i ∧ Fr h₁ env.locals h' m' ∧ News h₁ env.locals h' ((s.heap.objs.size + 1, oE) :: (s.heap.objs.size, oI) :: news') ∧
      (∀ p ∈ news', p.1 ≠ s.heap.objs.size + 1 ∧ p.1 ≠ s.heap.objs.size) ∧ (l, listOf vs.toArray nn) ∈ news' ∧ J i h₁ m' news' ∧ i ≤ vs.length ∧ k = vs.length + 1 - i) ?_ (vs.length + 1)
    ⟨h1, s.toks, m₀, news₀, h₀, 0, _, _, rfl, ⟨_, hE⟩, hI, F.keeps hk, (fun p hp => by
      rcases List.mem_cons.mp hp with rfl | hp
      · exact ⟨hE, Nat.ne_of_gt (Nat.lt_succ_of_lt hLs), n0 _ (Nat.le_succ _)⟩
      · rcases List.mem_cons.mp hp with rfl | hp
        · exact ⟨hoI0, Nat.ne_of_gt hLs, n0 _ (Nat.le_refl _)⟩
        · exact ⟨hk _ _ (N p hp).1, (N p hp).2⟩), (fun p hp => ⟨Nat.ne_of_lt (Nat.lt_succ_of_lt (hltN p hp)), Nat.ne_of_lt (hltN p hp)⟩), hl, hj, Nat.zero_le _, rfl⟩
  rintro k s' hp23g
  refine goalAside fun Xg kg => ?_
  obtain ⟨h', tk, m', news', h₁, i, oE, oI, rfl, ⟨old1, hE'⟩, hit, F', N', hne, hl', hJ, hi, rfl⟩ := hp23g
  refine kg ?_
  clear kg Xg
  generalize hee : s.heap.objs.size + 1 = e at *
  generalize hii : s.heap.objs.size = I at *
  have hei : e ≠ I := by omega
  have ZE := N' _ (.head _)
  have ZI := N' _ (.tail _ (.head _))
  have hls' : h'.IsList l vs.toArray := PySem.IsL.isList (n := nn) (N' _ (.tail _ (.tail _ hl'))).1
  by_cases hlt : i < vs.length
  · refine wpAny_pyNext_enum_item (x := vs[i]) hE' hit hls' (by simp [hlt]) hei fun h₂ ho₂ hit₂ hT₂ hsz₂ hk₂ => ?_
    dsimp only
    refine wpAny_letOwnedTupleGo_enum ho₂ fun h₃ he₃ hs₃ => ?_
    have e1 : (i : Int) + 1 = ((i + 1 : Nat) : Int) := by omega
    rw [e1] at he₃
    have hTlt : ∀ b o, h'.get? b = some o → b < h'.objs.size := fun b o q => Heap.lt_size q
    have k3 : ∀ b o, b ≠ e → b ≠ I → h'.get? b = some o → h₃.get? b = some o := fun b o q1 q2 q => (hs₃.2 b q1).trans (hk₂ b o q1 q2 q)
    have hit₃ : h₃.IsListIter I l (i + 1) := hit₂.at fun o y => (hs₃.2 I hei.symm).trans y
    refine goalAside fun Xg kg => ?_
    obtain ⟨oI₃, hoI₃, hIc₃, hId₃⟩ := id hit₃
    refine kg ?_
    clear kg Xg
    have keep₃ : ∀ b o, h₁.get? b = some o → h₃.get? b = some o := fun b o q => k3 b o (fun z => by have := ZE.2.2; rw [← z, q] at this; cases this) (fun z => by have := ZI.2.2; rw [← z, q] at this; cases this) (F'.keep b o q)
    have F₃ : Fr h₁ env.locals h₃ m' := ⟨F'.ns.at' fun o q => k3 _ o (fun z => ZE.2.1 z.symm) (fun z => ZI.2.1 z.symm) q, keep₃, F'.above⟩
    have hTE : h'.objs.size ≠ e := Nat.ne_of_gt (hTlt _ _ ZE.1)
    have hT₃ := (hs₃.2 _ hTE).trans hT₂
    have hold : ∀ b o, h₁.get? b = some o → b < h'.objs.size := fun b o q => Heap.lt_size (F'.keep b o q)
    have N₃ : News h₁ env.locals h₃ ((h'.objs.size, _) :: (e, enO I ((i + 1 : Nat) : Int) vs[i]) :: (I, oI₃) :: news') := fun p hp => by
      rcases List.mem_cons.mp hp with rfl | hp
      · refine ⟨hT₃, Nat.ne_of_gt F'.ns.lt, ?_⟩
        cases q : h₁.get? h'.objs.size with
        | none => rfl
        | some o => exact absurd (hold _ _ q) (Nat.lt_irrefl _)
      · rcases List.mem_cons.mp hp with rfl | hp
        · exact ⟨he₃, ZE.2⟩
        · rcases List.mem_cons.mp hp with rfl | hp
          · exact ⟨hoI₃, ZI.2⟩
          · have Zp := N' p (.tail _ (.tail _ hp))
            exact ⟨k3 _ _ (hne p hp).1 (hne p hp).2 Zp.1, Zp.2⟩
    have hltT : ∀ p ∈ (e, enO I ((i + 1 : Nat) : Int) vs[i]) :: (I, oI₃) :: news', p.1 < h'.objs.size := fun p hp => by
      rcases List.mem_cons.mp hp with rfl | hp
      · exact hTlt _ _ ZE.1
      · rcases List.mem_cons.mp hp with rfl | hp
        · exact hTlt _ _ ZI.1
        · exact hTlt _ _ (N' p (.tail _ (.tail _ hp))).1
    refine old (wpAny_mono (turn i vs[i] h₁ m' news' e I (enO I ((i + 1 : Nat) : Int) vs[i]) oI₃ h'.objs.size _ tk h₃ (tk + 1) (by simp [hlt]) hJ hl' hne hei rfl hIc₃ F₃ N₃ hltT) (fun _ s₂ h₂ => old (wpAny_mono h₂ (fun f s₃ h₃ => ?_) fun _ _ e => e) _) fun _ _ e => e) _
    have fin : LpEndE s env.locals (l, listOf vs.toArray nn) e I (enO I ((i + 1 : Nat) : Int) vs[i]) oI₃ (J (i + 1)) s₃ →
        ∃ m, m < vs.length + 1 - i ∧ (∃ h' tk m' news' h₁, ∃ i : Nat, ∃ oE oI, s₃ = { s with heap := h', toks := tk } ∧ (∃ old, IsEnum h' e I (i : Int) old) ∧ h'.IsListIter I l i ∧ Fr h₁ env.locals h' m' ∧ News h₁ env.locals h' ((e, oE) :: (I, oI) :: news') ∧
          (∀ p ∈ news', p.1 ≠ e ∧ p.1 ≠ I) ∧ (l, listOf vs.toArray nn) ∈ news' ∧ J i h₁ m' news' ∧ i ≤ vs.length ∧ m = vs.length + 1 - i) := by
      rintro hp24g
      refine goalAside fun Xg kg => ?_
      obtain ⟨h₄, h'', tk', m'', news'', q, F₄, N₄, ne₄, l₄, J₄⟩ := hp24g
      refine kg ?_
      clear kg Xg
      exact ⟨vs.length + 1 - (i + 1), by omega, h'', tk', m'', news'', h₄, i + 1, _, oI₃, q, ⟨_, (N₄ _ (.head _)).1⟩, ⟨oI₃, (N₄ _ (.tail _ (.head _))).1, hIc₃, hId₃⟩, F₄, N₄, ne₄, l₄, J₄, hlt, rfl⟩
    cases f with
    | ret v => exact h₃
    | brk => exact h₃
    | next => exact fin h₃
    | cont => exact fin h₃
  · have hin : i = vs.length := by omega
    subst hin
    refine wpAny_pyNext_enum_end hh hE' hit hls' (by simp) fun h₂ hex => wpAny_execs_nil ?_
    have F₂ : Fr h₁ env.locals h₂ m' := ⟨F'.ns.at' fun o q => hex _ o (fun z => ZI.2.1 z.symm) q, fun b o q => hex b o (fun z => by have := ZI.2.2; rw [← z, q] at this; cases this) (F'.keep b o q), F'.above⟩
    exact done h₁ m' news' h₂ tk hJ F₂ fun p hp => ⟨hex p.1 p.2 (hne p hp).2 (N' p (.tail _ (.tail _ hp))).1, (N' p (.tail _ (.tail _ hp))).2⟩
end
end
-- part FnS
section
-- a call behind which the caller stands on a turned ground (an exception has been caught inside)
noncomputable def FnS (w : World) (f : Addr) (args : List Value) (news : Led) (D U : Nat) (Post : Value → Led → Prop) : Prop :=
  ∀ (p : Program) (loose : List Str) (mean : ExcName → Option Value) (mg mb : Str → Option Value)
  (dp un : Nat) (gd : Option (List Code)) (cn : Str) (cs : Scope) (a : Addr) (ccd : Value) (cl : List (Str × Addr)) (outer : List Env) (A₀ : Around) (base h₀ : Heap) (L : Addr) (m : Str → Option Value) (s : Shared) (Q E : Value → Shared → Prop),
  Below A₀ base outer h₀ → Fr h₀ L s.heap m → (Mine.hd.heap_1 w.params).In h₀ → News h₀ L s.heap news → Top p loose mean mg mb h₀ → (Mine.hd.heap_1 w.params).In base → Top p loose mean mg mb base → KtsDicts (outer.filterMap (·.frame)) h₀ →
  cs.kind = .function → dp + D < recursionLimit → un + U < cLine →
  (∀ r news' g' h' tk', KtsTurn (outer.filterMap (·.frame)) h₀ g' → Below A₀ base outer g' → Fr g' L h' m → (Mine.hd.heap_1 w.params).In g' → News g' L h' news' → Top p loose mean mg mb g' → KtsDicts (outer.filterMap (·.frame)) g' → Post r news' → Q r { s with heap := h', toks := tk' }) →
  wpAny (model Challenge.pw_tk0094_01 w) (ktrTop dp un gd cn cs L a ccd cl outer) (call (.ref f) args) Q E s
section
variable {w : World} {f : Addr} {args : List Value} {news : Led} {D U : Nat} {Post : Value → Led → Prop}
  {p : Program} {loose : List Str} {mean : ExcName → Option Value} {mg mb : Str → Option Value}
  {dp un : Nat} {gd : Option (List Code)} {cn : Str} {cs : Scope} {a : Addr} {ccd : Value} {cl : List (Str × Addr)} {outer : List Env} {A₀ : Around} {base h₀ : Heap} {L : Addr} {m : Str → Option Value} {s : Shared} {Q E : Value → Shared → Prop}
theorem FnS.use {hp : Heap} {gg : Array GenState} {dw : Drawn} {tk₀ : Nat} {os : OsState} (B : Below A₀ base outer h₀) (F : Fr h₀ L hp m) (X : (Mine.hd.heap_1 w.params).In h₀) (N : News h₀ L hp news) (T : Top p loose mean mg mb h₀) (XB : (Mine.hd.heap_1 w.params).In base) (TB : Top p loose mean mg mb base) (KD : KtsDicts (outer.filterMap (·.frame)) h₀) (hk : cs.kind = .function)
    (C : FnS w f args news D U Post) (hd : dp + D < recursionLimit) (hu : un + U < cLine)
    (h : ∀ r news' g' h' tk', KtsTurn (outer.filterMap (·.frame)) h₀ g' → Below A₀ base outer g' → Fr g' L h' m → (Mine.hd.heap_1 w.params).In g' → News g' L h' news' → Top p loose mean mg mb g' → KtsDicts (outer.filterMap (·.frame)) g' → Post r news' → Q r ⟨h', gg, dw, tk', os⟩) :
    wpAny (model Challenge.pw_tk0094_01 w) (ktrTop dp un gd cn cs L a ccd cl outer) (call (.ref f) args) Q E ⟨hp, gg, dw, tk₀, os⟩ := C _ _ _ _ _ _ _ _ _ _ _ _ _ _ _ _ _ _ _ ⟨hp, gg, dw, tk₀, os⟩ _ _ B F X N T XB TB KD hk hd hu h
end
-- how a def is left on a turned ground; opaque for the walk
noncomputable def LeaveT (fs : List Addr) (A₀ : Around) (base : Heap) (outer : List Env) (K : Frag) (p : Program) (loose : List Str) (mean : ExcName → Option Value) (mg mb : Str → Option Value) (h₀ : Heap) (L : Addr) (m : Str → Option Value) (g : Heap) (R : Result → Shared → Prop) (v : Value) (s' : Shared) : Prop :=
  ∃ g' L' m' news', KtsTurn fs g g' ∧ Fr g' L' s'.heap m' ∧ News g' L' s'.heap news' ∧ ∀ q', KtsTurn (outer.filterMap (·.frame)) h₀ q' → Below A₀ base outer q' → Fr q' L s'.heap m → K.In q' → News q' L s'.heap news' → Top p loose mean mg mb q' → KtsDicts (outer.filterMap (·.frame)) q' → R (.ok (.ret v)) s'
theorem mem_frames {env : Env} {L b : Addr} {outer : List Env} (hf : env.frame = some L) : b ∈ (env :: outer).filterMap (·.frame) → b = L ∨ b ∈ outer.filterMap (·.frame) := fun hm => by
  obtain ⟨e, he, hfe⟩ := List.mem_filterMap.mp hm
  rcases List.mem_cons.mp he with rfl | he
  · exact .inl (Option.some.inj (hfe.symm.trans hf))
  · exact .inr (List.mem_filterMap.mpr ⟨e, he, hfe⟩)
section
variable {prog : Program} {w : World} {A₀ A : Around} {s : Shared} {base h₀ : Heap} {env : Env} {outer : List Env} {L : Addr} {m : Str → Option Value} {news : Led} {K : Frag} {p : Program} {loose : List Str} {mean : ExcName → Option Value} {mg mb : Str → Option Value}
  {R : Result → Shared → Prop} {name qual : Str} {params : Arguments} {body : List Stmt} {scope : Scope} {dV kV doc pm cdv ct oc : Value} {an od : Option Addr} {osl : Array (Option Value)} {f : Addr} {args : Args} {binds : List (Str × Value)}
theorem code_defT (B : Below A₀ base outer h₀) (F : Fr h₀ L s.heap m) (X₀ : K.In h₀) (N : News h₀ L s.heap news) (T : Top p loose mean mg mb h₀) (XB : K.In base) (TB : Top p loose mean mg mb base) (KD : KtsDicts (outer.filterMap (·.frame)) h₀)
    (hA : A.frames = some (env :: outer)) (hf : env.frame = some L) (hke : env.scope.kind = .function)
    (ho : K.lookup f = some ⟨oc, od, .func (fnOf name qual params body scope dV kV doc pm an cdv ct), osl⟩) (hcd : codeIn K cdv qual = true) (hroom : A.depth < recursionLimit)
    (hbind : BindsTo s (fnOf name qual params body scope dV kV doc pm an cdv ct) args binds) (hloc : ∀ y ∈ binds, scope.names.lookup y.1 = some .local)
    (h : ∀ g L' h₁, Fr h₀ L g m → Fr g L' h₁ (fun y => binds.reverse.lookup y) → News g L' h₁ news → Below A base (env :: outer) g → K.In g → Top p loose mean mg mb g → KtsDicts ((env :: outer).filterMap (·.frame)) g →
      wpAny (model prog w) (A.deeper (envOf qual scope L' f cdv)) (execs body (envOf qual scope L' f cdv))
        (fun fl s' => LeaveT ((env :: outer).filterMap (·.frame)) A₀ base outer K p loose mean mg mb h₀ L m g R (match fl with | .ret v => v | _ => .none) s')
        (fun e s' => wpAny (model prog w) (A.deeper (envOf qual scope L' f cdv)) (leaving (envOf qual scope L' f cdv) e) (fun _ s'' => R (.error e) s'') (fun e' s'' => R (.error e') s'') s')
        { s with heap := h₁, toks := s.toks + binds.length })
    (hco : scope.isCoroutine = false) (hgen : scope.isGenerator = false) (hk : scope.kind = .function)
    (hcell : ∀ x ∈ scope.names, x.2 ≠ .cell) : codeAny (model prog w) A (.call (.ref f) args) R s := by
  refine goalAside fun Xg kg => ?_
  obtain ⟨FG, BG, st, _⟩ := groundX (R := R) B F N hA hf hke
  refine kg ?_
  clear kg Xg
  have hL0 : h₀.get? L = none := kts_self F
  have DG : KtsDicts ((env :: outer).filterMap (·.frame)) (hideAll s.heap (news.map (·.1))) := fun b hb => by
    rcases mem_frames hf hb with rfl | hb
    · refine goalAside fun Xg kg => ?_
      obtain ⟨oL, es, ep, e1, e2, _⟩ := FG.ns
      refine kg ?_
      clear kg Xg
      exact ⟨oL, es, ep, e1, e2⟩
    · refine goalAside fun Xg kg => ?_
      obtain ⟨o, es, ep, e1, e2⟩ := KD b hb
      refine kg ?_
      clear kg Xg
      exact ⟨o, es, ep, st b o e1, e2⟩
  refine codeAny_call_def (fd := fnX name qual params body scope [] dV kV doc pm an cdv ct) (body := body) (binds := binds) hroom ((X₀.keeps F.keep) _ _ ho) rfl (T.nolimit.keeps F.keep) (codeRec_of (X₀.keeps F.keep) hcd) rfl hbind hcell hloc (fun h₁ hns hk₁ => ?_) hco hgen hk
  refine wpAny_mono (h _ s.heap.objs.size h₁ FG ⟨hns, fun b o e => hk₁ b o (of_hideAll _ e), Nat.le_of_eq (hideAll_size _ _)⟩
    (fun q hq => ⟨hk₁ _ _ (N q hq).1, Nat.ne_of_lt (Heap.lt_size (N q hq).1), hideAll_none _ (List.mem_map_of_mem hq)⟩) BG (X₀.keeps st) (T.keeps st) DG) (fun fl s' hl => ?_) fun _ _ y => y
  refine goalAside fun Xg kg => ?_
  obtain ⟨g', L', m', news', T', F', N', k⟩ := hl
  refine kg ?_
  clear kg Xg
  have out : ∀ b o, h₀.get? b = some o → b ∉ outer.filterMap (·.frame) → s'.heap.get? b = some o := fun b o e hn =>
    F'.keep b o (T'.other b o (st b o e) fun q => (mem_frames hf q).elim (fun z => by rw [z, hL0] at e; cases e) hn)
  have onn : ∀ b o, h₀.get? b = some o → b ∈ outer.filterMap (·.frame) → ∃ sl, s'.heap.get? b = some { o with slots := sl } := fun b o e _ => by
    obtain ⟨sl, hs⟩ := T'.up (st b o e)
    exact ⟨sl, F'.keep _ _ hs⟩
  obtain ⟨T₁, S₁⟩ := kts_turn_at (h := s'.heap) (fs := outer.filterMap (·.frame)) (g := h₀) (fun b hb => by
    refine goalAside fun Xg kg => ?_
    obtain ⟨_, o, ho', _⟩ := B.frames.mem hb
    refine kg ?_
    clear kg Xg
    exact ⟨o, ho'⟩) out onn
  have nb : ∀ b o, base.get? b = some o → b ∉ outer.filterMap (·.frame) := fun b o e hm => by
    rw [(B.frames.mem hm).1] at e
    cases e
  have B₁ : Below A₀ base outer (ktsHeap s'.heap (outer.filterMap (·.frame)) h₀) := ⟨B.stack, fun b o e => T₁.other b o (B.stays b o e) (nb b o e), B.frames.of_keeps fun b o e _ => by
    obtain ⟨sl, hs⟩ := T₁.up e
    exact ⟨_, hs, rfl⟩⟩
  refine goalAside fun Xg kg => ?_
  obtain ⟨oL, es, ep, hLg, hLd, hLk, hLf⟩ := FG.ns
  refine kg ?_
  clear kg Xg
  obtain ⟨slL, hsL⟩ := T'.up hLg
  refine k _ T₁ B₁ ⟨⟨_, es, ep, F'.keep _ _ hsL, hLd, hLk, hLf⟩, S₁, by rw [T₁.size]; exact F.above⟩ (XB.keeps B₁.stays) (fun q hq => ⟨(N' q hq).1, fun z => ?_, ?_⟩) (TB.keeps B₁.stays) (KD.turn T₁)
  · have := (N' q hq).2.2
    rw [z, hsL] at this
    cases this
  · refine T₁.none_ _ ?_
    cases e : h₀.get? q.1 with
    | none => rfl
    | some o =>
      obtain ⟨sl, hs⟩ := T'.up (st _ _ e)
      have := (N' q hq).2.2
      rw [hs] at this
      cases this
end
section
variable {w : World} {f : Addr} {args : List Value} {news : Led} {DD U : Nat} {d : Addr} {o : Obj} {g : Obj → Led} {P : Value → Obj → Led → Prop}
theorem FnS.updK (hmono : ∀ r o' m m', (∀ p ∈ m, p ∈ m') → P r o' m → P r o' m') (hoD : o.cls = .type "dict") (Up : UpdF d o news g)
    (C : ∀ rest, (∀ p ∈ rest, p.1 ≠ d) → KeepND news rest → (∀ p ∈ rest, p ∈ news) →
      FnS w f args ((d, o) :: rest) DD U fun r n => ∃ o' new, n = new ++ (d, o') :: rest ∧ Fresh new ((d, o) :: rest) ∧ P r o' n) :
    FnS w f args news DD U fun r n => ∃ o' new, n = new ++ g o' ∧ Fresh new news ∧ KeepND news n ∧ P r o' n := by
  obtain ⟨rest, hoff, hn, hg⟩ := updF_iff Up
  intro p loose mean mg mb dp un gd cn cs a ccd cl outer A₀ base h₀ L m s Q E B F X N T XB TB KD hk hd hu hret
  have kd : KeepND news rest := fun p hp hc => by
    rcases List.mem_cons.mp ((hn p).mp hp) with rfl | h
    · exact absurd hoD hc
    · exact h
  refine C rest hoff kd (fun p hp => (hn p).mpr (.tail _ hp)) _ _ _ _ _ _ _ _ _ _ _ _ _ _ _ _ _ _ _ _ _ _ B F X (fun p hp => N p ((hn p).mpr hp)) T XB TB KD hk hd hu fun r n q' h' tk' K1 B1 F1 X1 N1 T1 D1 q => ?_
  obtain ⟨o', new, rfl, hf, hP⟩ := q
  have sub : ∀ p ∈ new ++ (d, o') :: rest, p ∈ new ++ g o' := fun p hp => (List.mem_append.mp hp).elim (fun h => List.mem_append_left _ h) fun h => List.mem_append_right _ ((hg o' p).mpr h)
  have sub' : ∀ p ∈ new ++ g o', p ∈ new ++ (d, o') :: rest := fun p hp => (List.mem_append.mp hp).elim (fun h => List.mem_append_left _ h) fun h => List.mem_append_right _ ((hg o' p).mp h)
  exact hret r (new ++ g o') q' h' tk' K1 B1 F1 X1 (fun p hp => N1 p (sub' p hp)) T1 D1 ⟨o', new, rfl, fun p hp q hq => hf p hp q ((hn q).mp hq), fun p hp hc => List.mem_append_right _ ((hg o' p).mpr (.tail _ (kd p hp hc))), hmono _ _ _ _ sub hP⟩
end
section
variable {w : World} {f : Addr} {args : List Value} {news : Led} {D U : Nat} {Post : Value → Led → Prop}
  {p : Program} {loose : List Str} {mean : ExcName → Option Value} {mg mb : Str → Option Value}
  {dp un : Nat} {gd : Option (List Code)} {cn : Str} {cs : Scope} {a : Addr} {ccd : Value} {cl : List (Str × Addr)} {A₀ : Around} {base h₀ : Heap} {L : Addr} {m : Str → Option Value} {s : Shared} {Q E : Value → Shared → Prop}
/-- under the outermost frame the ground stands as it stood -/
theorem FnS.use0 {hp : Heap} {gg : Array GenState} {dw : Drawn} {tk₀ : Nat} {os : OsState} (B : Below A₀ base [] h₀) (F : Fr h₀ L hp m) (X : (Mine.hd.heap_1 w.params).In h₀) (N : News h₀ L hp news) (T : Top p loose mean mg mb h₀) (XB : (Mine.hd.heap_1 w.params).In base) (TB : Top p loose mean mg mb base) (hk : cs.kind = .function)
    (C : FnS w f args news D U Post) (hd : dp + D < recursionLimit) (hu : un + U < cLine)
    (h : ∀ r news' h' tk', Fr h₀ L h' m → News h₀ L h' news' → Post r news' → Q r ⟨h', gg, dw, tk', os⟩) :
    wpAny (model Challenge.pw_tk0094_01 w) (ktrTop dp un gd cn cs L a ccd cl []) (call (.ref f) args) Q E ⟨hp, gg, dw, tk₀, os⟩ := by
  refine C.use B F X N T XB TB ktsDicts_nil hk hd hu fun r n g' h' tk' K B' F' X' N' T' D' q => ?_
  have st : ∀ b o, h₀.get? b = some o → g'.get? b = some o := fun b o e => K.other b o e (fun h => nomatch h)
  refine h r n h' tk' ⟨F'.ns, fun b o e => F'.keep b o (st b o e), by rw [← K.size]; exact F'.above⟩ (fun q hq => ⟨(N' q hq).1, (N' q hq).2.1, ?_⟩) q
  cases e : h₀.get? q.1 with
  | none => rfl
  | some o =>
    have := (N' q hq).2.2
    rw [st _ _ e] at this
    cases this
end
end
local macro_rules | `(tactic| walk_at "MY nx") => `(tactic| (intro D' h' F' N' l1; (try k_lt l1); (try k_sweep)))
local macro_rules | `(tactic| walk_at "MY norm") => `(tactic| first | (dsimp only; (try (with_reducible refine norm_tk ?_; intro _))) | (with_reducible refine norm_tk ?_; intro _))
local macro_rules | `(tactic| walk_at "execs cons") => `(tactic| (k_here; walk_at "MY norm"))
local macro_rules | `(tactic| walk_at "execs nil") => `(tactic| (k_here; walk_at "MY norm"))
local macro_rules | `(tactic| walk_at "Hid") => `(tactic| (refine Hid.to (by assumption) ?_; (try dsimp only)))
local macro_rules | `(tactic| k_all) => `(tactic| first | assumption | exact Fresh.ne (by assumption) (by k_mem) | (refine' all_app ?_ ?_ <;> k_all) | exact allLt_ne (by assumption))
local macro_rules | `(tactic| k_mem) => `(tactic| first | with_reducible assumption | assumption | exact List.Mem.head _ | (refine' List.mem_cons_of_mem _ ?_; k_mem) | (refine' List.mem_append_left _ ?_; k_mem) | (refine' List.mem_append_right _ ?_; k_mem))
local macro_rules | `(tactic| walk_at "setItem ref int") => `(tactic| (k_here; k_dflt (refine' set_any (by k_asm) (by k_asm) (by k_upd) (by decide) (by decide) (by decide) ?_; k_whole); intro _ _ _; (try k_sweep)))
local macro_rules | `(tactic| walk_at "call builtin:len") => `(tactic| (k_here; k_dflt (refine' len_any (by k_asm) (by k_mem) (by omega) ?_; k_whole); intro _ _))
local macro_rules | `(tactic| walk_at "eval ListComp") => `(tactic| (k_here; refine Stop.mk ?_))
local macro_rules | `(tactic| walk_at "exec Assign cons ListComp") => `(tactic| (k_here; refine Stop.mk ?_))
local macro_rules | `(tactic| walk_at "call builtin:len") => `(tactic| (k_here; k_dflt (refine len_bytes (by walk_at "MY bsz") ?_)))
local macro_rules | `(tactic| walk_at "MY bsz") => `(tactic| first | omega | (simp only [Array.size_append, D_size]; omega))
local macro_rules | `(tactic| walk_at "subscriptTail") => `(tactic| (k_here; (with_reducible show wpAny _ _ (subscriptTail _ (Expr.Slice _ _ none _) (Value.bytes _ _) (Value.ref _)) _ _ _); (with_reducible rename Fr _ _ _ _ => F'); (with_reducible rename News _ _ _ _ => N'); (refine slice_any (s := ⟨_, _, _, _, _⟩) F' N' (by constructor) (by constructor) (by walk_at "MY bsz") ?_); intro _ _ _ _ F' N' _ _))
local macro_rules | `(tactic| walk_at "binaryOp Add bytes bytes") => `(tactic| (k_here; (refine KBy.add_bytes (by walk_at "MY bsz") ?_); intro _ _))
local macro_rules | `(tactic| walk_at "call type:bytes") => `(tactic| (k_here; k_dflt (refine' bytes_bytes ?_); intro _ _))
local macro_rules | `(tactic| walk_at "call builtin:list.append") => `(tactic| (k_here; k_dflt (refine' append_any (by k_asm) (by k_asm) (by k_upd) (by omega) ?_; k_whole); intro _ _ _; (try k_sweep)))
local macro_rules | `(tactic| walk_at "call type:list") => `(tactic| (k_here; k_dflt (refine' copy_any (by k_asm) (by k_asm) (by k_mem) (by omega) ?_); intro _; walk_at "MY nx"))
local macro_rules | `(tactic| walk_at "MY len") => `(tactic| first | omega | ((try simp only [List.length_cons, List.length_nil, List.length_append]); first | omega | decide))
local macro_rules | `(tactic| walk_at "binaryOp Add ref ref") => `(tactic| (k_here; k_dflt (refine' cat_any (by k_asm) (by k_asm) (by k_mem) (by k_mem) (by walk_at "MY len") (by walk_at "MY len") ?_); walk_at "MY nx"))
local macro_rules | `(tactic| walk_at "exec If") => `(tactic| ((have hHIx : HaltIf := by assumption); clear hHIx; refine Stop.mk ?_))
local macro_rules | `(tactic| k_upd) => `(tactic| (refine' upd_app ?a ?b; (case a => k_all); (case b => k_upd)))
local macro_rules | `(tactic| k_updF) => `(tactic| (refine' updF_app ?a ?b; (case a => k_all); (case b => k_updF)))
section
local macro_rules | `(tactic| walk_at "MY lt") => `(tactic| first | assumption | exact And.left (by assumption) | exact And.left (And.right (by assumption)) | exact And.left (And.right (And.right (by assumption))))
local macro_rules | `(tactic| k_ne) => `(tactic| (refine neN ?_; (try dsimp only); first | assumption | exact Ne.symm (by assumption) | exact Nat.ne_of_lt (by walk_at "MY lt") | exact Nat.ne_of_gt (by walk_at "MY lt")))
-- part FTake
section
example : True := by
  w_top off
  trivial
theorem fmod_in {x y : Int} (hy : 0 < y) : 0 ≤ x.fmod y ∧ x.fmod y < y := by
  rw [Int.fmod_eq_emod_of_nonneg x (Int.le_of_lt hy)]
  exact ⟨Int.emod_nonneg _ (Int.ne_of_gt hy), Int.emod_lt_of_pos _ hy⟩
-- _law_take
set_option maxHeartbeats 8000000 in
theorem take_ok {w : World} {news : Led} {g : Obj → Led} {bx l0 : Addr} {k many : Int} {tk tm : Tok} {vs : List Value} {ns : List Int} {c0 c1 : Nat}
  (Up : UpdF bx (listOf #[.ref l0, .int k tk] c1) news g) (hml : (l0, listOf vs.toArray c0) ∈ news) (hne : l0 ≠ bx)
  (hl : IntsAre vs ns) (hlen : ns.length ≤ 44) (hk0 : 0 ≤ k) (hk1 : k < 100) (hm : 0 < many) (hm1 : many < 100) :
  Fn w 165 [.ref bx, .int many tm] news 2 20 fun r n => ∃ o' new, n = new ++ g o' ∧ Fresh new news ∧ new = [] ∧ ∃ v tv tk' c1', r = .int v tv ∧ 0 ≤ v ∧ v < many ∧ o' = listOf #[.ref l0, .int (k + 1) tk'] c1' := by
  have hlen2 := hl.length
  refine Fn.upd Up fun rest hoff hin hsub => ?_
  have hml2 := hin _ hml hne
  intro p loose mean mg mb dp un gd cn cs a ccd cl outer A₀ base h₀ L m s Q E B F X N T hk hd hu hret
  refine wpAny_call ?_
  k_dflt (refine' code_def (binds := [(PySem.Str.ofString "box", .ref bx), (PySem.Str.ofString "many", .int many tm)]) ?k1 ?k2 ?k3 ?k4 ?k5 ?kA ?kF ?kK ?k6 ?k7 ?k8 ?k9 ?kB ?_ ?c2 ?c3 ?c4 ?c5; (case kA => exact rfl); (case kF => exact rfl); (case kK => assumption); (case k1 => k_asm); (case k2 => k_asm); (case k3 => k_asm); (case k4 => k_asm); (case k5 => k_asm); (case k6 => k_is); (case k7 => k_is); (case k8 => ktr_room); (case k9 => exact BindsTo.of_eq rfl); (case c5 => decide); (case kB => exact locs rfl); (case c2 => exact rfl); (case c3 => exact rfl); (case c4 => exact rfl); k_whole)
  intro g' L' h' FG' F' N' B' X' T'
  (try dsimp only)
  (try k_fold)
  k_steps
  all_goals exact hret _ _ _ _ (by k_asm) (by k_asm) ⟨_, [], rfl, Fresh.nil, rfl, _, _, _, _, rfl, (fmod_in hm).1, (fmod_in hm).2, rfl⟩
end
-- part FContra
section
example : True := by
  w_top off
  trivial
set_option maxHeartbeats 8000000 in
theorem contra_ok {w : World} {news : Led} {v1 v2 : Value} {x y : Wd} (h1 : WdAt news v1 x) (h2 : WdAt news v2 y) :
    Fn w 191 [v1, v2] news 2 20 fun r n => n = news ∧ r = .bool (contra x y) := by
  refine goalAside fun Xg kg => ?_
  obtain ⟨a1, n1, t1, t2, rfl, m1⟩ := h1
  refine kg ?_
  clear kg Xg
  refine goalAside fun Xg kg => ?_
  obtain ⟨a2, n2, t3, t4, rfl, m2⟩ := h2
  refine kg ?_
  clear kg Xg
  refine goalAside fun Xg kg => ?_
  obtain ⟨r1, b1, e1, f1⟩ := x
  refine kg ?_
  clear kg Xg
  refine goalAside fun Xg kg => ?_
  obtain ⟨r2, b2, e2, f2⟩ := y
  refine kg ?_
  clear kg Xg
  dsimp only at m1 m2
  intro p loose mean mg mb dp un gd cn cs a ccd cl outer A₀ base h₀ L m s Q E B F X N T hk hd hu hret
  refine wpAny_call ?_
  k_dflt (refine' code_def (binds := [(PySem.Str.ofString "one", .ref a1), (PySem.Str.ofString "other", .ref a2)]) ?k1 ?k2 ?k3 ?k4 ?k5 ?kA ?kF ?kK ?k6 ?k7 ?k8 ?k9 ?kB ?_ ?c2 ?c3 ?c4 ?c5; (case kA => exact rfl); (case kF => exact rfl); (case kK => assumption); (case k1 => k_asm); (case k2 => k_asm); (case k3 => k_asm); (case k4 => k_asm); (case k5 => k_asm); (case k6 => k_is); (case k7 => k_is); (case k8 => ktr_room); (case k9 => exact BindsTo.of_eq rfl); (case c5 => decide); (case kB => exact locs rfl); (case c2 => exact rfl); (case c3 => exact rfl); (case c4 => exact rfl); k_whole)
  intro g' L' h' FG' F' N' B' X' T'
  (try dsimp only)
  (try k_fold)
  k_steps
  all_goals (refine hret _ _ _ _ (by k_asm) (by k_asm) ⟨rfl, ?_⟩; simp_all [contra])
end
-- part FExc
section
example : True := by
  w_top off
  trivial
theorem meta_Exception : typeOf (.type "Exception") = pure (.type "type") := by kernel_rfl
abbrev quicEs (P : Params) (t1 t2 t3 : Tok) (code frame text : Value) : List DictEntry :=
  [⟨PyData.keyHash P (Str.ofString "code"), .str (Str.ofString "code") t1, code⟩,
   ⟨PyData.keyHash P (Str.ofString "frame_type"), .str (Str.ofString "frame_type") t2, frame⟩,
   ⟨PyData.keyHash P (Str.ofString "text"), .str (Str.ofString "text") t3, text⟩]
noncomputable def IsExc (w : World) (c f : Int) (es : List DictEntry) : Prop := ∃ u1 u2 u3 u4 u5 tx, es = quicEs w.params u1 u2 u3 (.int c u4) (.int f u5) tx
local macro_rules | `(tactic| walk_at "getMethod type:Exception") => `(tactic| (k_here; refine' method_type (by k_asm) (by k_asm) meta_Exception (by decide +kernel) (by k_dflt k_is) (by k_handed) ?_))
local macro_rules | `(tactic| walk_at "call builtin:Exception.__init__") => `(tactic| (k_here; k_dflt (refine' exc_init_call (K := Mine.hd.heap_1 _) PySem.F.excBase_Exception ?F ?N ?X ?C ?U ?z ?_; (case F => k_asm); (case N => k_asm); (case X => k_in); (case U => k_updF); (case C => k_is); (case z => size_fits); k_whole); intro t' h' F' N' l1; (try dsimp only at N'); (try k_lt l1); (try k_sweep)))
local macro_rules | `(tactic| walk_at "setAttr ref") => `(tactic| (k_here; k_dflt (first
  | (refine' exc_set0 PySem.F.store_Exception ?F ?X ?N ?U ?c ?m ?hh ?s ?t ?e ?z ?_; (case F => k_asm); (case X => k_asm); (case N => k_asm); (case U => k_updF); (case c => k_is); (case m => exact rfl); (case hh => exact rfl); (case s => k_is); (case t => k_is); (case e => k_put); (case z => exact Nat.le_of_ble_eq_true rfl); k_whole; intro dx h' F' N' l1; (try dsimp only at N'); (try k_lt l1); (try k_sweep))
  | (refine' exc_set PySem.F.store_Exception ?F ?X ?N ?m1 ?m2 ?c ?m ?hh ?s ?t ?l ?U ?e ?z ?_; (case F => k_asm); (case X => k_asm); (case N => k_asm); (case m1 => k_mem); (case m2 => k_mem); (case c => k_is); (case m => exact rfl); (case hh => exact rfl); (case s => k_is); (case t => k_is); (case l => k_get); (case e => k_put); (case U => k_upd); (case z => exact Nat.le_of_ble_eq_true rfl); k_whole; intro h' F' N'; (try k_sweep)))))

theorem perm4 {h₀ h : Heap} {L : Addr} {a b c d : Addr × Obj} {r : Led} (N : News h₀ L h (a :: b :: c :: d :: r)) : News h₀ L h (c :: a :: b :: r) := fun p hp => N p (by
  simp only [List.mem_cons] at hp ⊢
  rcases hp with q | q | q | q <;> simp [q])
-- QuicError(c, f, txt): the exception with its three names
set_option maxHeartbeats 8000000 in
theorem quic_make {w : World} {A A₀ : Around} {env : Env} {outer : List Env} {p : Program} {loose : List Str} {mean : ExcName → Option Value} {mg mb : Str → Option Value} {base h₀ : Heap} {L : Addr} {m : Str → Option Value} {s : Shared} {Q E : Value → Shared → Prop} {news : Led} {c f : Int} {t1 t2 t3 : Tok} {txt : Str}
    (B : Below A₀ base outer h₀) (F : Fr h₀ L s.heap m) (X : (Mine.hd.heap_1 w.params).In h₀) (N : News h₀ L s.heap news) (T : Top p loose mean mg mb h₀) (hA : A.frames = some (env :: outer)) (hf : env.frame = some L) (hke : env.scope.kind = .function)
    (hd : A.depth + 3 < recursionLimit) (hu : A.units + 30 < cLine) (hc0 : 0 ≤ c) (hc : c < 10) (hx : txt.length ≤ 100)
    (hret : ∀ e de t (es : List DictEntry) vs h' tk', IsExc w c f es → Fr h₀ L h' m → News h₀ L h' ((e, excObj 38 (some de) t) :: (de, dictOf es 3) :: (t, { cls := .type "tuple", data := .seq vs }) :: news) → (∀ p ∈ news, p.1 < e ∧ p.1 < de ∧ p.1 < t) → e ≠ de → e ≠ t → de ≠ t → Q (.ref e) { s with heap := h', toks := tk' }) :
    wpAny (model Challenge.pw_tk0094_01 w) A (call (.ref 38) [.int c t1, .int f t2, .str txt t3]) Q E s := by
  refine goalAside fun Xg kg => ?_
  obtain ⟨hp, gs, dr, tk, os⟩ := s
  refine kg ?_
  clear kg Xg
  refine wpAny_call (exc_call (K := Mine.hd.heap_1 w.params) PySem.F.excBase_Exception (X.keeps F.keep _ _ (by k_dflt k_is)) (X.keeps F.keep) (by k_dflt k_is) (by k_dflt k_is) (by rw [sizeLine_eq]; exact Nat.le_of_ble_eq_true rfl) ?_)
  have F2 := (F.push ({ cls := .type "tuple", data := .seq [Value.int c t1, Value.int f t2, Value.str txt t3].toArray } : Obj)).push (excObj 38 none hp.objs.size)
  have N2 := (N.push F ({ cls := .type "tuple", data := .seq [Value.int c t1, Value.int f t2, Value.str txt t3].toArray } : Obj)).push (F.push _) (excObj 38 none hp.objs.size)
  rw [Heap.size_push] at N2
  have hlt : ∀ p ∈ news, p.1 < hp.objs.size := fun p hp' => Heap.lt_size (N p hp').1
  dsimp only at F2 N2 ⊢
  generalize hp.objs.size = t0 at F2 N2 hlt ⊢
  generalize (hp.push ({ cls := .type "tuple", data := .seq [Value.int c t1, Value.int f t2, Value.str txt t3].toArray } : Obj)).push (excObj 38 none t0) = H2 at F2 N2 ⊢
  clear F N
  have l0 := hlt
  replace hlt := allLt_of hlt
  obtain ⟨e, he⟩ : ∃ e, e = t0 + 1 := ⟨_, rfl⟩
  have l1 : ∀ p ∈ news, p.1 < e := fun p hp' => he ▸ Nat.lt_succ_of_lt (l0 p hp')
  have hlt2 := allLt_of l1
  have h0e : t0 < e := he ▸ Nat.lt_succ_self _
  replace h0e := ltN h0e
  rw [← he] at N2 ⊢
  k_dflt (refine' code_def (binds := [(PySem.Str.ofString "self", .ref e), (PySem.Str.ofString "code", .int c t1), (PySem.Str.ofString "frame_type", .int f t2), (PySem.Str.ofString "text", .str txt t3)]) ?k1 ?k2 ?k3 ?k4 ?k5 ?kA ?kF ?kK ?k6 ?k7 ?k8 ?k9 ?kB ?_ ?c2 ?c3 ?c4 ?c5; (case kA => exact hA); (case kF => exact hf); (case kK => assumption); (case k1 => k_asm); (case k2 => k_asm); (case k3 => k_asm); (case k4 => k_asm); (case k5 => k_asm); (case k6 => k_is); (case k7 => k_is); (case k8 => ktr_room); (case k9 => exact BindsTo.of_eq rfl); (case c5 => decide); (case kB => exact locs rfl); (case c2 => exact rfl); (case c3 => exact rfl); (case c4 => exact rfl); k_whole)
  intro g' L' h' FG' F' N' B' X' T'
  (try dsimp only)
  (try k_fold)
  k_steps
  (rename (_ ∧ _ ∧ _ ∧ AllLt _ news) => q1)
  refine goalAside fun Xg kg => ?_
  obtain ⟨q2, q3, q4, q5⟩ := q1
  refine kg ?_
  clear kg Xg
  (rename (_ ∧ _ ∧ AllLt _ news) => q6)
  obtain ⟨q7, q8, q9⟩ := q6
  exact hret e _ _ _ _ _ _ ⟨_, _, _, _, _, _, rfl⟩ (by k_asm) (perm4 (by k_asm)) (fun p hp' => ⟨l1 p hp', kst_ltOf q5 p hp', kst_ltOf q9 p hp'⟩) (Nat.ne_of_lt q3) (Nat.ne_of_lt q7) (Nat.ne_of_gt q2)
end
-- part FHas
section
example : True := by
  w_top off
  trivial
noncomputable def hasR (ps : List Pc) (lo hi : Int) : Bool := decide (lo ≥ hi) || ps.any fun p => decide ((p.1 : Int) ≤ lo) && decide (hi ≤ (p.2 : Int))
set_option maxHeartbeats 8000000 in
theorem has_ok {w : World} {news : Led} {pl : Addr} {ps : List Pc} {lo hi : Int} {t1 t2 : Tok} (hS : SpsAt news pl ps) :
    Fn w 67 [.ref pl, .int lo t1, .int hi t2] news 10 80 (fun r n => n = news ∧ r = .bool (hasR ps lo hi)) := by
  refine goalAside fun Xg kg => ?_
  obtain ⟨vs, nn, hm, ha⟩ := hS
  refine kg ?_
  clear kg Xg
  intro p loose mean mg mb dp un gd cn cs a ccd cl outer A₀ base h₀ L m s Q E B F X N T hk hd hu hret
  refine wpAny_call ?_
  k_dflt (refine' code_def (binds := [(PySem.Str.ofString "spans", .ref pl), (PySem.Str.ofString "low", .int lo t1), (PySem.Str.ofString "high", .int hi t2)]) ?k1 ?k2 ?k3 ?k4 ?k5 ?kA ?kF ?kK ?k6 ?k7 ?k8 ?k9 ?kB ?_ ?c2 ?c3 ?c4 ?c5; (case kA => exact rfl); (case kF => exact rfl); (case kK => assumption); (case k1 => k_asm); (case k2 => k_asm); (case k3 => k_asm); (case k4 => k_asm); (case k5 => k_asm); (case k6 => k_is); (case k7 => k_is); (case k8 => ktr_room); (case k9 => exact BindsTo.of_eq rfl); (case c5 => decide); (case kB => exact locs rfl); (case c2 => exact rfl); (case c3 => exact rfl); (case c4 => exact rfl); k_whole)
  intro g' L' h' FG' F' N' B' X' T'
  (try dsimp only)
  (try k_fold)
  k_steps
  · refine hret _ _ _ _ (by k_asm) (by k_asm) ⟨rfl, ?_⟩
    simp_all [hasR]
  · refine for_list (l := pl) (vs := vs) (nn := nn) (J := fun i m nx => nx = news ∧ FmIs m [] [Str.ofString "one", Str.ofString "other"] (fun y => List.lookup y [(Str.ofString "spans", Value.ref pl), (Str.ofString "low", Value.int lo t1), (Str.ofString "high", Value.int hi t2)].reverse) ∧ ∀ p ∈ ps.take i, ¬ ((p.1 : Int) ≤ lo ∧ hi ≤ (p.2 : Int))) rfl ?_ (by intro _; rfl) F' N' hm ⟨rfl, ⟨(fun _ h => nomatch h), fun _ _ => rfl⟩, fun _ h => by simp at h⟩ ?_ ?_
    · intro Q' hq
      k_steps
      exact hq
    · rintro i v m₁ news₁ I oI h9 tk9 hv ⟨rfl, hf, hns⟩ hl₁ hne F₁ N₁
      obtain ⟨u, rfl⟩ := hf.get
      refine goalAside fun Xg kg => ?_
      obtain ⟨⟨b, e⟩, hpi, a1, n1, t3, t4, rfl, hmem⟩ := ha.get hv
      refine kg ?_
      clear kg Xg
      dsimp only [fm] at F₁
      clear F' N'
      k_steps
      · show qk (Flow.ret _) _
        k_steps
        refine hret _ _ _ _ (by k_asm) (drop1 (by k_asm)) ⟨rfl, ?_⟩
        have hin : (b, e) ∈ ps := List.mem_of_getElem? hpi
        have : (ps.any fun p => decide ((p.1 : Int) ≤ lo) && decide (hi ≤ (p.2 : Int))) = true := List.any_eq_true.mpr ⟨_, hin, by simp_all⟩
        simp [hasR, this]
      · refine LpEnd.intro (by k_asm) (by k_asm) hne hl₁ ⟨rfl, by (refine ⟨?_, ?_⟩; (focus (repeat' (first | exact (List.forall_mem_nil _) | refine List.forall_mem_cons.mpr ⟨rfl, ?_⟩))); (focus ((repeat (refine fm_out (by rfl) ?_)); first | exact fm_base | exact fun _ _ => rfl))), fun q hq => ?_⟩
        rcases mem_take_succ hpi hq with h | rfl
        · exact hns q h
        · dsimp only; omega
      · refine LpEnd.intro (by k_asm) (by k_asm) hne hl₁ ⟨rfl, by (refine ⟨?_, ?_⟩; (focus (repeat' (first | exact (List.forall_mem_nil _) | refine List.forall_mem_cons.mpr ⟨rfl, ?_⟩))); (focus ((repeat (refine fm_out (by rfl) ?_)); first | exact fm_base | exact fun _ _ => rfl))), fun q hq => ?_⟩
        rcases mem_take_succ hpi hq with h | rfl
        · exact hns q h
        · dsimp only; omega
    · rintro m₁ news₁ h9 tk9 ⟨rfl, hf, hns⟩ F₁ N₁
      obtain ⟨u, rfl⟩ := hf.get
      dsimp only [fm] at F₁
      clear F' N'
      k_steps
      refine hret _ _ _ _ (by k_asm) (by k_asm) ⟨rfl, ?_⟩
      rw [ha.length, List.take_length] at hns
      have h0 : ¬ (lo ≥ hi) := by omega
      have : (ps.any fun p => decide ((p.1 : Int) ≤ lo) && decide (hi ≤ (p.2 : Int))) = false := by
        rw [List.any_eq_false]
        intro q hq
        have := hns q hq
        simp only [Bool.and_eq_true, decide_eq_true_eq]
        exact this
      simp [hasR, this, h0]
end
-- part FCheck
section
example : True := by
  w_top off
  trivial
local macro_rules | `(tactic| walk_at "call ref") => `(tactic| (k_here; (with_reducible show wpAny _ _ (call (Value.ref 38) _) _ _ _); k_dflt (refine' quic_make (by k_asm) (by k_asm) (by k_asm) (by k_asm) (by k_asm) rfl rfl rfl (by ktr_room) (by ktr_units) (by decide) (by decide) (by decide) ?_; k_whole)))
local macro_rules | `(tactic| walk_at "exec Raise some none") => `(tactic| (refine raise_exc rfl ?_))
noncomputable def checkR (σ : PSt) (en : Int) (isf : Bool) : Option Int :=
  if (match σ.fin with | none => false | some k => decide (en > k) || (isf && en != k)) = true then some 6
  else if (isf && decide (en < σ.hi)) = true then some 6
  else if en > σ.lim then some 3 else none
set_option maxHeartbeats 8000000 in
theorem check_ok {w : World} {news : Led} {x dx : Addr} {o : Obj} {σ : PSt} {en ty : Int} {u4 u5 : Tok} {isf : Bool} (hx : (x, instObj 154 dx) ∈ news) (ho : (dx, o) ∈ news) (hP : PartAt w σ o) :
    FnE w 88 [.ref x, .int en u4, .bool isf, .int ty u5] news 10 80 (fun r n => n = news ∧ r = .none ∧ checkR σ en isf = none) (fun es => ∃ c, checkR σ en isf = some c ∧ IsExc w c ty es) := by
  obtain ⟨t1, t2, t3, t4, t5, t6, t7, t8, u1, u2, u3, u6, fv, rv, sv, rfl, hfv, hsv⟩ := hP
  refine goalAside fun Xg kg => ?_
  obtain ⟨lim, st, pl, rd, hi, fin, stop⟩ := σ
  refine kg ?_
  clear kg Xg
  dsimp only at *
  cases fin with
  | none =>
    obtain rfl : fv = .none := hfv
    intro p loose mean mg mb dp un gd cn cs a ccd cl outer A₀ base h₀ L m s Q E B F X N T hk hd hu hret hexc
    refine wpAny_call ?_
    k_dflt (refine' code_def (binds := [(PySem.Str.ofString "self", .ref x), (PySem.Str.ofString "end", .int en u4), (PySem.Str.ofString "is_final", .bool isf), (PySem.Str.ofString "frame_type", .int ty u5)]) ?k1 ?k2 ?k3 ?k4 ?k5 ?kA ?kF ?kK ?k6 ?k7 ?k8 ?k9 ?kB ?_ ?c2 ?c3 ?c4 ?c5; (case kA => exact rfl); (case kF => exact rfl); (case kK => assumption); (case k1 => k_asm); (case k2 => k_asm); (case k3 => k_asm); (case k4 => k_asm); (case k5 => k_asm); (case k6 => k_is); (case k7 => k_is); (case k8 => ktr_room); (case k9 => exact BindsTo.of_eq rfl); (case c5 => decide); (case kB => exact locs rfl); (case c2 => exact rfl); (case c3 => exact rfl); (case c4 => exact rfl); k_whole)
    intro g' L' h' FG' F' N' B' X' T'
    (try dsimp only)
    (try k_fold)
    k_steps
    all_goals first
      | (refine hret _ _ _ _ (by k_asm) (by k_asm) ⟨rfl, rfl, ?_⟩; unfold checkR; dsimp only; (repeat' split) <;> simp_all <;> omega)
      | (refine raiseQ_of X' (by k_asm) (by k_asm) ?_
         k_unfold
         refine leaveX_first B' (by k_asm) (drop3 (by k_asm)) ?_ ?_
         · refine List.forall_mem_cons.mpr ⟨Ne.symm (by assumption), fun p hp => Nat.ne_of_lt ?_⟩
           (rename (∀ p ∈ news, p.1 < _ ∧ p.1 < _ ∧ p.1 < _) => q9)
           exact (q9 p hp).1
         · intro h9 R9 U9
           refine hexc _ _ _ _ _ _ FG' R9 U9 ⟨_, ?_, by assumption⟩
           unfold checkR; dsimp only; (repeat' split) <;> simp_all <;> omega)
  | some k =>
    obtain ⟨u7, rfl⟩ := hfv
    intro p loose mean mg mb dp un gd cn cs a ccd cl outer A₀ base h₀ L m s Q E B F X N T hk hd hu hret hexc
    refine wpAny_call ?_
    k_dflt (refine' code_def (binds := [(PySem.Str.ofString "self", .ref x), (PySem.Str.ofString "end", .int en u4), (PySem.Str.ofString "is_final", .bool isf), (PySem.Str.ofString "frame_type", .int ty u5)]) ?k1 ?k2 ?k3 ?k4 ?k5 ?kA ?kF ?kK ?k6 ?k7 ?k8 ?k9 ?kB ?_ ?c2 ?c3 ?c4 ?c5; (case kA => exact rfl); (case kF => exact rfl); (case kK => assumption); (case k1 => k_asm); (case k2 => k_asm); (case k3 => k_asm); (case k4 => k_asm); (case k5 => k_asm); (case k6 => k_is); (case k7 => k_is); (case k8 => ktr_room); (case k9 => exact BindsTo.of_eq rfl); (case c5 => decide); (case kB => exact locs rfl); (case c2 => exact rfl); (case c3 => exact rfl); (case c4 => exact rfl); k_whole)
    intro g' L' h' FG' F' N' B' X' T'
    (try dsimp only)
    (try k_fold)
    k_steps
    all_goals first
      | (refine hret _ _ _ _ (by k_asm) (by k_asm) ⟨rfl, rfl, ?_⟩; unfold checkR; dsimp only; (repeat' split) <;> simp_all <;> omega)
      | (refine raiseQ_of X' (by k_asm) (by k_asm) ?_
         k_unfold
         refine leaveX_first B' (by k_asm) (drop3 (by k_asm)) ?_ ?_
         · refine List.forall_mem_cons.mpr ⟨Ne.symm (by assumption), fun p hp => Nat.ne_of_lt ?_⟩
           (rename (∀ p ∈ news, p.1 < _ ∧ p.1 < _ ∧ p.1 < _) => q9)
           exact (q9 p hp).1
         · intro h9 R9 U9
           refine hexc _ _ _ _ _ _ FG' R9 U9 ⟨_, ?_, by assumption⟩
           unfold checkR; dsimp only; (repeat' split) <;> simp_all <;> omega)
end
-- part FGrown
section
example : True := by
  w_top off
  trivial
set_option maxHeartbeats 8000000 in
theorem grown_ok {w : World} {news : Led} {g : Obj → Led} {x dx : Addr} {o : Obj} {σ : PSt} {en : Int} {u4 : Tok} (Up : UpdF dx o news g) (hx : (x, instObj 154 dx) ∈ news) (hne : x ≠ dx) (hP : PartAt w σ o) :
    Fn w 95 [.ref x, .int en u4] news 10 80 (fun r n => ∃ o' new, n = new ++ g o' ∧ Fresh new news ∧ new = [] ∧ PartAt w { σ with hi := max σ.hi en } o' ∧ ∃ t, r = .int (max 0 (en - σ.hi)) t) := by
  refine Fn.upd Up fun rest hoff hin hsub => ?_
  have hx2 := hin _ hx hne
  obtain ⟨t1, t2, t3, t4, t5, t6, t7, t8, u1, u2, u3, u6, fv, rv, sv, rfl, hfv, hsv⟩ := hP
  refine goalAside fun Xg kg => ?_
  obtain ⟨lim, st, pl, rd, hi, fin, stop⟩ := σ
  refine kg ?_
  clear kg Xg
  dsimp only at *
  intro p loose mean mg mb dp un gd cn cs a ccd cl outer A₀ base h₀ L m s Q E B F X N T hk hd hu hret
  refine wpAny_call ?_
  k_dflt (refine' code_def (binds := [(PySem.Str.ofString "self", .ref x), (PySem.Str.ofString "end", .int en u4)]) ?k1 ?k2 ?k3 ?k4 ?k5 ?kA ?kF ?kK ?k6 ?k7 ?k8 ?k9 ?kB ?_ ?c2 ?c3 ?c4 ?c5; (case kA => exact rfl); (case kF => exact rfl); (case kK => assumption); (case k1 => k_asm); (case k2 => k_asm); (case k3 => k_asm); (case k4 => k_asm); (case k5 => k_asm); (case k6 => k_is); (case k7 => k_is); (case k8 => ktr_room); (case k9 => exact BindsTo.of_eq rfl); (case c5 => decide); (case kB => exact locs rfl); (case c2 => exact rfl); (case c3 => exact rfl); (case c4 => exact rfl); k_whole)
  intro g' L' h' FG' F' N' B' X' T'
  (try dsimp only)
  (try k_fold)
  k_steps
  (rename News h₀ L _ _ => kN)
  have e1 : (if en - hi > 0 then en - hi else 0) = max 0 (en - hi) := by split <;> omega
  have e2 : hi + (if en - hi > 0 then en - hi else 0) = max hi en := by split <;> omega
  rw [e2] at kN
  rw [e1]
  exact hret _ _ _ _ (by k_asm) kN ⟨_, [], rfl, Fresh.nil, rfl, ⟨_, _, _, _, _, _, _, _, _, _, _, _, _, _, _, rfl, hfv, hsv⟩, _, rfl⟩
end
-- part FPart
section
example : True := by
  w_top off
  trivial
theorem lt_le {a b : Addr} (h : a < b) : ∀ {l : Led}, AllLt a l → AllLt b l
  | [], _ => trivial
  | _ :: _, q => ⟨Nat.lt_trans q.1 h, lt_le h q.2⟩
theorem perm3 {h₀ h : Heap} {L : Addr} {a b c : Addr × Obj} {r : Led} (N : News h₀ L h (a :: b :: c :: r)) : News h₀ L h ([c, b, a] ++ r) := fun p hp => N p (by
  simp only [List.mem_cons, List.cons_append, List.nil_append] at hp ⊢
  rcases hp with q | q | q | q <;> simp [q])
set_option maxHeartbeats 8000000 in
theorem part_make {w : World} {news : Led} {lim : Int} {tl : Tok} :
    Fn w 154 [.int lim tl] news 10 80 (fun r n => ∃ x dx pl o c, r = .ref x ∧ n = [(dx, o), (x, instObj 154 dx), (pl, listOf #[] c)] ++ news ∧ (∀ p ∈ news, p.1 < dx ∧ p.1 < x ∧ p.1 < pl) ∧ dx < x ∧ x < pl ∧ PartAt w ⟨lim, "recv", pl, 0, 0, none, none⟩ o) := by
  intro p loose mean mg mb dp un gd cn cs a ccd cl outer A₀ base h₀ L m s Q E B F X N T hk hd hu hret
  k_dflt (refine' call_cls ?k1 ?k2 ?k3 ?k4 ?k5 ?k6 ?_; (case k1 => k_asm); (case k2 => k_asm); (case k3 => k_asm); (case k4 => k_is); (case k5 => k_is); (case k6 => k_is); k_whole)
  intro x dx h1 F1 N1 l1 l2
  have l0 := l1
  replace l1 := allLt_of l1
  have l3 := lt_le l2 l1
  k_lt2 l2
  k_dflt (refine' code_def (binds := [(PySem.Str.ofString "self", .ref x), (PySem.Str.ofString "limit", .int lim tl)]) ?k1 ?k2 ?k3 ?k4 ?k5 ?kA ?kF ?kK ?k6 ?k7 ?k8 ?k9 ?kB ?_ ?c2 ?c3 ?c4 ?c5; (case kA => exact rfl); (case kF => exact rfl); (case kK => assumption); (case k1 => k_asm); (case k2 => k_asm); (case k3 => k_asm); (case k4 => k_asm); (case k5 => k_asm); (case k6 => k_is); (case k7 => k_is); (case k8 => ktr_room); (case k9 => exact BindsTo.of_eq rfl); (case c5 => decide); (case kB => exact locs rfl); (case c2 => exact rfl); (case c3 => exact rfl); (case c4 => exact rfl); k_whole)
  intro g' L' h' FG' F' N' B' X' T'
  (try dsimp only)
  (try k_fold)
  k_steps
  (rename (_ ∧ _ ∧ AllLt _ news) => q1)
  obtain ⟨q2, q3, q4⟩ := q1
  exact hret _ _ _ _ (by k_asm) (perm3 (by k_asm)) ⟨x, dx, _, _, _, rfl, rfl, fun p hp => ⟨l0 p hp, kst_ltOf l3 p hp, kst_ltOf q4 p hp⟩, l2, q2, ⟨_, _, _, _, _, _, _, _, _, _, _, _, .none, .none, .none, rfl, rfl, rfl⟩⟩
end
-- part FCov
section
example : True := by
  w_top off
  trivial
set_option maxHeartbeats 8000000 in
theorem cov_ok {w : World} {news : Led} {pl : Addr} {ps : List Pc} (hP : PcsAt news pl ps) (hlt : ∀ p ∈ ps, p.1 ≤ p.2 ∧ p.2 ≤ 8) (hn : ps.length ≤ 8) :
    Fn w 60 [.ref pl] news 10 80 (fun r n => ∃ new a, n = new ++ news ∧ Fresh new news ∧ r = .ref a ∧ SpsAt n a ps) := by
  refine goalAside fun Xg kg => ?_
  obtain ⟨vs, nn, hm, ha⟩ := hP
  refine kg ?_
  clear kg Xg
  have hvl := ha.length
  have hDs : ∀ p ∈ ps, (D p.1 p.2).size ≤ 8 := fun p hp => by have := hlt p hp; rw [D_size]; omega
  intro p loose mean mg mb dp un gd cn cs a ccd cl outer A₀ base h₀ L m s Q E B F X N T hk hd hu hret
  refine wpAny_call ?_
  k_dflt (refine' code_def (binds := [(PySem.Str.ofString "pieces", .ref pl)]) ?k1 ?k2 ?k3 ?k4 ?k5 ?kA ?kF ?kK ?k6 ?k7 ?k8 ?k9 ?kB ?_ ?c2 ?c3 ?c4 ?c5; (case kA => exact rfl); (case kF => exact rfl); (case kK => assumption); (case k1 => k_asm); (case k2 => k_asm); (case k3 => k_asm); (case k4 => k_asm); (case k5 => k_asm); (case k6 => k_is); (case k7 => k_is); (case k8 => ktr_room); (case k9 => exact BindsTo.of_eq rfl); (case c5 => decide); (case kB => exact locs rfl); (case c2 => exact rfl); (case c3 => exact rfl); (case c4 => exact rfl); k_whole)
  intro g' L' h' FG' F' N' B' X' T'
  (try dsimp only)
  (try k_fold)
  k_steps
  (refine Stop.to ?_; k_dflt (refine LCp.ListComp_P (F₀ := by k_asm) (by with_unfolding_all rfl) (by decide) (by rfl) (by decide) (by rfl) (by rfl) (by decide) ?_))
  k_steps
  refine LCp.SrcLP.ledger rfl F' N' hm (by rw [List.size_toArray]; exact Nat.le_trans (by omega : vs.length ≤ 8) (by decide)) ?_
  intro gg
  rw [List.size_toArray]
  refine compP_run (fun i ys nx => ∃ new, nx = new ++ news ∧ Fresh new news ∧ All2 (SpAt nx) ys (ps.take i)) vs.length ?_ ?_ _ _ _ _ (Nat.zero_add _) ⟨[], rfl, Fresh.nil, All2.nil⟩
  · rintro i ys nx v hi hp3g hv
    refine goalAside fun Xg kg => ?_
    obtain ⟨new, rfl, hf, hys⟩ := hp3g
    refine kg ?_
    clear kg Xg
    have hv' : vs[i]? = some v := by simpa using hv
    refine goalAside fun Xg kg => ?_
    obtain ⟨⟨b, e⟩, hpi, a1, n1, t3, t4, rfl, hmem⟩ := ha.get hv'
    refine kg ?_
    clear kg Xg
    refine ⟨a1, _, _, _, n1, rfl, List.mem_append_right _ hmem, rfl, rfl, ?_⟩
    have hin := List.mem_of_getElem? hpi
    have hbe := hlt _ hin
    have hsz := hDs _ hin
    dsimp only at hbe hsz
    have hee : (b : Int) + ((D b e).size : Int) = e := by rw [D_size]; omega
    intro I oI C oC D9 m₂ h9 tk9 E' hC hx hx2 F9 N9 off ne
    clear F' N'
    k_steps
    (rename News g' L' _ _ => N8)
    (rename (I < _ ∧ C < _ ∧ D9 < _ ∧ AllLt _ _) => l8)
    refine goalAside fun Xg kg => ?_
    obtain ⟨l1, l2, l3, l4⟩ := l8
    refine kg ?_
    clear kg Xg
    have l5 := allLt_ne l4
    rw [hee] at N8
    refine compEnd_new (by k_asm) N8 ?_ ?_ ⟨_ :: new, rfl, Fresh.cons (all_right l5) hf, ?_⟩
    · exact ⟨⟨Nat.ne_of_gt l1, Nat.ne_of_gt l2, Nat.ne_of_gt l3⟩, off⟩
    · exact .inr ⟨_, List.mem_cons_of_mem _ (List.mem_append_right _ hm), rfl, _, rfl⟩
    · rw [List.take_add_one, hpi]
      exact (All2.mono (fun _ _ q => q.mono fun _ hp => .tail _ hp) hys).snoc ⟨_, _, _, _, rfl, .head _⟩
  · rintro ys nx hp4g
    refine goalAside fun Xg kg => ?_
    obtain ⟨new, rfl, hf, hys⟩ := hp4g
    refine kg ?_
    clear kg Xg
    k_steps
    (rename LCg.Off1 _ _ => o8)
    rw [hvl, List.take_length] at hys
    refine hret _ _ _ _ (by k_asm) (by k_asm) ⟨_ :: new, _, rfl, Fresh.cons (all_right (off1_ne o8)) hf, rfl, ys, _, .head _, All2.mono (fun _ _ q => q.mono fun _ hp => .tail _ hp) hys⟩
end
-- part Sortp
section
example : True := by
  w_top off
  trivial
local macro_rules | `(tactic| walk_at "KatGo") => `(tactic| (refine kat_go (fun hk' => ?_) (fun hk' => ?_) <;> (try simp only [beq_iff_eq, beq_eq_false_iff_ne, ne_eq, decide_eq_true_eq, decide_eq_false_iff_not] at hk') <;> (try (exfalso; omega)) <;> (first | refine kat_yes ?_ | refine kat_no ?_)))
local macro_rules | `(tactic| walk_at "KasNext") => `(tactic| first | kas_known | (refine kas_split (fun hk' => ?_) (fun hk' => ?_) <;> (try simp only [decide_eq_true_eq, decide_eq_false_iff_not, Int.not_lt] at hk') <;> (try (exfalso; omega))))
set_option maxHeartbeats 8000000 in
-- sorted(found + [new])
theorem sort_pcs {w : World} {A : Around} {E : Value → Shared → Prop} {s : Shared} {h₀ : Heap} {L l d : Addr} {m : Str → Option Value} {news : Led} {fv : List Value} {fs : List Pc} {bg en k n : Nat} {t u : Tok} {Q : Value → Shared → Prop}
    {p : Program} {loose : List Str} {mean : ExcName → Option Value} {mg mb : Str → Option Value}
    (F : Fr h₀ L s.heap m) (X : (Mine.hd.heap_1 w.params).In h₀) (N : News h₀ L s.heap news) (T : Top p loose mean mg mb h₀) (hl : (l, listOf (fv ++ [Value.ref d]).toArray n) ∈ news) (hd : (d, tupN #[.int (bg : Int) t, .bytes (D bg en) u] k) ∈ news) (hfv : All2 (PcAt news) fv fs)
    (hgap : Gap 0 fs) (hoff : ∀ p ∈ fs, p.2 < bg ∨ en < p.1) (hpos : bg < en) (hlen : fs.length ≤ 3)
    (h : ∀ D c h' tk' rv, Fr h₀ L h' m → News h₀ L h' ((D, listOf rv.toArray c) :: news) → (∀ q ∈ news, q.1 ≠ D) → All2 (PcAt news) rv (ins (bg, en) fs) → Q (.ref D) { s with heap := h', toks := tk' }) :
    wpAny (model Challenge.pw_tk0094_01 w) A (call (.builtin "sorted") [.ref l]) Q E s := by
  rcases hfv with _ | ⟨⟨x1, n1, v1, w1, rfl, hm1⟩, hfv⟩
  · exact one_sorted F N (N.isList hl) fun D c h' F' N' l1 => h D c h' s.toks _ F' N' (fun q hq => Nat.ne_of_lt (l1 q hq)) (.cons ⟨_, _, _, _, rfl, hd⟩ .nil)
  · rename_i p1 gv fs
    obtain ⟨s1, e1⟩ := p1
    simp only [Gap] at hgap
    refine goalAside fun Xg kg => ?_
    obtain ⟨_, g1, g2, hgap⟩ := hgap
    refine kg ?_
    clear kg Xg
    have o1 := hoff (s1, e1) (.head _)
    dsimp only at o1 hm1
    rcases hfv with _ | ⟨⟨x2, n2, v2, w2, rfl, hm2⟩, hfv⟩
    · clear hoff hgap
      have hl2 : s.heap.IsList l [Value.ref x1, Value.ref d].toArray := N.isList hl
      refine kat_sorted F N hl2 (Nat.le_of_ble_eq_true rfl) (Nat.le_of_ble_eq_true rfl) ?_
      intro D' e' h' F' N' l1
      clear F N
      kat_kinds
      k_steps
      all_goals
        refine h _ _ _ _ _ (by k_asm) (by k_asm) (fun q hq => Nat.ne_of_lt (l1 q hq)) ?_
        repeat (first | rw [ins, if_pos (by dsimp only; omega)] | rw [ins, if_neg (by dsimp only; omega)] | rw [ins])
        repeat (first | exact .nil | refine .cons ⟨_, _, _, _, rfl, by assumption⟩ ?_)
    · rename_i p2 gv fs
      obtain ⟨s2, e2⟩ := p2
      simp only [Gap] at hgap
      refine goalAside fun Xg kg => ?_
      obtain ⟨g3, g4, g5, hgap⟩ := hgap
      refine kg ?_
      clear kg Xg
      have o2 := hoff (s2, e2) (.tail _ (.head _))
      dsimp only at o2 hm2
      rcases hfv with _ | ⟨⟨x3, n3, v3, w3, rfl, hm3⟩, hfv⟩
      · clear hoff hgap
        have hl2 : s.heap.IsList l [Value.ref x1, Value.ref x2, Value.ref d].toArray := N.isList hl
        refine kat_sorted F N hl2 (Nat.le_of_ble_eq_true rfl) (Nat.le_of_ble_eq_true rfl) ?_
        intro D' e' h' F' N' l1
        clear F N
        kat_kinds
        k_steps
        all_goals
          refine h _ _ _ _ _ (by k_asm) (by k_asm) (fun q hq => Nat.ne_of_lt (l1 q hq)) ?_
          repeat (first | rw [ins, if_pos (by dsimp only; omega)] | rw [ins, if_neg (by dsimp only; omega)] | rw [ins])
          repeat (first | exact .nil | refine .cons ⟨_, _, _, _, rfl, by assumption⟩ ?_)
      · rename_i p3 gv fs
        obtain ⟨s3, e3⟩ := p3
        simp only [Gap] at hgap
        refine goalAside fun Xg kg => ?_
        obtain ⟨g6, g7, g8, hgap⟩ := hgap
        refine kg ?_
        clear kg Xg
        have o3 := hoff (s3, e3) (.tail _ (.tail _ (.head _)))
        dsimp only at o3 hm3
        rcases hfv with _ | ⟨_, hfv⟩
        · clear hoff hgap
          have hl2 : s.heap.IsList l [Value.ref x1, Value.ref x2, Value.ref x3, Value.ref d].toArray := N.isList hl
          refine kat_sorted F N hl2 (Nat.le_of_ble_eq_true rfl) (Nat.le_of_ble_eq_true rfl) ?_
          intro D' e' h' F' N' l1
          clear F N
          kat_kinds
          k_steps
          all_goals
            refine h _ _ _ _ _ (by k_asm) (by k_asm) (fun q hq => Nat.ne_of_lt (l1 q hq)) ?_
            repeat (first | rw [ins, if_pos (by dsimp only; omega)] | rw [ins, if_neg (by dsimp only; omega)] | rw [ins])
            repeat (first | exact .nil | refine .cons ⟨_, _, _, _, rfl, by assumption⟩ ?_)
        · simp only [List.length_cons] at hlen
          omega
end
-- part FAdd
section
example : True := by
  w_top off
  trivial
local macro_rules | `(tactic| walk_at "call builtin:sorted") => `(tactic| (k_here; refine Stop.mk ?_))
theorem permA {h₀ h : Heap} {L : Addr} {a b c d : Addr × Obj} {r : Led} (N : News h₀ L h (a :: b :: c :: d :: r)) : News h₀ L h (c :: d :: a :: r) := fun p hp => N p (by
  simp only [List.mem_cons] at hp ⊢
  rcases hp with q | q | q | q <;> simp [q])
theorem permB {h₀ h : Heap} {L : Addr} {a b c d : Addr × Obj} {r : Led} (N : News h₀ L h (a :: b :: c :: d :: r)) : News h₀ L h (c :: d :: r) := fun p hp => N p (by
  simp only [List.mem_cons] at hp ⊢
  rcases hp with q | q | q <;> simp [q])
theorem ins_len {y : Pc} : ∀ {ps : List Pc}, (ins y ps).length = ps.length + 1
  | [] => rfl
  | p :: r => by
    unfold ins
    split
    · rw [List.length_cons, ins_len, List.length_cons]
    · rfl
set_option maxHeartbeats 8000000 in
theorem add_ok {w : World} {news : Led} {pl : Addr} {ps : List Pc} {b e : Nat} {u1 u2 : Tok} (hP : PcsAt news pl ps) (hg : Gap 0 ps) (hb : b ≤ e) (he : e ≤ 8) :
    Fn w 48 [.ref pl, .int b u1, .bytes (D b e) u2] news 10 80 (fun r n => ∃ new a, n = new ++ news ∧ Fresh new news ∧ r = .ref a ∧ PcsAt n a (addP ps b e) ∧ ∃ oa, (a, oa) ∈ new) := by
  refine goalAside fun Xg kg => ?_
  obtain ⟨vs, nn, hm, ha⟩ := hP
  refine kg ?_
  clear kg Xg
  have hvl := ha.length
  have hgl := gap_len (Nat.zero_le _) hg
  have hsz0 := D_size b e
  intro p loose mean mg mb dp un gd cn cs a ccd cl outer A₀ base h₀ L m s Q E B F X N T hk hd hu hret
  refine wpAny_call ?_
  k_dflt (refine' code_def (binds := [(PySem.Str.ofString "pieces", .ref pl), (PySem.Str.ofString "offset", .int b u1), (PySem.Str.ofString "data", .bytes (D b e) u2)]) ?k1 ?k2 ?k3 ?k4 ?k5 ?kA ?kF ?kK ?k6 ?k7 ?k8 ?k9 ?kB ?_ ?c2 ?c3 ?c4 ?c5; (case kA => exact rfl); (case kF => exact rfl); (case kK => assumption); (case k1 => k_asm); (case k2 => k_asm); (case k3 => k_asm); (case k4 => k_asm); (case k5 => k_asm); (case k6 => k_is); (case k7 => k_is); (case k8 => ktr_room); (case k9 => exact BindsTo.of_eq rfl); (case c5 => decide); (case kB => exact locs rfl); (case c2 => exact rfl); (case c3 => exact rfl); (case c4 => exact rfl); k_whole)
  intro g' L' h' FG' F' N' B' X' T'
  (try dsimp only)
  (try k_fold)
  k_steps
  · rename_i h0 D1 _ l1 _ _ _ _
    refine hret _ _ _ _ (by k_asm) (by k_asm) ⟨[_], _, rfl, Fresh.cons (fun p hp => Nat.ne_of_lt (l1 p hp)) Fresh.nil, rfl, ?_, _, .head _⟩
    have : addP ps b e = ps := if_pos (by omega)
    rw [this]
    exact ⟨vs, _, .head _, All2.mono (fun _ _ q => q.mono fun _ hp => .tail _ hp) ha⟩
  · rename_i fd _ hl1 t7 _ D7 _ hl7 _ _ _ h7 F1 N1 _
    have hfd : ∀ p ∈ news, p.1 ≠ fd := fun p hp => Nat.ne_of_lt (hl1 p hp)
    have hbe : b < e := by omega
    refine for_list (l := pl) (vs := vs) (nn := nn) (J := fun i m nx => ∃ fs bg en fv k new u3 u4, (ps.take i).foldl addStep ([], b, e) = (fs, bg, en) ∧ bg < en ∧ en ≤ 8 ∧ fv.length ≤ i ∧ nx = (fd, listOf fv.toArray k) :: (new ++ news) ∧ Fresh new ((fd, listOf fv.toArray k) :: news) ∧ All2 (PcAt (new ++ news)) fv fs ∧
        FmIs m [(Str.ofString "begin", .int (bg : Int) u3), (Str.ofString "joined", .bytes (D bg en) u4)] [Str.ofString "start", Str.ofString "octets", Str.ofString "end", Str.ofString "last", Str.ofString "ahead", Str.ofString "behind", Str.ofString "begin", Str.ofString "joined"]
          (fun y => if y = Str.ofString "found" then some (Value.ref fd) else List.lookup y [(Str.ofString "pieces", Value.ref pl), (Str.ofString "offset", Value.int (↑b) u1), (Str.ofString "data", Value.bytes (D b e) u2)].reverse))
      rfl ?_ (by intro _; rfl) F1 (drop1 N1) (.tail _ hm) ⟨[], b, e, [], 0, [], u1, t7, rfl, hbe, he, Nat.le_refl _, rfl, Fresh.nil, All2.nil, ⟨?_, ?_⟩⟩ ?_ ?_
    · intro Q' hq
      k_steps
      exact hq
    · repeat' (first | exact (List.forall_mem_nil _) | refine List.forall_mem_cons.mpr ⟨rfl, ?_⟩)
    · intro y hy
      dsimp only
      split
      · rfl
      · rw [if_neg (fun q => by rw [q] at hy; exact absurd hy (by decide)), if_neg (fun q => by rw [q] at hy; exact absurd hy (by decide))]
    · rintro i v m₁ news₁ I oI h9 tk9 hv hp5g hl₁ hne F₁ N₁
      refine goalAside fun Xg kg => ?_
      obtain ⟨fs, bg, en, fv, k, new, u3, u4, hfold, hbg, hen, hfl, rfl, hfr, hfv, hf⟩ := hp5g
      refine kg ?_
      clear kg Xg
      obtain ⟨u, rfl⟩ := hf.get
      refine goalAside fun Xg kg => ?_
      obtain ⟨⟨s1, e1⟩, hpi, a1, n1, t3, t4, rfl, hmem⟩ := ha.get hv
      refine kg ?_
      clear kg Xg
      have hse := gap_mem hg _ (List.mem_of_getElem? hpi)
      have hIfd : fd ≠ I := hne (fd, _) (.head _)
      have hIfd2 : I ≠ fd := Ne.symm hIfd
      have hvi : i < vs.length := (List.getElem?_eq_some_iff.mp hv).1
      have hszj := D_size bg en
      have hszo := D_size s1 e1
      dsimp only at hse
      dsimp only [fm] at F₁
      clear F1 N1
      (refine hide2 ?_; intro _ _)
      k_steps
      · rename_i a7 D8 _ l8 h8 F8 N8
        have hst : addStep (fs, bg, en) (s1, e1) = (fs ++ [(s1, e1)], bg, en) := if_pos (by dsimp only at a7 ⊢; omega)
        refine goalAside fun Xg kg => ?_
        obtain ⟨l81, l82, l83, l84⟩ := l8
        refine kg ?_
        clear kg Xg
        refine LpEnd.intro F8 (permA N8) ?_ (.tail _ (.tail _ (List.mem_append_right _ hm))) ⟨fs ++ [(s1, e1)], bg, en, _, _, _ :: new, _, _, ?_, hbg, hen, ?_, rfl, ?_, ?_, by (refine ⟨?_, ?_⟩; (focus (repeat' (first | exact (List.forall_mem_nil _) | refine List.forall_mem_cons.mpr ⟨rfl, ?_⟩))); (focus ((repeat (refine fm_out (by rfl) ?_)); first | exact fm_base | exact fun _ _ => rfl)))⟩
        · refine List.forall_mem_cons.mpr ⟨hIfd, List.forall_mem_cons.mpr ⟨Nat.ne_of_gt l82, fun p hp => hne p (.tail _ hp)⟩⟩
        · rw [List.take_add_one, hpi, List.foldl_append, hfold]; exact hst
        · rw [List.length_append, List.length_singleton]; omega
        · exact Fresh.cons (List.forall_mem_cons.mpr ⟨Nat.ne_of_lt l83, all_right (allLt_ne l84)⟩) (fun p hp => List.forall_mem_cons.mpr ⟨show p.1 ≠ fd from hfr p hp (fd, listOf fv.toArray k) (.head _), fun q hq => hfr p hp q (.tail _ hq)⟩)
        · exact (All2.mono (fun _ _ q => q.mono fun _ hp => .tail _ hp) hfv).snoc ⟨_, _, _, _, rfl, .head _⟩
      · rename_i a7 D8 _ l8 h8 F8 N8
        have hst : addStep (fs, bg, en) (s1, e1) = (fs ++ [(s1, e1)], bg, en) := if_pos (by dsimp only at a7 ⊢; omega)
        refine goalAside fun Xg kg => ?_
        obtain ⟨l81, l82, l83, l84⟩ := l8
        refine kg ?_
        clear kg Xg
        refine LpEnd.intro F8 (permA N8) ?_ (.tail _ (.tail _ (List.mem_append_right _ hm))) ⟨fs ++ [(s1, e1)], bg, en, _, _, _ :: new, _, _, ?_, hbg, hen, ?_, rfl, ?_, ?_, by (refine ⟨?_, ?_⟩; (focus (repeat' (first | exact (List.forall_mem_nil _) | refine List.forall_mem_cons.mpr ⟨rfl, ?_⟩))); (focus ((repeat (refine fm_out (by rfl) ?_)); first | exact fm_base | exact fun _ _ => rfl)))⟩
        · refine List.forall_mem_cons.mpr ⟨hIfd, List.forall_mem_cons.mpr ⟨Nat.ne_of_gt l82, fun p hp => hne p (.tail _ hp)⟩⟩
        · rw [List.take_add_one, hpi, List.foldl_append, hfold]; exact hst
        · rw [List.length_append, List.length_singleton]; omega
        · exact Fresh.cons (List.forall_mem_cons.mpr ⟨Nat.ne_of_lt l83, all_right (allLt_ne l84)⟩) (fun p hp => List.forall_mem_cons.mpr ⟨show p.1 ≠ fd from hfr p hp (fd, listOf fv.toArray k) (.head _), fun q hq => hfr p hp q (.tail _ hq)⟩)
        · exact (All2.mono (fun _ _ q => q.mono fun _ hp => .tail _ hp) hfv).snoc ⟨_, _, _, _, rfl, .head _⟩
      · rename_i c1 c2 _ _ _ _ _ P1 hP1 hPs1 _ _ _ _ _ P2 hP2 hPs2 _ _ _ _ _ _ _ _ D8 _ l8 _ _ h8 F8 N8 _
        try dsimp only at c2
        have hst : addStep (fs, bg, en) (s1, e1) = (fs, min bg s1, max en e1) := if_neg (by dsimp only; omega)
        have e7 : (if (s1 : Int) < (bg : Int) then (s1 : Int) else (bg : Int)) = ((min bg s1 : Nat) : Int) := by split <;> omega
        have e8 : P1 ++ D s1 e1 ++ P2 = D (min bg s1) (max en e1) := join_eq (Nat.le_of_lt hbg) (by omega) (by omega) (by omega) (by split <;> omega) (by split <;> omega) hP1 (by omega) hP2
        rw [e7, e8] at F8
        refine LpEnd.intro F8 (permB N8) hne hl₁ ⟨fs, min bg s1, max en e1, fv, k, new, _, _, ?_, by omega, by omega, by omega, rfl, hfr, hfv, by (refine ⟨?_, ?_⟩; (focus (repeat' (first | exact (List.forall_mem_nil _) | refine List.forall_mem_cons.mpr ⟨rfl, ?_⟩))); (focus ((repeat (refine fm_out (by rfl) ?_)); first | exact fm_base | exact fun _ _ => rfl)))⟩
        rw [List.take_add_one, hpi, List.foldl_append, hfold]; exact hst
    · rintro m₁ news₁ h9 tk9 hp6g F₁ N₁
      refine goalAside fun Xg kg => ?_
      obtain ⟨fs, bg, en, fv, k, new, u3, u4, hfold, hbg, hen, hfl, rfl, hfr, hfv, hf⟩ := hp6g
      refine kg ?_
      clear kg Xg
      obtain ⟨u, rfl⟩ := hf.get
      dsimp only [fm] at F₁
      clear F1 N1
      rw [hvl, List.take_length] at hfold
      obtain ⟨k', hok⟩ := fold_ok ps 0 [] b e hg ⟨trivial, (fun _ h => nomatch h), (fun _ h => nomatch h), hbe, he⟩
      rw [hfold] at hok
      have hadd : addP ps b e = ins (bg, en) fs := by
        unfold addP
        rw [if_neg (by omega), hfold]
      rw [hadd] at hret
      have hgi := gap_len (Nat.zero_le _) (ins_gap hok.gap hok.off (Nat.zero_le _) hok.pos hok.le)
      rw [ins_len] at hgi
      refine goalAside fun Xg kg => ?_
      obtain ⟨hgap, _, hoff, hpos, _⟩ := hok
      refine kg ?_
      clear kg Xg
      have hl4 := hfv.length
      have hfs3 : fs.length ≤ 3 := by dsimp only at hgi; omega
      k_steps
      rename_i D1 _ la l2 _ lb D3 h3 F3 N3 lc
      refine Stop.to ?_
      refine sort_pcs F3 X' N3 T' (.head _) (.tail _ (.tail _ (.head _))) (All2.mono (fun _ _ q => q.mono fun _ hp => .tail _ (.tail _ (.tail _ (.tail _ hp)))) hfv) hgap hoff hpos hfs3 ?_
      intro D5 c5 h5 tk5 rv F5 N5 l5 hrv
      clear F3 N3
      k_steps
      refine hret _ _ _ _ (by k_asm) (by k_asm) ⟨(D5, _) :: (D3, _) :: (l2, _) :: (D1, _) :: (fd, _) :: new, _, rfl, ?_, rfl, ⟨rv, _, .head _, All2.mono (fun _ _ q => q.mono fun _ hp => .tail _ hp) hrv⟩, _, .head _⟩
      refine Fresh.cons (fun p hp => l5 p (.tail _ (.tail _ (.tail _ (.tail _ (List.mem_append_right _ hp)))))) (Fresh.cons (all_right (allLt_ne lc.2.2.2)) (Fresh.cons (all_right (allLt_ne lb.2.2)) (Fresh.cons (all_right (allLt_ne la.2)) (Fresh.cons hfd fun p hp q hq => hfr p hp q (.tail _ hq)))))
end
-- part FTk
section
example : True := by
  w_top off
  trivial
noncomputable def takeStep (c : Nat) (x : Nat × List Pc) (p : Pc) : Nat × List Pc :=
  if p.1 ≤ c ∧ c < p.2 then (p.2, x.2) else if p.1 > c then (x.1, x.2 ++ [p]) else x
noncomputable def takeP (ps : List Pc) (c : Nat) : Nat × List Pc := ps.foldl (takeStep c) (c, [])
theorem permC {h₀ h : Heap} {L : Addr} {a b c : Addr × Obj} {r : Led} (N : News h₀ L h (a :: b :: c :: r)) : News h₀ L h (b :: c :: a :: r) := fun p hp => N p (by
  simp only [List.mem_cons] at hp ⊢
  rcases hp with q | q | q | q <;> simp [q])
set_option maxHeartbeats 8000000 in
theorem tk_ok {w : World} {news : Led} {pl : Addr} {ps : List Pc} {c : Nat} {u1 : Tok} (hP : PcsAt news pl ps) (hg : Gap 0 ps) (hc : c ≤ 8) :
    Fn w 55 [.ref pl, .int c u1] news 10 80 (fun r n => ∃ new a b u k, n = new ++ news ∧ Fresh new news ∧ r = .ref a ∧ (a, tupN #[.bytes (D c (takeP ps c).1) u, .ref b] k) ∈ n ∧ PcsAt n b (takeP ps c).2 ∧ ∃ ob, (b, ob) ∈ new) := by
  refine goalAside fun Xg kg => ?_
  obtain ⟨vs, nn, hm, ha⟩ := hP
  refine kg ?_
  clear kg Xg
  have hvl := ha.length
  have hgl := gap_len (Nat.zero_le _) hg
  intro p loose mean mg mb dp un gd cn cs a ccd cl outer A₀ base h₀ L m s Q E B F X N T hk hd hu hret
  refine wpAny_call ?_
  k_dflt (refine' code_def (binds := [(PySem.Str.ofString "pieces", .ref pl), (PySem.Str.ofString "at", .int c u1)]) ?k1 ?k2 ?k3 ?k4 ?k5 ?kA ?kF ?kK ?k6 ?k7 ?k8 ?k9 ?kB ?_ ?c2 ?c3 ?c4 ?c5; (case kA => exact rfl); (case kF => exact rfl); (case kK => assumption); (case k1 => k_asm); (case k2 => k_asm); (case k3 => k_asm); (case k4 => k_asm); (case k5 => k_asm); (case k6 => k_is); (case k7 => k_is); (case k8 => ktr_room); (case k9 => exact BindsTo.of_eq rfl); (case c5 => decide); (case kB => exact locs rfl); (case c2 => exact rfl); (case c3 => exact rfl); (case c4 => exact rfl); k_whole)
  intro g' L' h' FG' F' N' B' X' T'
  (try dsimp only)
  (try k_fold)
  k_steps
  rename_i t7 fd _ hl1 D7 _ hl7 _ _ h7 F1 N1 _
  have hfd : ∀ p ∈ news, p.1 ≠ fd := fun p hp => Nat.ne_of_lt (hl1 p hp)
  have e0 : (#[] : Array UInt8) = D c c := (D_none (Nat.le_refl c)).symm
  rw [e0] at F1
  refine for_list (l := pl) (vs := vs) (nn := nn) (J := fun i m nx => ∃ f fs fv k new u3, (ps.take i).foldl (takeStep c) (c, []) = (f, fs) ∧ c ≤ f ∧ f ≤ 8 ∧ fv.length ≤ i ∧ nx = (fd, listOf fv.toArray k) :: (new ++ news) ∧ Fresh new ((fd, listOf fv.toArray k) :: news) ∧ All2 (PcAt (new ++ news)) fv fs ∧
      FmIs m [(Str.ofString "found", .bytes (D c f) u3)] [Str.ofString "start", Str.ofString "octets", Str.ofString "found"]
        (fun y => if y = Str.ofString "left" then some (Value.ref fd) else List.lookup y [(Str.ofString "pieces", Value.ref pl), (Str.ofString "at", Value.int (↑c) u1)].reverse))
    rfl ?_ (by intro _; rfl) F1 (drop1 N1) (.tail _ hm) ⟨c, [], [], 0, [], t7, rfl, Nat.le_refl _, hc, Nat.le_refl _, rfl, Fresh.nil, All2.nil, ⟨?_, ?_⟩⟩ ?_ ?_
  · intro Q' hq
    k_steps
    exact hq
  · repeat' (first | exact (List.forall_mem_nil _) | refine List.forall_mem_cons.mpr ⟨rfl, ?_⟩)
  · intro y hy
    dsimp only
    rw [if_neg (fun q => by rw [q] at hy; exact absurd hy (by decide))]
  · rintro i v m₁ news₁ I oI h9 tk9 hv hp7g hl₁ hne F₁ N₁
    refine goalAside fun Xg kg => ?_
    obtain ⟨f, fs, fv, k, new, u3, hfold, hcf, hf8, hfl, rfl, hfr, hfv, hf⟩ := hp7g
    refine kg ?_
    clear kg Xg
    obtain ⟨u, rfl⟩ := hf.get
    refine goalAside fun Xg kg => ?_
    obtain ⟨⟨s1, e1⟩, hpi, a1, n1, t3, t4, rfl, hmem⟩ := ha.get hv
    refine kg ?_
    clear kg Xg
    have hse := gap_mem hg _ (List.mem_of_getElem? hpi)
    have hIfd : fd ≠ I := hne (fd, _) (.head _)
    have hIfd2 : I ≠ fd := Ne.symm hIfd
    have hvi : i < vs.length := (List.getElem?_eq_some_iff.mp hv).1
    have hszo := D_size s1 e1
    dsimp only at hse hmem
    dsimp only [fm] at F₁
    clear F1 N1
    (refine hide2 ?_; intro _ _)
    k_steps
    · rename_i P hP hPs h8 F8 N8 _
      have hst : takeStep c (f, fs) (s1, e1) = (e1, fs) := if_pos (by dsimp only; omega)
      have e8 : P = D c e1 := by
        rw [hP, picked_from (by omega) (by omega)]
        congr 1
        omega
      rw [e8] at F8
      refine LpEnd.intro F8 N8 hne hl₁ ⟨e1, fs, fv, k, new, _, ?_, by omega, by omega, by omega, rfl, hfr, hfv, by (refine ⟨?_, ?_⟩; (focus (repeat' (first | exact (List.forall_mem_nil _) | refine List.forall_mem_cons.mpr ⟨rfl, ?_⟩))); (focus ((repeat (refine fm_out (by rfl) ?_)); first | exact fm_base | exact fun _ _ => rfl)))⟩
      rw [List.take_add_one, hpi, List.foldl_append, hfold]; exact hst
    · have hst : takeStep c (f, fs) (s1, e1) = (f, fs) := by
        unfold takeStep
        rw [if_neg (by dsimp only; omega), if_neg (by dsimp only; omega)]
      refine LpEnd.intro (by k_asm) (by k_asm) hne hl₁ ⟨f, fs, fv, k, new, _, ?_, by omega, by omega, by omega, rfl, hfr, hfv, by (refine ⟨?_, ?_⟩; (focus (repeat' (first | exact (List.forall_mem_nil _) | refine List.forall_mem_cons.mpr ⟨rfl, ?_⟩))); (focus ((repeat (refine fm_out (by rfl) ?_)); first | exact fm_base | exact fun _ _ => rfl)))⟩
      rw [List.take_add_one, hpi, List.foldl_append, hfold]; exact hst
    · rename_i D8 _ l8 h8 F8 N8
      have hst : takeStep c (f, fs) (s1, e1) = (f, fs ++ [(s1, e1)]) := by
        unfold takeStep
        rw [if_neg (by dsimp only; omega), if_pos (by dsimp only; omega)]
      obtain ⟨l81, l82, l83⟩ := l8
      refine LpEnd.intro F8 (permC N8) ?_ (.tail _ (.tail _ (List.mem_append_right _ hm))) ⟨f, fs ++ [(s1, e1)], _, _, _ :: new, _, ?_, by omega, by omega, ?_, rfl, ?_, ?_, by (refine ⟨?_, ?_⟩; (focus (repeat' (first | exact (List.forall_mem_nil _) | refine List.forall_mem_cons.mpr ⟨rfl, ?_⟩))); (focus ((repeat (refine fm_out (by rfl) ?_)); first | exact fm_base | exact fun _ _ => rfl)))⟩
      · refine List.forall_mem_cons.mpr ⟨hIfd, List.forall_mem_cons.mpr ⟨Nat.ne_of_gt l81, fun p hp => hne p (.tail _ hp)⟩⟩
      · rw [List.take_add_one, hpi, List.foldl_append, hfold]; exact hst
      · rw [List.length_append, List.length_singleton]; omega
      · exact Fresh.cons (List.forall_mem_cons.mpr ⟨Nat.ne_of_lt l82, all_right (allLt_ne l83)⟩) (fun p hp => List.forall_mem_cons.mpr ⟨show p.1 ≠ fd from hfr p hp (fd, listOf fv.toArray k) (.head _), fun q hq => hfr p hp q (.tail _ hq)⟩)
      · exact (All2.mono (fun _ _ q => q.mono fun _ hp => .tail _ hp) hfv).snoc ⟨_, _, _, _, rfl, .head _⟩
  · rintro m₁ news₁ h9 tk9 hp8g F₁ N₁
    refine goalAside fun Xg kg => ?_
    obtain ⟨f, fs, fv, k, new, u3, hfold, hcf, hf8, hfl, rfl, hfr, hfv, hf⟩ := hp8g
    refine kg ?_
    clear kg Xg
    obtain ⟨u, rfl⟩ := hf.get
    dsimp only [fm] at F₁
    clear F1 N1
    rw [hvl, List.take_length] at hfold
    have ht : takeP ps c = (f, fs) := hfold
    rw [ht] at hret
    k_steps
    (rename (fd < _ ∧ AllLt _ (new ++ news)) => l8)
    refine hret _ _ _ _ (by k_asm) (by k_asm) ⟨_ :: (fd, _) :: new, _, fd, _, _, rfl, ?_, rfl, .head _, ⟨fv, k, .tail _ (.head _), All2.mono (fun _ _ q => q.mono fun _ hp => .tail _ (.tail _ hp)) hfv⟩, _, .tail _ (.head _)⟩
    exact Fresh.cons (all_right (allLt_ne l8.2)) (Fresh.cons hfd fun p hp q hq => hfr p hp q (.tail _ hq))
end
local macro_rules | `(tactic| walk_at "compareOp NotIn str ref") => `(tactic| (k_here; k_dflt (refine' notin_sts (by k_asm) (by k_mem) (by assumption) ?_)))
-- part FStop
section
example : True := by
  w_top off
  trivial
set_option maxHeartbeats 8000000 in
theorem stop_ok {w : World} {news : Led} {g : Obj → Led} {x dx : Addr} {o : Obj} {σ : PSt} {ps : List Pc} {c : Nat} {co : Int} {u4 : Tok} (Up : UpdF dx o news g) (hx : (x, instObj 154 dx) ∈ news) (hO : Ok w news σ ps c o) :
    Fn w 130 [.ref x, .int co u4] news 10 80 (fun r n => ∃ o' new, n = new ++ g o' ∧ Fresh new news ∧ KeepND news n ∧ ∃ σ' ps', Ok w n σ' ps' c o' ∧ σ'.lim = σ.lim ∧ σ'.hi = σ.hi ∧ σ'.fin = σ.fin ∧ PlF news σ.pl σ'.pl) := by
  refine Fn.updK (P := fun r o' n => ∃ σ' ps', Ok w n σ' ps' c o' ∧ σ'.lim = σ.lim ∧ σ'.hi = σ.hi ∧ σ'.fin = σ.fin ∧ PlF news σ.pl σ'.pl) (fun r o' m m' hs ⟨σ', ps', h, k⟩ => ⟨σ', ps', h.mono hs, k⟩) hO.part.dict Up fun rest hoff hin hsub => ?_
  have hx2 := hin _ hx (show Value.ref 154 ≠ .type "dict" by decide)
  refine goalAside fun Xg kg => ?_
  obtain ⟨hP, hpcs, hgap, hrd, hc8, hst⟩ := hO
  refine kg ?_
  clear kg Xg
  obtain ⟨t1, t2, t3, t4, t5, t6, t7, t8, u1, u2, u3, u6, fv, rv, sv, rfl, hfv, hsv⟩ := hP
  refine goalAside fun Xg kg => ?_
  obtain ⟨lim, st, pl, rd, hi, fin, stop⟩ := σ
  refine kg ?_
  clear kg Xg
  dsimp only at *
  have hpc2 := hpcs.keep hin
  by_cases hop : st = "recv" ∨ st = "size_known"
  · have hb := stsIn_open hop
    cases stop with
    | none =>
      obtain rfl : sv = .none := hsv
      intro p loose mean mg mb dp un gd cn cs a ccd cl outer A₀ base h₀ L m s Q E B F X N T hk hd hu hret
      refine wpAny_call ?_
      k_dflt (refine' code_def (binds := [(PySem.Str.ofString "self", .ref x), (PySem.Str.ofString "code", .int co u4)]) ?k1 ?k2 ?k3 ?k4 ?k5 ?kA ?kF ?kK ?k6 ?k7 ?k8 ?k9 ?kB ?_ ?c2 ?c3 ?c4 ?c5; (case kA => exact rfl); (case kF => exact rfl); (case kK => assumption); (case k1 => k_asm); (case k2 => k_asm); (case k3 => k_asm); (case k4 => k_asm); (case k5 => k_asm); (case k6 => k_is); (case k7 => k_is); (case k8 => ktr_room); (case k9 => exact BindsTo.of_eq rfl); (case c5 => decide); (case kB => exact locs rfl); (case c2 => exact rfl); (case c3 => exact rfl); (case c4 => exact rfl); k_whole)
      intro g' L' h' FG' F' N' B' X' T'
      (try dsimp only)
      (try k_fold)
      k_steps
      exact hret _ _ _ _ (by k_asm) (by k_asm) ⟨_, [_, _], rfl, by ((repeat (refine Fresh.cons (by (first | assumption | exact lt_ne' (by assumption) | exact allLt_ne (by assumption) | exact allLt_ne1 (by assumption) | exact allLt_ne2 (by assumption) | exact allLt_ne3 (by assumption) | exact allLt_ne4 (by assumption) | exact all_right (lt_ne' (by assumption)) | exact all_right (allLt_ne (by assumption)) | exact all_right (allLt_ne1 (by assumption)) | exact all_right (allLt_ne2 (by assumption)) | exact all_right (allLt_ne3 (by assumption)))) ?_)); first | exact Fresh.nil | assumption), ⟨lim, _, _, rd, hi, fin, some co⟩, [], ⟨⟨_, _, _, _, _, _, _, _, _, _, _, _, _, _, _, rfl, hfv, ⟨_, rfl⟩⟩, ⟨[], _, .head _, .nil⟩, trivial, hrd, hc8, hst⟩, rfl, rfl, rfl, PlF.ne hin (by (first | assumption | exact lt_ne' (by assumption) | exact allLt_ne (by assumption) | exact allLt_ne1 (by assumption) | exact allLt_ne2 (by assumption) | exact allLt_ne3 (by assumption) | exact allLt_ne4 (by assumption) | exact all_right (lt_ne' (by assumption)) | exact all_right (allLt_ne (by assumption)) | exact all_right (allLt_ne1 (by assumption)) | exact all_right (allLt_ne2 (by assumption)) | exact all_right (allLt_ne3 (by assumption))))⟩
    | some k =>
      obtain ⟨u7, rfl⟩ := hsv
      intro p loose mean mg mb dp un gd cn cs a ccd cl outer A₀ base h₀ L m s Q E B F X N T hk hd hu hret
      refine wpAny_call ?_
      k_dflt (refine' code_def (binds := [(PySem.Str.ofString "self", .ref x), (PySem.Str.ofString "code", .int co u4)]) ?k1 ?k2 ?k3 ?k4 ?k5 ?kA ?kF ?kK ?k6 ?k7 ?k8 ?k9 ?kB ?_ ?c2 ?c3 ?c4 ?c5; (case kA => exact rfl); (case kF => exact rfl); (case kK => assumption); (case k1 => k_asm); (case k2 => k_asm); (case k3 => k_asm); (case k4 => k_asm); (case k5 => k_asm); (case k6 => k_is); (case k7 => k_is); (case k8 => ktr_room); (case k9 => exact BindsTo.of_eq rfl); (case c5 => decide); (case kB => exact locs rfl); (case c2 => exact rfl); (case c3 => exact rfl); (case c4 => exact rfl); k_whole)
      intro g' L' h' FG' F' N' B' X' T'
      (try dsimp only)
      (try k_fold)
      k_steps
      exact hret _ _ _ _ (by k_asm) (by k_asm) ⟨_, [_], rfl, by ((repeat (refine Fresh.cons (by (first | assumption | exact lt_ne' (by assumption) | exact allLt_ne (by assumption) | exact allLt_ne1 (by assumption) | exact allLt_ne2 (by assumption) | exact allLt_ne3 (by assumption) | exact allLt_ne4 (by assumption) | exact all_right (lt_ne' (by assumption)) | exact all_right (allLt_ne (by assumption)) | exact all_right (allLt_ne1 (by assumption)) | exact all_right (allLt_ne2 (by assumption)) | exact all_right (allLt_ne3 (by assumption)))) ?_)); first | exact Fresh.nil | assumption), ⟨lim, _, pl, rd, hi, fin, some k⟩, ps, ⟨⟨_, _, _, _, _, _, _, _, _, _, _, _, _, _, _, rfl, hfv, ⟨_, rfl⟩⟩, hpc2.mono (fun _ h => .tail _ (.tail _ h)), hgap, hrd, hc8, hst⟩, rfl, rfl, rfl, .inl rfl⟩
  · have hb := stsIn_not hst hop
    intro p loose mean mg mb dp un gd cn cs a ccd cl outer A₀ base h₀ L m s Q E B F X N T hk hd hu hret
    refine wpAny_call ?_
    k_dflt (refine' code_def (binds := [(PySem.Str.ofString "self", .ref x), (PySem.Str.ofString "code", .int co u4)]) ?k1 ?k2 ?k3 ?k4 ?k5 ?kA ?kF ?kK ?k6 ?k7 ?k8 ?k9 ?kB ?_ ?c2 ?c3 ?c4 ?c5; (case kA => exact rfl); (case kF => exact rfl); (case kK => assumption); (case k1 => k_asm); (case k2 => k_asm); (case k3 => k_asm); (case k4 => k_asm); (case k5 => k_asm); (case k6 => k_is); (case k7 => k_is); (case k8 => ktr_room); (case k9 => exact BindsTo.of_eq rfl); (case c5 => decide); (case kB => exact locs rfl); (case c2 => exact rfl); (case c3 => exact rfl); (case c4 => exact rfl); k_whole)
    intro g' L' h' FG' F' N' B' X' T'
    (try dsimp only)
    (try k_fold)
    k_steps
    exact hret _ _ _ _ (by k_asm) (by k_asm) ⟨_, [_], rfl, by ((repeat (refine Fresh.cons (by (first | assumption | exact lt_ne' (by assumption) | exact allLt_ne (by assumption) | exact allLt_ne1 (by assumption) | exact allLt_ne2 (by assumption) | exact allLt_ne3 (by assumption) | exact allLt_ne4 (by assumption) | exact all_right (lt_ne' (by assumption)) | exact all_right (allLt_ne (by assumption)) | exact all_right (allLt_ne1 (by assumption)) | exact all_right (allLt_ne2 (by assumption)) | exact all_right (allLt_ne3 (by assumption)))) ?_)); first | exact Fresh.nil | assumption), ⟨lim, _, pl, rd, hi, fin, stop⟩, ps, ⟨⟨_, _, _, _, _, _, _, _, _, _, _, _, _, _, _, rfl, hfv, hsv⟩, hpc2.mono (fun _ h => .tail _ (.tail _ h)), hgap, hrd, hc8, hst⟩, rfl, rfl, rfl, .inl rfl⟩
end
local macro_rules | `(tactic| walk_at "call ref") => `(tactic| (k_here; refine Stop.mk ?_))
-- part FAll
section
example : True := by
  w_top off
  trivial
set_option maxHeartbeats 8000000 in
theorem all_ok {w : World} {news : Led} {x dx : Addr} {o : Obj} {σ : PSt} {ps : List Pc} {c : Nat} {Fz : Int} (hx : (x, instObj 154 dx) ∈ news) (ho : (dx, o) ∈ news) (hO : Ok w news σ ps c o) (hF : σ.fin = some Fz) :
    Fn w 109 [.ref x] news 20 200 (fun r n => ∃ new, n = new ++ news ∧ Fresh new news ∧ r = .bool (σ.stop.isNone && hasR ps σ.rd Fz)) := by
  refine goalAside fun Xg kg => ?_
  obtain ⟨hP, hpcs, hgap, hrd, hc8, hst⟩ := hO
  refine kg ?_
  clear kg Xg
  obtain ⟨t1, t2, t3, t4, t5, t6, t7, t8, u1, u2, u3, u6, fv, rv, sv, rfl, hfv, hsv⟩ := hP
  refine goalAside fun Xg kg => ?_
  obtain ⟨lim, st, pl, rd, hi, fin, stop⟩ := σ
  refine kg ?_
  clear kg Xg
  dsimp only at *
  obtain rfl := hF
  obtain ⟨u7, rfl⟩ := hfv
  have hgl := gap_len (Nat.zero_le _) hgap
  have hgm := gap_mem hgap
  cases stop with
  | some k =>
    obtain ⟨u8, rfl⟩ := hsv
    intro p loose mean mg mb dp un gd cn cs a ccd cl outer A₀ base h₀ L m s Q E B F X N T hk hd hu hret
    refine wpAny_call ?_
    k_dflt (refine' code_def (binds := [(PySem.Str.ofString "self", .ref x)]) ?k1 ?k2 ?k3 ?k4 ?k5 ?kA ?kF ?kK ?k6 ?k7 ?k8 ?k9 ?kB ?_ ?c2 ?c3 ?c4 ?c5; (case kA => exact rfl); (case kF => exact rfl); (case kK => assumption); (case k1 => k_asm); (case k2 => k_asm); (case k3 => k_asm); (case k4 => k_asm); (case k5 => k_asm); (case k6 => k_is); (case k7 => k_is); (case k8 => ktr_room); (case k9 => exact BindsTo.of_eq rfl); (case c5 => decide); (case kB => exact locs rfl); (case c2 => exact rfl); (case c3 => exact rfl); (case c4 => exact rfl); k_whole)
    intro g' L' h' FG' F' N' B' X' T'
    (try dsimp only)
    (try k_fold)
    k_steps
    exact hret _ _ _ _ (by k_asm) (by k_asm) ⟨[], rfl, Fresh.nil, rfl⟩
  | none =>
    obtain rfl : sv = .none := hsv
    intro p loose mean mg mb dp un gd cn cs a ccd cl outer A₀ base h₀ L m s Q E B F X N T hk hd hu hret
    refine wpAny_call ?_
    k_dflt (refine' code_def (binds := [(PySem.Str.ofString "self", .ref x)]) ?k1 ?k2 ?k3 ?k4 ?k5 ?kA ?kF ?kK ?k6 ?k7 ?k8 ?k9 ?kB ?_ ?c2 ?c3 ?c4 ?c5; (case kA => exact rfl); (case kF => exact rfl); (case kK => assumption); (case k1 => k_asm); (case k2 => k_asm); (case k3 => k_asm); (case k4 => k_asm); (case k5 => k_asm); (case k6 => k_is); (case k7 => k_is); (case k8 => ktr_room); (case k9 => exact BindsTo.of_eq rfl); (case c5 => decide); (case kB => exact locs rfl); (case c2 => exact rfl); (case c3 => exact rfl); (case c4 => exact rfl); k_whole)
    intro g' L' h' FG' F' N' B' X' T'
    (try dsimp only)
    (try k_fold)
    k_steps
    refine Stop.to ?_
    k_dflt (refine' Fn.use ?Bz1 ?Fz1 ?Xz1 ?Nz1 ?Tz1 ?Kz1 (cov_ok ?h1z1 ?h2z1 ?h3z1) ?dz1 ?uz1 ?_; (case Bz1 => k_asm); (case Fz1 => k_asm); (case Xz1 => k_asm); (case Nz1 => k_asm); (case Tz1 => k_asm); (case Kz1 => exact rfl); (case h1z1 => exact hpcs); (case h2z1 => (exact fun p hp => ⟨Nat.le_of_lt (hgm p hp).2.1, (hgm p hp).2.2⟩)); (case h3z1 => omega); (case dz1 => ktr_room); (case uz1 => ktr_units); k_whole)
    rintro r n h9 tk9 F9 N9 hp9g
    refine goalAside fun Xg kg => ?_
    obtain ⟨new, a9, rfl, hfr, rfl, hsp⟩ := hp9g
    refine kg ?_
    clear kg Xg
    clear F' N'
    k_steps
    refine Stop.to ?_
    k_dflt (refine' Fn.use ?Bz2 ?Fz2 ?Xz2 ?Nz2 ?Tz2 ?Kz2 (has_ok ?h1z2) ?dz2 ?uz2 ?_; (case Bz2 => k_asm); (case Fz2 => k_asm); (case Xz2 => k_asm); (case Nz2 => k_asm); (case Tz2 => k_asm); (case Kz2 => exact rfl); (case h1z2 => exact hsp); (case dz2 => ktr_room); (case uz2 => ktr_units); k_whole)
    rintro r n h8 tk8 F8 N8 ⟨rfl, rfl⟩
    k_steps
    exact hret _ _ _ _ (by k_asm) (by k_asm) ⟨new, rfl, hfr, rfl⟩
end
-- part FOn
section
example : True := by
  w_top off
  trivial
abbrev Opn (σ : PSt) : Prop := σ.st = "recv" ∨ σ.st = "size_known"
noncomputable def finA (σ : PSt) (e : Int) (f : Bool) : Option Int := if f then some e else σ.fin
noncomputable def strPs (σ : PSt) (ps : List Pc) (c b e : Nat) : List Pc := if Opn σ ∧ σ.stop = none ∧ c < e then addP ps (max b c) e else ps
noncomputable def strSt (σ : PSt) (ps' : List Pc) (e : Int) (f : Bool) : String := if Opn σ then (match finA σ e f with
  | none => σ.st
  | some k => if (σ.stop.isNone && hasR ps' σ.rd k) = true then "data_recvd" else "size_known") else σ.st
set_option maxHeartbeats 8000000 in
theorem on_ok {w : World} {news : Led} {g : Obj → Led} {x dx : Addr} {o : Obj} {σ : PSt} {ps : List Pc} {c b e : Nat} {isf : Bool} {u1 u2 : Tok} (Up : UpdF dx o news g) (hx : (x, instObj 154 dx) ∈ news) (hO : Ok w news σ ps c o) (hb : b ≤ e) (he : e ≤ 8) :
    FnE w 102 [.ref x, .int (b : Int) u1, .bytes (D b e) u2, .bool isf] news 40 500
      (fun r n => ∃ o' new, n = new ++ g o' ∧ Fresh new news ∧ KeepND news n ∧ ∃ pl', Ok w n ⟨σ.lim, strSt σ (strPs σ ps c b e) e isf, pl', σ.rd, max σ.hi e, finA σ e isf, σ.stop⟩ (strPs σ ps c b e) c o' ∧ PlF news σ.pl pl' ∧ checkR σ e isf = none ∧ ∃ t, r = .int (max 0 ((e : Int) - σ.hi)) t)
      (fun es => ∃ k, checkR σ e isf = some k ∧ IsExc w k 8 es) := by
  refine FnE.updK (P := fun r o' n => ∃ pl', Ok w n ⟨σ.lim, strSt σ (strPs σ ps c b e) e isf, pl', σ.rd, max σ.hi e, finA σ e isf, σ.stop⟩ (strPs σ ps c b e) c o' ∧ PlF news σ.pl pl' ∧ checkR σ e isf = none ∧ ∃ t, r = .int (max 0 ((e : Int) - σ.hi)) t) (fun r o' m m' hs ⟨pl', h, k⟩ => ⟨pl', h.mono hs, k⟩) hO.part.dict Up fun rest hoff hin hsub => ?_
  have hx2 := hin _ hx (show Value.ref 154 ≠ .type "dict" by decide)
  have hpc2 := hO.pcs.keep hin
  have hP0 := hO.part
  refine goalAside fun Xg kg => ?_
  obtain ⟨hP, hpcs, hgap, hrd, hc8, hst⟩ := hO
  refine kg ?_
  clear kg Xg
  obtain ⟨t1, t2, t3, t4, t5, t6, t7, t8, u3, u4, u5, u6, fv, rv, sv, rfl, hfv, hsv⟩ := hP
  have hee : (b : Int) + ((D b e).size : Int) = e := by rw [D_size]; omega
  have hszd := D_size b e
  intro p loose mean mg mb dp un gd cn cs a ccd cl outer A₀ base h₀ L m s Q E B F X N T hk hd hu hret hexc
  refine wpAny_call ?_
  k_dflt (refine' code_def (binds := [(PySem.Str.ofString "self", .ref x), (PySem.Str.ofString "offset", .int (b : Int) u1), (PySem.Str.ofString "data", .bytes (D b e) u2), (PySem.Str.ofString "is_end", .bool isf)]) ?k1 ?k2 ?k3 ?k4 ?k5 ?kA ?kF ?kK ?k6 ?k7 ?k8 ?k9 ?kB ?_ ?c2 ?c3 ?c4 ?c5; (case kA => exact rfl); (case kF => exact rfl); (case kK => assumption); (case k1 => k_asm); (case k2 => k_asm); (case k3 => k_asm); (case k4 => k_asm); (case k5 => k_asm); (case k6 => k_is); (case k7 => k_is); (case k8 => ktr_room); (case k9 => exact BindsTo.of_eq rfl); (case c5 => decide); (case kB => exact locs rfl); (case c2 => exact rfl); (case c3 => exact rfl); (case c4 => exact rfl); k_whole)
  intro g' L' h' FG' F' N' B' X' T'
  (try dsimp only)
  (try k_fold)
  k_steps
  (rename Fr g' L' _ _ => F1)
  (rename News g' L' _ _ => N1)
  rw [hee] at F1 ⊢
  refine Stop.to ?_
  k_dflt (refine' FnE.use ?Bz3 ?Fz3 ?Xz3 ?Nz3 ?Tz3 ?Kz3 (check_ok (σ := σ) ?h1z3 ?h2z3 ?h3z3) ?dz3 ?uz3 ?_ ?_; (case Bz3 => k_asm); (case Fz3 => k_asm); (case Xz3 => k_asm); (case Nz3 => k_asm); (case Tz3 => k_asm); (case Kz3 => exact rfl); (case h1z3 => exact .tail _ hx2); (case h2z3 => exact .head _); (case h3z3 => exact hP0); (case dz3 => ktr_room); (case uz3 => ktr_units); k_whole)
  · rintro r n h9 tk9 F9 N9 ⟨rfl, rfl, hck⟩
    clear F1 N1
    have hHI : HaltIf := trivial
    k_steps
    refine Stop.to ?_
    k_dflt (refine' Fn.use ?Bz4 ?Fz4 ?Xz4 ?Nz4 ?Tz4 ?Kz4 (grown_ok (σ := σ) ?h0z4 ?h1z4 ?h2z4 ?h3z4) ?dz4 ?uz4 ?_; (case Bz4 => k_asm); (case Fz4 => k_asm); (case Xz4 => k_asm); (case Nz4 => k_asm); (case Tz4 => k_asm); (case Kz4 => exact rfl); (case h0z4 => k_updF); (case h1z4 => exact .tail _ hx2); (case h2z4 => exact hoff _ hx2); (case h3z4 => exact hP0); (case dz4 => ktr_room); (case uz4 => ktr_units); k_whole)
    rintro r n h8 tk8 F8 N8 hp10g
    refine goalAside fun Xg kg => ?_
    obtain ⟨o1, new1, rfl, _, rfl, hP1, t9, rfl⟩ := hp10g
    refine kg ?_
    clear kg Xg
    obtain ⟨a1, a2, a3, a4, a5, a6, a7, a8, b3, b4, b5, b6, fv1, rv1, sv1, rfl, hfv1, hsv1⟩ := hP1
    dsimp only [List.nil_append] at N8
    dsimp only at hfv1 hsv1
    clear F9 N9
    k_steps
    (rename Fr g' L' _ _ => F8)
    refine Stop.to ?_
    refine join_ifM F8 (fun n => ∃ o2, n = (dx, o2) :: rest ∧ PartAt w ⟨σ.lim, σ.st, σ.pl, σ.rd, max σ.hi e, finA σ e isf, σ.stop⟩ o2) ?_ ?_
    · clear hHI
      (refine hide ?_; intro _ _ _ _)
      k_steps
      · refine JnEnd.intro (by k_asm) (by k_asm) ⟨rfl, _, rfl, _, _, _, _, _, _, _, _, _, _, _, _, _, _, _, rfl, ?_, hsv1⟩
        simp_all [finA, OptInt]
      · refine JnEnd.intro (by k_asm) (by k_asm) ⟨rfl, _, rfl, _, _, _, _, _, _, _, _, _, _, _, _, _, _, _, rfl, ?_, hsv1⟩
        simp_all [finA]
    · rintro h7 tk7 n F7 N7 ⟨o2, rfl, hP2⟩
      have hP2' := hP2
      obtain ⟨a1, a2, a3, a4, a5, a6, a7, a8, b3, b4, b5, b6, fv2, rv2, sv2, rfl, hfv2, hsv2⟩ := hP2
      clear F8
      dsimp only at N7 hfv2 hsv2
      k_steps
      refine Stop.to ?_
      refine join_ifM F7 (fun n => ∃ new2, n = new2 ++ (dx, dictOf (partEs w.params a1 a2 a3 a4 a5 a6 a7 a8 (.int σ.lim b3) (.str (Str.ofString σ.st) b4) (.ref σ.pl) (.int σ.rd b5) (.int (max σ.hi e) b6) fv2 rv2 sv2) 8) :: rest ∧ Fresh new2 ((dx, dictOf (partEs w.params a1 a2 a3 a4 a5 a6 a7 a8 (.int σ.lim b3) (.str (Str.ofString σ.st) b4) (.ref σ.pl) (.int σ.rd b5) (.int (max σ.hi e) b6) fv2 rv2 sv2) 8) :: rest) ∧ Opn σ) ?_ ?_
      · clear hHI
        by_cases hno : Opn σ
        · have hb := stsIn_open hno
          (refine hide ?_; intro _ _ _ _)
          k_steps
          exact JnEnd.intro (by k_asm) (by k_asm) ⟨rfl, [_], rfl, by ((repeat (refine Fresh.cons (by (first | assumption | exact lt_ne' (by assumption) | exact allLt_ne (by assumption) | exact allLt_ne1 (by assumption) | exact allLt_ne2 (by assumption) | exact allLt_ne3 (by assumption) | exact allLt_ne4 (by assumption) | exact all_right (lt_ne' (by assumption)) | exact all_right (allLt_ne (by assumption)) | exact all_right (allLt_ne1 (by assumption)) | exact all_right (allLt_ne2 (by assumption)) | exact all_right (allLt_ne3 (by assumption)))) ?_)); first | exact Fresh.nil | assumption), hno⟩
        · have hb := stsIn_not hst hno
          k_steps
          show qk (Flow.ret _) _
          k_steps
          have e1 : strPs σ ps c b e = ps := if_neg (fun q => hno q.1)
          have e2 : strSt σ ps e isf = σ.st := if_neg hno
          refine hret _ _ _ _ (by k_asm) (by k_asm) ⟨_, [_], rfl, by ((repeat (refine Fresh.cons (by (first | assumption | exact lt_ne' (by assumption) | exact allLt_ne (by assumption) | exact allLt_ne1 (by assumption) | exact allLt_ne2 (by assumption) | exact allLt_ne3 (by assumption) | exact allLt_ne4 (by assumption) | exact all_right (lt_ne' (by assumption)) | exact all_right (allLt_ne (by assumption)) | exact all_right (allLt_ne1 (by assumption)) | exact all_right (allLt_ne2 (by assumption)) | exact all_right (allLt_ne3 (by assumption)))) ?_)); first | exact Fresh.nil | assumption), σ.pl, ?_, .inl rfl, hck, _, rfl⟩
          rw [e1, e2]
          exact ⟨hP2', hpc2.mono (fun _ h => .tail _ (.tail _ h)), hgap, hrd, hc8, hst⟩
      · rintro h6 tk6 n F6 N6 hp11g
        refine goalAside fun Xg kg => ?_
        obtain ⟨new2, rfl, hf2, hop⟩ := hp11g
        refine kg ?_
        clear kg Xg
        clear F7 N7
        k_steps
        refine Stop.to ?_
        refine join_ifM F6 (fun n => ∃ new3 pl3, n = new3 ++ (dx, dictOf (partEs w.params a1 a2 a3 a4 a5 a6 a7 a8 (.int σ.lim b3) (.str (Str.ofString σ.st) b4) (.ref pl3) (.int σ.rd b5) (.int (max σ.hi e) b6) fv2 rv2 sv2) 8) :: rest ∧ Fresh new3 ((dx, dictOf (partEs w.params a1 a2 a3 a4 a5 a6 a7 a8 (.int σ.lim b3) (.str (Str.ofString σ.st) b4) (.ref pl3) (.int σ.rd b5) (.int (max σ.hi e) b6) fv2 rv2 sv2) 8) :: rest) ∧ PcsAt n pl3 (strPs σ ps c b e) ∧ (pl3 = σ.pl ∨ ∃ ol, (pl3, ol) ∈ new3)) ?_ ?_
        · clear hHI
          rcases hso : σ.stop with _ | k
          · rw [hso] at hsv2
            obtain rfl : sv2 = .none := hsv2
            (refine hide ?_; intro _ _ _ _)
            k_steps
            · rename_i P F5 N5 hP hPs
              have hce : c < e := by omega
              have e5 : (if σ.rd > (b : Int) then σ.rd else (b : Int)) = ((max b c : Nat) : Int) := by rw [hrd]; split <;> omega
              have e6 : P = D (max b c) e := by
                rw [hP, picked_from hb (by split <;> omega)]
                congr 1
                rw [hrd]
                split <;> omega
              have e1 : strPs σ ps c b e = addP ps (max b c) e := if_pos ⟨hop, hso, hce⟩
              rw [e5, e6]
              refine Stop.to ?_
              k_dflt (refine' Fn.use ?Bz5 ?Fz5 ?Xz5 ?Nz5 ?Tz5 ?Kz5 (add_ok ?h1z5 ?h2z5 ?h3z5 ?h4z5) ?dz5 ?uz5 ?_; (case Bz5 => k_asm); (case Fz5 => k_asm); (case Xz5 => k_asm); (case Nz5 => k_asm); (case Tz5 => k_asm); (case Kz5 => exact rfl); (case h1z5 => (exact hpc2.mono (fun _ h => List.mem_append_right _ (.tail _ h)))); (case h2z5 => exact hgap); (case h3z5 => omega); (case h4z5 => exact he); (case dz5 => ktr_room); (case uz5 => ktr_units); k_whole)
              rintro r n h4 tk4 F4 N4 hp12g
              refine goalAside fun Xg kg => ?_
              obtain ⟨new4, a9, rfl, hf4, rfl, hp4, oa9, hoa9⟩ := hp12g
              refine kg ?_
              clear kg Xg
              clear F5 N5
              k_steps
              show JnEnd _ _ _ _ _
              refine JnEnd.intro (by k_asm) (by k_asm) ⟨rfl, new4 ++ new2, a9, (List.append_assoc ..).symm, (hf4.appl hf2).obj, ?_, .inr ⟨oa9, List.mem_append_left _ hoa9⟩⟩
              rw [e1]
              refine hp4.keep fun p hp hc => ?_
              rcases List.mem_append.mp hp with h | h
              · exact List.mem_append_left _ h
              · refine List.mem_append_right _ ?_
                rcases List.mem_append.mp h with h | h
                · exact List.mem_append_left _ h
                · refine List.mem_append_right _ ?_
                  rcases List.mem_cons.mp h with rfl | h
                  · exact absurd rfl hc
                  · exact .tail _ h
            · have e1 : strPs σ ps c b e = ps := if_neg (fun q => by have := q.2.2; omega)
              exact JnEnd.intro (by k_asm) (by k_asm) ⟨rfl, new2, σ.pl, rfl, hf2, by rw [e1]; exact hpc2.mono (fun _ h => List.mem_append_right _ (.tail _ h)), .inl rfl⟩
          · rw [hso] at hsv2
            obtain ⟨u9, rfl⟩ := hsv2
            (refine hide ?_; intro _ _ _ _)
            k_steps
            have e1 : strPs σ ps c b e = ps := if_neg (fun q => by rw [hso] at q; cases q.2.1)
            exact JnEnd.intro (by k_asm) (by k_asm) ⟨rfl, new2, σ.pl, rfl, hf2, by rw [e1]; exact hpc2.mono (fun _ h => List.mem_append_right _ (.tail _ h)), .inl rfl⟩
        · rintro h3 tk3 n F3 N3 hp13g
          refine goalAside fun Xg kg => ?_
          obtain ⟨new3, pl3, rfl, hf3, hp3, hin3⟩ := hp13g
          refine kg ?_
          clear kg Xg
          clear F6 hHI
          have hpl3 : PlF news σ.pl pl3 := hin3.elim .inl (PlF.of hin hf3)
          have hgs : Gap 0 (strPs σ ps c b e) := by
            unfold strPs
            split
            · exact add_gap hgap he
            · exact hgap
          rcases hfa : finA σ e isf with _ | k
          · rw [hfa] at hfv2
            obtain rfl : fv2 = .none := hfv2
            k_steps
            have e2 : strSt σ (strPs σ ps c b e) e isf = σ.st := by
              unfold strSt
              rw [if_pos hop, hfa]
            refine hret _ _ _ _ (by k_asm) (by k_asm) ⟨_, new3, rfl, hf3.obj, pl3, ?_, hpl3, hck, _, rfl⟩
            rw [e2, hfa]
            exact ⟨⟨_, _, _, _, _, _, _, _, _, _, _, _, _, _, _, rfl, rfl, hsv2⟩, hp3, hgs, hrd, hc8, hst⟩
          · rw [hfa] at hfv2
            obtain ⟨u9, rfl⟩ := hfv2
            k_steps
            refine Stop.to ?_
            k_dflt (refine' Fn.use ?Bz6 ?Fz6 ?Xz6 ?Nz6 ?Tz6 ?Kz6 (all_ok (σ := ⟨σ.lim, "size_known", pl3, σ.rd, max σ.hi e, some k, σ.stop⟩) (ps := strPs σ ps c b e) (c := c) ?h1z6 ?h2z6 ?h3z6 ?h4z6) ?dz6 ?uz6 ?_; (case Bz6 => k_asm); (case Fz6 => k_asm); (case Xz6 => k_asm); (case Nz6 => k_asm); (case Tz6 => k_asm); (case Kz6 => exact rfl); (case h1z6 => (exact List.mem_append_right _ (.tail _ hx2))); (case h2z6 => (exact List.mem_append_right _ (.head _))); (case h4z6 => rfl); (case h3z6 => exact ⟨⟨_, _, _, _, _, _, _, _, _, _, _, _, _, _, _, rfl, ⟨_, rfl⟩, hsv2⟩, hp3.keep (by (exact keepND_obj)), hgs, hrd, hc8, by simp [Stt]⟩); (case dz6 => ktr_room); (case uz6 => ktr_units); k_whole)
            rintro r n h2 tk2 F2 N2 hp14g
            refine goalAside fun Xg kg => ?_
            obtain ⟨new5, rfl, hf5, rfl⟩ := hp14g
            refine kg ?_
            clear kg Xg
            skip
            dsimp only
            have hk5 : KeepND (new3 ++ (dx, dictOf (partEs w.params a1 a2 a3 a4 a5 a6 a7 a8 (.int σ.lim b3) (.str (Str.ofString σ.st) b4) (.ref pl3) (.int σ.rd b5) (.int (max σ.hi e) b6) (.int k u9) rv2 sv2) 8) :: rest) (new5 ++ (new3 ++ rest)) := fun p hp hc => by
              rcases List.mem_append.mp hp with h | h
              · exact List.mem_append_right _ (List.mem_append_left _ h)
              · rcases List.mem_cons.mp h with rfl | h
                · exact absurd rfl hc
                · exact List.mem_append_right _ (List.mem_append_right _ h)
            have hps5 := hp3.keep hk5
            generalize hbb : (σ.stop.isNone && hasR (strPs σ ps c b e) σ.rd k) = bb
            have e2 : strSt σ (strPs σ ps c b e) e isf = if bb = true then "data_recvd" else "size_known" := by
              unfold strSt
              rw [if_pos hop, hfa]
              dsimp only
              rw [hbb]
            have hsub5 : ∀ (o : Obj) (p : Addr × Obj), p ∈ new5 ++ (new3 ++ rest) → p ∈ new5 ++ (new3 ++ (dx, o) :: rest) := fun o p hp => by
              rcases List.mem_append.mp hp with h | h
              · exact List.mem_append_left _ h
              · refine List.mem_append_right _ ?_
                rcases List.mem_append.mp h with h | h
                · exact List.mem_append_left _ h
                · exact List.mem_append_right _ (.tail _ h)
            cases bb
            all_goals
              k_steps
              refine hret _ _ _ _ (by k_asm) (by k_asm) ⟨_, new5 ++ new3, (List.append_assoc ..).symm, ?_, pl3, ?_, hpl3, hck, _, rfl⟩
              · exact ((hf5.appl hf3.obj)).obj
              · rw [e2, hfa]
                exact ⟨⟨_, _, _, _, _, _, _, _, _, _, _, _, _, _, _, rfl, ⟨_, rfl⟩, hsv2⟩, hps5.mono (hsub5 _), hgs, hrd, hc8, by simp [Stt]⟩
  · intro e9 d9 es9 g9 h9 tk9 F9 R9 U9 ⟨k9, hk9, hI9⟩
    refine leaveX_on B' F9 R9 U9 ?_
    intro h8 R8 U8
    exact hexc _ _ _ _ _ _ FG' R8 U8 ⟨k9, hk9, hI9⟩
end
-- part FRst
section
example : True := by
  w_top off
  trivial
local macro_rules | `(tactic| walk_at "compareOp In str ref") => `(tactic| (k_here; k_dflt (refine' in_sts (by k_asm) (by k_mem) (by assumption) ?_)))
abbrev OpnR (σ : PSt) : Prop := σ.st = "recv" ∨ σ.st = "size_known"
set_option maxHeartbeats 8000000 in
theorem rst_ok {w : World} {news : Led} {g : Obj → Led} {x dx : Addr} {o : Obj} {σ : PSt} {ps : List Pc} {c : Nat} {e co : Int} {u1 u2 : Tok} (Up : UpdF dx o news g) (hx : (x, instObj 154 dx) ∈ news) (hO : Ok w news σ ps c o) :
    FnE w 116 [.ref x, .int co u1, .int e u2] news 40 500
      (fun r n => ∃ o' new, n = new ++ g o' ∧ Fresh new news ∧ KeepND news n ∧ ∃ pl', Ok w n ⟨σ.lim, if OpnR σ then "reset_recvd" else σ.st, pl', σ.rd, max σ.hi e, some e, σ.stop⟩ (if OpnR σ then [] else ps) c o' ∧ PlF news σ.pl pl' ∧ checkR σ e true = none ∧ ∃ t, r = .int (max 0 (e - σ.hi)) t)
      (fun es => ∃ k, checkR σ e true = some k ∧ IsExc w k 4 es) := by
  refine FnE.updK (P := fun r o' n => ∃ pl', Ok w n ⟨σ.lim, if OpnR σ then "reset_recvd" else σ.st, pl', σ.rd, max σ.hi e, some e, σ.stop⟩ (if OpnR σ then [] else ps) c o' ∧ PlF news σ.pl pl' ∧ checkR σ e true = none ∧ ∃ t, r = .int (max 0 (e - σ.hi)) t) (fun r o' m m' hs ⟨pl', h, k⟩ => ⟨pl', h.mono hs, k⟩) hO.part.dict Up fun rest hoff hin hsub => ?_
  have hx2 := hin _ hx (show Value.ref 154 ≠ .type "dict" by decide)
  have hpc2 := hO.pcs.keep hin
  have hP0 := hO.part
  refine goalAside fun Xg kg => ?_
  obtain ⟨hP, hpcs, hgap, hrd, hc8, hst⟩ := hO
  refine kg ?_
  clear kg Xg
  obtain ⟨t1, t2, t3, t4, t5, t6, t7, t8, u3, u4, u5, u6, fv, rv, sv, rfl, hfv, hsv⟩ := hP
  intro p loose mean mg mb dp un gd cn cs a ccd cl outer A₀ base h₀ L m s Q E B F X N T hk hd hu hret hexc
  refine wpAny_call ?_
  k_dflt (refine' code_def (binds := [(PySem.Str.ofString "self", .ref x), (PySem.Str.ofString "code", .int co u1), (PySem.Str.ofString "final_size", .int e u2)]) ?k1 ?k2 ?k3 ?k4 ?k5 ?kA ?kF ?kK ?k6 ?k7 ?k8 ?k9 ?kB ?_ ?c2 ?c3 ?c4 ?c5; (case kA => exact rfl); (case kF => exact rfl); (case kK => assumption); (case k1 => k_asm); (case k2 => k_asm); (case k3 => k_asm); (case k4 => k_asm); (case k5 => k_asm); (case k6 => k_is); (case k7 => k_is); (case k8 => ktr_room); (case k9 => exact BindsTo.of_eq rfl); (case c5 => decide); (case kB => exact locs rfl); (case c2 => exact rfl); (case c3 => exact rfl); (case c4 => exact rfl); k_whole)
  intro g' L' h' FG' F' N' B' X' T'
  (try dsimp only)
  (try k_fold)
  k_steps
  refine Stop.to ?_
  k_dflt (refine' FnE.use ?Bz7 ?Fz7 ?Xz7 ?Nz7 ?Tz7 ?Kz7 (check_ok (σ := σ) ?h1z7 ?h2z7 ?h3z7) ?dz7 ?uz7 ?_ ?_; (case Bz7 => k_asm); (case Fz7 => k_asm); (case Xz7 => k_asm); (case Nz7 => k_asm); (case Tz7 => k_asm); (case Kz7 => exact rfl); (case h1z7 => exact .tail _ hx2); (case h2z7 => exact .head _); (case h3z7 => exact hP0); (case dz7 => ktr_room); (case uz7 => ktr_units); k_whole)
  · rintro r n h9 tk9 F9 N9 ⟨rfl, rfl, hck⟩
    clear F' N'
    k_steps
    refine Stop.to ?_
    k_dflt (refine' Fn.use ?Bz8 ?Fz8 ?Xz8 ?Nz8 ?Tz8 ?Kz8 (grown_ok (σ := σ) ?h0z8 ?h1z8 ?h2z8 ?h3z8) ?dz8 ?uz8 ?_; (case Bz8 => k_asm); (case Fz8 => k_asm); (case Xz8 => k_asm); (case Nz8 => k_asm); (case Tz8 => k_asm); (case Kz8 => exact rfl); (case h0z8 => k_updF); (case h1z8 => exact .tail _ hx2); (case h2z8 => exact hoff _ hx2); (case h3z8 => exact hP0); (case dz8 => ktr_room); (case uz8 => ktr_units); k_whole)
    rintro r n h8 tk8 F8 N8 hp15g
    refine goalAside fun Xg kg => ?_
    obtain ⟨o1, new1, rfl, _, rfl, hP1, t9, rfl⟩ := hp15g
    refine kg ?_
    clear kg Xg
    obtain ⟨a1, a2, a3, a4, a5, a6, a7, a8, b3, b4, b5, b6, fv1, rv1, sv1, rfl, hfv1, hsv1⟩ := hP1
    dsimp only [List.nil_append] at N8
    dsimp only at hfv1 hsv1
    clear F9 N9
    by_cases hop : OpnR σ
    · have hb := stsIn_open hop
      rw [if_pos hop, if_pos hop] at hret
      k_steps
      exact hret _ _ _ _ (by k_asm) (by k_asm) ⟨_, [_, _], rfl, by ((repeat (refine Fresh.cons (by (first | assumption | exact lt_ne' (by assumption) | exact allLt_ne (by assumption) | exact allLt_ne1 (by assumption) | exact allLt_ne2 (by assumption) | exact allLt_ne3 (by assumption) | exact allLt_ne4 (by assumption) | exact all_right (lt_ne' (by assumption)) | exact all_right (allLt_ne (by assumption)) | exact all_right (allLt_ne1 (by assumption)) | exact all_right (allLt_ne2 (by assumption)) | exact all_right (allLt_ne3 (by assumption)))) ?_)); first | exact Fresh.nil | assumption), _, ⟨⟨_, _, _, _, _, _, _, _, _, _, _, _, _, _, _, rfl, ⟨_, rfl⟩, hsv1⟩, ⟨[], _, .head _, .nil⟩, trivial, hrd, hc8, by simp [Stt]⟩, PlF.ne hin (by (first | assumption | exact lt_ne' (by assumption) | exact allLt_ne (by assumption) | exact allLt_ne1 (by assumption) | exact allLt_ne2 (by assumption) | exact allLt_ne3 (by assumption) | exact allLt_ne4 (by assumption) | exact all_right (lt_ne' (by assumption)) | exact all_right (allLt_ne (by assumption)) | exact all_right (allLt_ne1 (by assumption)) | exact all_right (allLt_ne2 (by assumption)) | exact all_right (allLt_ne3 (by assumption)))), hck, _, rfl⟩
    · have hb := stsIn_not hst hop
      rw [if_neg hop, if_neg hop] at hret
      k_steps
      exact hret _ _ _ _ (by k_asm) (by k_asm) ⟨_, [_], rfl, by ((repeat (refine Fresh.cons (by (first | assumption | exact lt_ne' (by assumption) | exact allLt_ne (by assumption) | exact allLt_ne1 (by assumption) | exact allLt_ne2 (by assumption) | exact allLt_ne3 (by assumption) | exact allLt_ne4 (by assumption) | exact all_right (lt_ne' (by assumption)) | exact all_right (allLt_ne (by assumption)) | exact all_right (allLt_ne1 (by assumption)) | exact all_right (allLt_ne2 (by assumption)) | exact all_right (allLt_ne3 (by assumption)))) ?_)); first | exact Fresh.nil | assumption), σ.pl, ⟨⟨_, _, _, _, _, _, _, _, _, _, _, _, _, _, _, rfl, ⟨_, rfl⟩, hsv1⟩, hpc2.mono (fun _ h => .tail _ (.tail _ h)), hgap, hrd, hc8, hst⟩, .inl rfl, hck, _, rfl⟩
  · intro e9 d9 es9 g9 h9 tk9 F9 R9 U9 ⟨k9, hk9, hI9⟩
    refine leaveX_on B' F9 R9 U9 ?_
    intro h8 R8 U8
    exact hexc _ _ _ _ _ _ FG' R8 U8 ⟨k9, hk9, hI9⟩
end
-- part FOver
section
example : True := by
  w_top off
  trivial
noncomputable def ovR (σ : PSt) : Bool := σ.st == "data_read" || σ.st == "reset_read" || (σ.stop.isSome && σ.fin.isSome)
set_option maxHeartbeats 8000000 in
theorem over_ok {w : World} {news : Led} {x dx : Addr} {o : Obj} {σ : PSt} {ps : List Pc} {c : Nat} (hx : (x, instObj 154 dx) ∈ news) (ho : (dx, o) ∈ news) (hO : Ok w news σ ps c o) (hs : σ.stop = none) :
    Fn w 151 [.ref x] news 20 200 (fun r n => ∃ new, n = new ++ news ∧ Fresh new news ∧ r = .bool (ovR σ)) := by
  refine goalAside fun Xg kg => ?_
  obtain ⟨hP, hpcs, hgap, hrd, hc8, hst⟩ := hO
  refine kg ?_
  clear kg Xg
  obtain ⟨t1, t2, t3, t4, t5, t6, t7, t8, u1, u2, u3, u6, fv, rv, sv, rfl, hfv, hsv⟩ := hP
  refine goalAside fun Xg kg => ?_
  obtain ⟨lim, st, pl, rd, hi, fin, stop⟩ := σ
  refine kg ?_
  clear kg Xg
  dsimp only at *
  subst hs
  obtain rfl : sv = .none := hsv
  rcases hst with rfl | rfl | rfl | rfl | rfl | rfl
  all_goals
    intro p loose mean mg mb dp un gd cn cs a ccd cl outer A₀ base h₀ L m s Q E B F X N T hk hd hu hret
    refine wpAny_call ?_
    k_dflt (refine' code_def (binds := [(PySem.Str.ofString "self", .ref x)]) ?k1 ?k2 ?k3 ?k4 ?k5 ?kA ?kF ?kK ?k6 ?k7 ?k8 ?k9 ?kB ?_ ?c2 ?c3 ?c4 ?c5; (case kA => exact rfl); (case kF => exact rfl); (case kK => assumption); (case k1 => k_asm); (case k2 => k_asm); (case k3 => k_asm); (case k4 => k_asm); (case k5 => k_asm); (case k6 => k_is); (case k7 => k_is); (case k8 => ktr_room); (case k9 => exact BindsTo.of_eq rfl); (case c5 => decide); (case kB => exact locs rfl); (case c2 => exact rfl); (case c3 => exact rfl); (case c4 => exact rfl); k_whole)
    intro g' L' h' FG' F' N' B' X' T'
    (try dsimp only)
    (try k_fold)
    k_steps
    exact hret _ _ _ _ (by k_asm) (by k_asm) ⟨[_], rfl, by ((repeat (refine Fresh.cons (by (first | assumption | exact lt_ne' (by assumption) | exact allLt_ne (by assumption) | exact allLt_ne1 (by assumption) | exact allLt_ne2 (by assumption) | exact allLt_ne3 (by assumption) | exact allLt_ne4 (by assumption) | exact all_right (lt_ne' (by assumption)) | exact all_right (allLt_ne (by assumption)) | exact all_right (allLt_ne1 (by assumption)) | exact all_right (allLt_ne2 (by assumption)) | exact all_right (allLt_ne3 (by assumption)))) ?_)); first | exact Fresh.nil | assumption), rfl⟩
end
-- part Take
section
example : True := by
  w_top off
  trivial
-- what taken_from keeps
structure TakeOk (c : Nat) (qs : List Pc) (f : Nat) (fs : List Pc) (k : Nat) : Prop where
  gap : Gap 0 fs
  lt : ∀ p ∈ fs, p.2 < k ∧ c < p.1
  le : c ≤ f
  f8 : f ≤ 8
  up : c < f → f < k ∧ ∀ p ∈ fs, f < p.1
  qlt : ∀ p ∈ qs, p.2 < k
  cov : ∀ x, c ≤ x → x < f → Cov qs x
  off : ¬ Cov qs f
theorem take_inv (c : Nat) : ∀ (ps : List Pc) (k : Nat) (qs : List Pc) (f : Nat) (fs : List Pc), Gap k ps → TakeOk c qs f fs k → ∃ k', TakeOk c (qs ++ ps) (ps.foldl (takeStep c) (f, fs)).1 (ps.foldl (takeStep c) (f, fs)).2 k'
  | [], k, qs, _, _, _, h => ⟨k, by rw [List.append_nil]; exact h⟩
  | (s, t) :: r, k, qs, f, fs, ⟨h1, h2, h3, h4⟩, h => by
    obtain ⟨a, b, c1, c2, d, q1, q2, q3⟩ := h
    have eq : qs ++ (s, t) :: r = (qs ++ [(s, t)]) ++ r := by simp
    rw [List.foldl_cons, eq]
    have ql : ∀ p ∈ qs ++ [(s, t)], p.2 < t + 1 := fun p hp => by
      rcases List.mem_append.mp hp with hp | hp
      · have := q1 p hp; omega
      · rw [List.mem_singleton.mp hp]; exact Nat.lt_succ_self _
    by_cases z : s ≤ c ∧ c < t
    · have e1 : takeStep c (f, fs) (s, t) = (t, fs) := if_pos z
      rw [e1]
      refine take_inv c r (t + 1) _ _ _ h4 ⟨a, fun p hp => by have := b p hp; omega, by omega, h3, fun _ => ⟨Nat.lt_succ_self _, fun p hp => ?_⟩, ql, fun x h5 h6 => cov_app.mpr (.inr ⟨_, .head _, by dsimp only; omega⟩), fun h5 => ?_⟩
      · have := b p hp
        have := gap_mem a p hp
        omega
      · rcases cov_app.mp h5 with ⟨p, hp, h6⟩ | ⟨p, hp, h6⟩
        · have := q1 p hp; omega
        · rw [List.mem_singleton.mp hp] at h6; dsimp only at h6; omega
    · by_cases z2 : s > c
      · have e1 : takeStep c (f, fs) (s, t) = (f, fs ++ [(s, t)]) := by
          unfold takeStep
          rw [if_neg z, if_pos z2]
        rw [e1]
        refine take_inv c r (t + 1) _ _ _ h4 ⟨gap_snoc a (fun p hp => by have := b p hp; show p.2 < s; omega) (Nat.zero_le _) h2 h3, fun p hp => ?_, c1, c2, fun h5 => ⟨by have := (d h5).1; omega, fun p hp => ?_⟩, ql, fun x h5 h6 => cov_app.mpr (.inl (q2 x h5 h6)), fun h5 => ?_⟩
        · rcases List.mem_append.mp hp with hp | hp
          · have := b p hp; omega
          · rw [List.mem_singleton.mp hp]; exact ⟨Nat.lt_succ_self _, z2⟩
        · rcases List.mem_append.mp hp with hp | hp
          · exact (d h5).2 p hp
          · rw [List.mem_singleton.mp hp]
            have := (d h5).1
            show f < s
            omega
        · rcases cov_app.mp h5 with h6 | ⟨p, hp, h6⟩
          · exact q3 h6
          · rw [List.mem_singleton.mp hp] at h6
            dsimp only at h6
            by_cases h7 : c < f
            · have := (d h7).1; omega
            · omega
      · have e1 : takeStep c (f, fs) (s, t) = (f, fs) := by
          unfold takeStep
          rw [if_neg z, if_neg z2]
        rw [e1]
        refine take_inv c r (t + 1) _ _ _ h4 ⟨a, fun p hp => by have := b p hp; omega, c1, c2, fun h5 => ⟨by have := (d h5).1; omega, (d h5).2⟩, ql, fun x h5 h6 => cov_app.mpr (.inl (q2 x h5 h6)), fun h5 => ?_⟩
        rcases cov_app.mp h5 with h6 | ⟨p, hp, h6⟩
        · exact q3 h6
        · rw [List.mem_singleton.mp hp] at h6
          dsimp only at h6
          omega
theorem takeP_ok {ps : List Pc} {c : Nat} (h : Gap 0 ps) (hc : c ≤ 8) : ∃ k, TakeOk c ps (takeP ps c).1 (takeP ps c).2 k :=
  take_inv c ps 0 [] c [] h ⟨trivial, (fun _ h => nomatch h), Nat.le_refl _, hc, fun h => absurd h (Nat.lt_irrefl _), (fun _ h => nomatch h), fun x h1 h2 => by omega, cov_nil⟩
noncomputable def rdF (ps : List Pc) (c mo : Nat) : Nat := if (takeP ps c).1 - c > mo then c + mo else (takeP ps c).1
noncomputable def rdL (ps : List Pc) (c mo : Nat) : List Pc := if (takeP ps c).1 - c > mo then (c + mo, (takeP ps c).1) :: (takeP ps c).2 else (takeP ps c).2
theorem gap_above : ∀ {ps : List Pc} {j k : Nat}, Gap j ps → (∀ p ∈ ps, k ≤ p.1) → Gap k ps
  | [], _, _, _, _ => trivial
  | (s, t) :: r, _, _, ⟨_, b, c, d⟩, h => ⟨h (s, t) (.head _), b, c, d⟩
theorem rdL_gap {ps : List Pc} {c mo : Nat} (h : Gap 0 ps) (hc : c ≤ 8) : Gap 0 (rdL ps c mo) := by
  obtain ⟨k, t⟩ := takeP_ok h hc
  unfold rdL
  split
  · exact ⟨Nat.zero_le _, by omega, t.f8, gap_above t.gap fun p hp => (t.up (by omega)).2 p hp⟩
  · exact t.gap
theorem rdF_le {ps : List Pc} {c mo : Nat} (h : Gap 0 ps) (hc : c ≤ 8) : c ≤ rdF ps c mo ∧ rdF ps c mo ≤ 8 := by
  obtain ⟨k, t⟩ := takeP_ok h hc
  have := t.le
  have := t.f8
  unfold rdF
  split <;> omega
end
-- part FRead
section
example : True := by
  w_top off
  trivial
abbrev Rst (σ : PSt) : Prop := σ.st = "reset_recvd" ∨ σ.st = "reset_read"
noncomputable def rdS (σ : PSt) (f : Nat) : String := if Rst σ then "reset_read" else if σ.st = "data_recvd" ∧ σ.fin = some (f : Int) then "data_read" else σ.st
noncomputable def rdC (σ : PSt) (ps : List Pc) (c mo : Nat) : Nat := if Rst σ then c else rdF ps c mo
noncomputable def rdP (σ : PSt) (ps : List Pc) (c mo : Nat) : List Pc := if Rst σ then ps else rdL ps c mo
theorem st_beq {x y : String} (hx : Stt x) (hy : Stt y) : (Str.ofString x == Str.ofString y) = (x == y) := by
  rcases hx with rfl | rfl | rfl | rfl | rfl | rfl <;> rcases hy with rfl | rfl | rfl | rfl | rfl | rfl <;> decide
theorem eq_strB {prog : Program} {w : World} {A : Around} {E : Value → Shared → Prop} {s : Shared} {x y : Str} {t u : Tok} {b : Bool} {Q : Value → Shared → Prop} (hb : (x == y) = b) (h : Q (.bool b) s) :
    wpAny (model prog w) A (compareOp .Eq (.str x t) (.str y u)) Q E s := PyProof.Rows.eq_str (by rw [hb]; exact h)
local macro_rules | `(tactic| walk_at "compareOp Eq str str") => `(tactic| (k_here; refine eq_strB (by assumption) ?_))
set_option maxHeartbeats 8000000 in
theorem read_ok {w : World} {news : Led} {g : Obj → Led} {x dx : Addr} {o : Obj} {σ : PSt} {ps : List Pc} {c mo : Nat} {u1 : Tok} (Up : UpdF dx o news g) (hx : (x, instObj 154 dx) ∈ news) (hO : Ok w news σ ps c o) :
    Fn w 123 [.ref x, .int (mo : Int) u1] news 40 500
      (fun r n => ∃ o' new, n = new ++ g o' ∧ Fresh new news ∧ KeepND news n ∧ ∃ pl' a u k, Ok w n ⟨σ.lim, rdS σ (rdC σ ps c mo), pl', (rdC σ ps c mo : Nat), σ.hi, σ.fin, σ.stop⟩ (rdP σ ps c mo) (rdC σ ps c mo) o' ∧
        r = .ref a ∧ (a, tupN #[.bytes (D c (rdC σ ps c mo)) u, .bool (rdS σ (rdC σ ps c mo) == "data_read" || rdS σ (rdC σ ps c mo) == "reset_read")] k) ∈ n ∧ PlF news σ.pl pl') := by
  refine Fn.updK (P := fun r o' n => ∃ pl' a u k, Ok w n ⟨σ.lim, rdS σ (rdC σ ps c mo), pl', (rdC σ ps c mo : Nat), σ.hi, σ.fin, σ.stop⟩ (rdP σ ps c mo) (rdC σ ps c mo) o' ∧
        r = .ref a ∧ (a, tupN #[.bytes (D c (rdC σ ps c mo)) u, .bool (rdS σ (rdC σ ps c mo) == "data_read" || rdS σ (rdC σ ps c mo) == "reset_read")] k) ∈ n ∧ PlF news σ.pl pl') (fun r o' m m' hs ⟨pl', a, u, k, h, e, q, z⟩ => ⟨pl', a, u, k, h.mono hs, e, hs _ q, z⟩) hO.part.dict Up fun rest hoff hin hsub => ?_
  have hx2 := hin _ hx (show Value.ref 154 ≠ .type "dict" by decide)
  have hpc2 := hO.pcs.keep hin
  have hP0 := hO.part
  refine goalAside fun Xg kg => ?_
  obtain ⟨hP, hpcs, hgap, hrd, hc8, hst⟩ := hO
  refine kg ?_
  clear kg Xg
  obtain ⟨t1, t2, t3, t4, t5, t6, t7, t8, u3, u4, u5, u6, fv, rv, sv, rfl, hfv, hsv⟩ := hP
  by_cases hr : Rst σ
  · have e1 : rdC σ ps c mo = c := if_pos hr
    have e2 : rdP σ ps c mo = ps := if_pos hr
    have e3 : rdS σ c = "reset_read" := if_pos hr
    have e4 : (#[] : Array UInt8) = D c c := (D_none (Nat.le_refl c)).symm
    simp only [e1, e2, e3]
    intro p loose mean mg mb dp un gd cn cs a ccd cl outer A₀ base h₀ L m s Q E B F X N T hk hd hu hret
    refine wpAny_call ?_
    k_dflt (refine' code_def (binds := [(PySem.Str.ofString "self", .ref x), (PySem.Str.ofString "most", .int (mo : Int) u1)]) ?k1 ?k2 ?k3 ?k4 ?k5 ?kA ?kF ?kK ?k6 ?k7 ?k8 ?k9 ?kB ?_ ?c2 ?c3 ?c4 ?c5; (case kA => exact rfl); (case kF => exact rfl); (case kK => assumption); (case k1 => k_asm); (case k2 => k_asm); (case k3 => k_asm); (case k4 => k_asm); (case k5 => k_asm); (case k6 => k_is); (case k7 => k_is); (case k8 => ktr_room); (case k9 => exact BindsTo.of_eq rfl); (case c5 => decide); (case kB => exact locs rfl); (case c2 => exact rfl); (case c3 => exact rfl); (case c4 => exact rfl); k_whole)
    intro g' L' h' FG' F' N' B' X' T'
    (try dsimp only)
    (try k_fold)
    rcases hr with h | h
    all_goals
      rw [h, hrd] at N'
      k_steps
      (rename News h₀ L _ _ => kN)
      rw [e4] at kN
      exact hret _ _ _ _ (by k_asm) kN ⟨_, [_], rfl, by ((repeat (refine Fresh.cons (by (first | assumption | exact lt_ne' (by assumption) | exact allLt_ne (by assumption) | exact allLt_ne1 (by assumption) | exact allLt_ne2 (by assumption) | exact allLt_ne3 (by assumption) | exact allLt_ne4 (by assumption) | exact all_right (lt_ne' (by assumption)) | exact all_right (allLt_ne (by assumption)) | exact all_right (allLt_ne1 (by assumption)) | exact all_right (allLt_ne2 (by assumption)) | exact all_right (allLt_ne3 (by assumption)))) ?_)); first | exact Fresh.nil | assumption), σ.pl, _, _, _, ⟨⟨_, _, _, _, _, _, _, _, _, _, _, _, _, _, _, rfl, hfv, hsv⟩, hpc2.mono (fun _ h => .tail _ (.tail _ h)), hgap, rfl, hc8, by simp [Stt]⟩, rfl, .head _, .inl rfl⟩
  · have e1 : rdC σ ps c mo = rdF ps c mo := if_neg hr
    have e2 : rdP σ ps c mo = rdL ps c mo := if_neg hr
    have e3 : rdS σ (rdF ps c mo) = if σ.st = "data_recvd" ∧ σ.fin = some (rdF ps c mo : Int) then "data_read" else σ.st := if_neg hr
    have hs1 : (Str.ofString σ.st == Str.ofString "reset_recvd") = false := by
      rw [st_beq hst (by simp [Stt])]
      exact beq_eq_false_iff_ne.mpr fun h => hr (.inl h)
    have hs2 : (Str.ofString σ.st == Str.ofString "reset_read") = false := by
      rw [st_beq hst (by simp [Stt])]
      exact beq_eq_false_iff_ne.mpr fun h => hr (.inr h)
    have hrr : (σ.st == "reset_read") = false := beq_eq_false_iff_ne.mpr fun h => hr (.inr h)
    simp only [e1, e2]
    intro p loose mean mg mb dp un gd cn cs a ccd cl outer A₀ base h₀ L m s Q E B F X N T hk hd hu hret
    refine wpAny_call ?_
    k_dflt (refine' code_def (binds := [(PySem.Str.ofString "self", .ref x), (PySem.Str.ofString "most", .int (mo : Int) u1)]) ?k1 ?k2 ?k3 ?k4 ?k5 ?kA ?kF ?kK ?k6 ?k7 ?k8 ?k9 ?kB ?_ ?c2 ?c3 ?c4 ?c5; (case kA => exact rfl); (case kF => exact rfl); (case kK => assumption); (case k1 => k_asm); (case k2 => k_asm); (case k3 => k_asm); (case k4 => k_asm); (case k5 => k_asm); (case k6 => k_is); (case k7 => k_is); (case k8 => ktr_room); (case k9 => exact BindsTo.of_eq rfl); (case c5 => decide); (case kB => exact locs rfl); (case c2 => exact rfl); (case c3 => exact rfl); (case c4 => exact rfl); k_whole)
    intro g' L' h' FG' F' N' B' X' T'
    (try dsimp only)
    (try k_fold)
    rw [hrd] at N'
    k_steps
    refine Stop.to ?_
    k_dflt (refine' Fn.use ?Bz9 ?Fz9 ?Xz9 ?Nz9 ?Tz9 ?Kz9 (tk_ok (ps := ps) (c := c) ?h1z9 ?h2z9 ?h3z9) ?dz9 ?uz9 ?_; (case Bz9 => k_asm); (case Fz9 => k_asm); (case Xz9 => k_asm); (case Nz9 => k_asm); (case Tz9 => k_asm); (case Kz9 => exact rfl); (case h1z9 => (exact hpc2.mono (fun _ h => .tail _ h))); (case h2z9 => exact hgap); (case h3z9 => exact hc8); (case dz9 => ktr_room); (case uz9 => ktr_units); k_whole)
    rintro r n h4 tk4 F4 N4 hp16g
    refine goalAside fun Xg kg => ?_
    obtain ⟨new4, a4, b4, u4', k4, rfl, hf4, rfl, hm4, hp4, hb4⟩ := hp16g
    refine kg ?_
    clear kg Xg
    have hHI : HaltIf := trivial
    k_steps
    obtain ⟨kk, ht⟩ := takeP_ok hgap hc8
    have hp4' := hp4
    refine goalAside fun Xg kg => ?_
    obtain ⟨lvs, ln, hlm, hla⟩ := hp4
    refine kg ?_
    clear kg Xg
    have hll := hla.length
    have hlg := gap_len (Nat.zero_le _) ht.gap
    have hszf := D_size c (takeP ps c).1
    have htle := ht.le
    have ht8 := ht.f8
    (rename Fr g' L' _ _ => F5)
    refine Stop.to ?_
    refine join_if (h₀ := g') (L := L') (fun m' n => ∃ new5 lb u5', n = new5 ++ (dx, dictOf (partEs w.params t1 t2 t3 t4 t5 t6 t7 t8 (.int σ.lim u3) (.str (Str.ofString σ.st) u4) (.ref σ.pl) (.int (c : Int) u5) (.int σ.hi u6) fv rv sv) 8) :: rest ∧ Fresh new5 ((dx, dictOf (partEs w.params t1 t2 t3 t4 t5 t6 t7 t8 (.int σ.lim u3) (.str (Str.ofString σ.st) u4) (.ref σ.pl) (.int (c : Int) u5) (.int σ.hi u6) fv rv sv) 8) :: rest) ∧ PcsAt n lb (rdL ps c mo) ∧ (∃ ol, (lb, ol) ∈ new5) ∧
      FmIs m' [(Str.ofString "left", .ref lb), (Str.ofString "found", .bytes (D c (rdF ps c mo)) u5')] [Str.ofString "left", Str.ofString "found"] (fun y => List.lookup y [(Str.ofString "self", Value.ref x), (Str.ofString "most", Value.int (↑mo) u1)].reverse)) ?_ ?_
    · clear hHI
      (refine hide ?_; intro _ _ _ _)
      k_steps
      · rename_i P1 hP1 hPs1 D1 _ la l2 _ lb D3 _ lc _ _ _ t7 _ P2 hP2 hPs2 h8 F8 N8 _
        have e9 : P1 = D (c + mo) (takeP ps c).1 := by
          rw [hP1, picked_from htle (by omega)]
          congr 1
          omega
        have e10 : P2 = D c (c + mo) := by
          rw [hP2, picked_to (by omega)]
          congr 1
          omega
        rw [e9] at N8
        rw [e10] at F8
        have e7 : rdF ps c mo = c + mo := if_pos (by omega)
        have e8 : rdL ps c mo = (c + mo, (takeP ps c).1) :: (takeP ps c).2 := if_pos (by omega)
        rw [e7, e8]
        refine JnEnd.intro F8 N8 ⟨_ :: _ :: _ :: new4, D3, _, rfl, by ((repeat (refine Fresh.cons (by (first | assumption | exact lt_ne' (by assumption) | exact allLt_ne (by assumption) | exact allLt_ne1 (by assumption) | exact allLt_ne2 (by assumption) | exact allLt_ne3 (by assumption) | exact allLt_ne4 (by assumption) | exact all_right (lt_ne' (by assumption)) | exact all_right (allLt_ne (by assumption)) | exact all_right (allLt_ne1 (by assumption)) | exact all_right (allLt_ne2 (by assumption)) | exact all_right (allLt_ne3 (by assumption)))) ?_)); first | exact Fresh.nil | assumption), ?_, ⟨_, .head _⟩, by (refine ⟨?_, ?_⟩; (focus (repeat' (first | exact (List.forall_mem_nil _) | refine List.forall_mem_cons.mpr ⟨rfl, ?_⟩))); (focus ((repeat (refine fm_out (by rfl) ?_)); first | exact fm_base | exact fun _ _ => rfl)))⟩
        exact ⟨[Value.ref D1] ++ lvs, _, .head _, .cons ⟨D1, _, _, _, rfl, .tail _ (.tail _ (.head _))⟩ (All2.mono (fun _ _ q => q.mono fun _ hp => .tail _ (.tail _ (.tail _ hp))) hla)⟩
      · have e7 : rdF ps c mo = (takeP ps c).1 := if_neg (by omega)
        have e8 : rdL ps c mo = (takeP ps c).2 := if_neg (by omega)
        rw [e7, e8]
        exact JnEnd.intro (by k_asm) (by k_asm) ⟨new4, b4, _, rfl, hf4, hp4', hb4, by (refine ⟨?_, ?_⟩; (focus (repeat' (first | exact (List.forall_mem_nil _) | refine List.forall_mem_cons.mpr ⟨rfl, ?_⟩))); (focus ((repeat (refine fm_out (by rfl) ?_)); first | exact fm_base | exact fun _ _ => rfl)))⟩
    · rintro h6 tk6 m6 n F6 N6 hp17g
      refine goalAside fun Xg kg => ?_
      obtain ⟨new5, lb, u5', rfl, hf5, hp5, hlb, hfm⟩ := hp17g
      refine kg ?_
      clear kg Xg
      clear hHI F5
      obtain ⟨u, rfl⟩ := hfm.get
      dsimp only [fm] at F6
      have hfc := rdF_le (mo := mo) hgap hc8
      have hgl5 := rdL_gap (mo := mo) hgap hc8
      have hee : (c : Int) + ((D c (rdF ps c mo)).size : Int) = (rdF ps c mo : Nat) := by rw [D_size]; omega
      have b3 : (Str.ofString "data_recvd" == Str.ofString "data_read") = false := by decide
      have b4 : (Str.ofString "data_read" == Str.ofString "data_read") = true := by decide
      by_cases h : σ.st = "data_recvd"
      · rw [h] at N6 hs1 hs2
        rcases hfi : σ.fin with _ | k
        · rw [hfi] at hfv
          obtain rfl : fv = .none := hfv
          have hfv' : OptInt .none σ.fin := by rw [hfi]; rfl
          k_steps
          (rename News h₀ L _ _ => kN)
          have e11 : rdS σ (rdF ps c mo) = "data_recvd" := by rw [e3, if_neg (by rw [hfi]; simp), h]
          rw [hee] at kN
          rw [e11] at hret
          exact hret _ _ _ _ (by k_asm) kN ⟨_, _ :: new5, rfl, (Fresh.cons (by (first | assumption | exact lt_ne' (by assumption) | exact allLt_ne (by assumption) | exact allLt_ne1 (by assumption) | exact allLt_ne2 (by assumption) | exact allLt_ne3 (by assumption) | exact allLt_ne4 (by assumption) | exact all_right (lt_ne' (by assumption)) | exact all_right (allLt_ne (by assumption)) | exact all_right (allLt_ne1 (by assumption)) | exact all_right (allLt_ne2 (by assumption)) | exact all_right (allLt_ne3 (by assumption)))) hf5.obj).obj, lb, _, _, _, ⟨⟨_, _, _, _, _, _, _, _, _, _, _, _, _, _, _, rfl, hfv', hsv⟩, (hp5.keep keepND_obj).mono (fun _ h => .tail _ h), hgl5, rfl, hfc.2, by simp [Stt]⟩, rfl, .head _, PlF.of hin hf5 hlb⟩
        · rw [hfi] at hfv
          obtain ⟨u7, rfl⟩ := hfv
          have hfv' : OptInt (.int k u7) σ.fin := by rw [hfi]; exact ⟨_, rfl⟩
          k_steps
          · have hkk : (rdF ps c mo : Int) = k := by omega
            (rename News h₀ L _ _ => kN)
            have e11 : rdS σ (rdF ps c mo) = "data_read" := by rw [e3, if_pos ⟨h, by rw [hfi, hkk]⟩]
            rw [hee] at kN
            rw [e11] at hret
            exact hret _ _ _ _ (by k_asm) kN ⟨_, _ :: new5, rfl, (Fresh.cons (by (first | assumption | exact lt_ne' (by assumption) | exact allLt_ne (by assumption) | exact allLt_ne1 (by assumption) | exact allLt_ne2 (by assumption) | exact allLt_ne3 (by assumption) | exact allLt_ne4 (by assumption) | exact all_right (lt_ne' (by assumption)) | exact all_right (allLt_ne (by assumption)) | exact all_right (allLt_ne1 (by assumption)) | exact all_right (allLt_ne2 (by assumption)) | exact all_right (allLt_ne3 (by assumption)))) hf5.obj).obj, lb, _, _, _, ⟨⟨_, _, _, _, _, _, _, _, _, _, _, _, _, _, _, rfl, hfv', hsv⟩, (hp5.keep keepND_obj).mono (fun _ h => .tail _ h), hgl5, rfl, hfc.2, by simp [Stt]⟩, rfl, .head _, PlF.of hin hf5 hlb⟩
          · have hkk : ¬ (rdF ps c mo : Int) = k := by omega
            (rename News h₀ L _ _ => kN)
            have e11 : rdS σ (rdF ps c mo) = "data_recvd" := by rw [e3, if_neg (fun q => by rw [hfi] at q; exact hkk (Option.some.inj q.2).symm), h]
            rw [hee] at kN
            rw [e11] at hret
            exact hret _ _ _ _ (by k_asm) kN ⟨_, _ :: new5, rfl, (Fresh.cons (by (first | assumption | exact lt_ne' (by assumption) | exact allLt_ne (by assumption) | exact allLt_ne1 (by assumption) | exact allLt_ne2 (by assumption) | exact allLt_ne3 (by assumption) | exact allLt_ne4 (by assumption) | exact all_right (lt_ne' (by assumption)) | exact all_right (allLt_ne (by assumption)) | exact all_right (allLt_ne1 (by assumption)) | exact all_right (allLt_ne2 (by assumption)) | exact all_right (allLt_ne3 (by assumption)))) hf5.obj).obj, lb, _, _, _, ⟨⟨_, _, _, _, _, _, _, _, _, _, _, _, _, _, _, rfl, hfv', hsv⟩, (hp5.keep keepND_obj).mono (fun _ h => .tail _ h), hgl5, rfl, hfc.2, by simp [Stt]⟩, rfl, .head _, PlF.of hin hf5 hlb⟩
      · have hs3 : (Str.ofString σ.st == Str.ofString "data_recvd") = false := by
          rw [st_beq hst (by simp [Stt])]
          exact beq_eq_false_iff_ne.mpr h
        have hs4 : (Str.ofString σ.st == Str.ofString "data_read") = (σ.st == "data_read" || σ.st == "reset_read") := by
          rw [st_beq hst (by simp [Stt]), hrr, Bool.or_false]
        k_steps
        (rename News h₀ L _ _ => kN)
        have e11 : rdS σ (rdF ps c mo) = σ.st := by rw [e3, if_neg fun q => h q.1]
        rw [hee] at kN
        rw [e11] at hret
        exact hret _ _ _ _ (by k_asm) kN ⟨_, _ :: new5, rfl, (Fresh.cons (by (first | assumption | exact lt_ne' (by assumption) | exact allLt_ne (by assumption) | exact allLt_ne1 (by assumption) | exact allLt_ne2 (by assumption) | exact allLt_ne3 (by assumption) | exact allLt_ne4 (by assumption) | exact all_right (lt_ne' (by assumption)) | exact all_right (allLt_ne (by assumption)) | exact all_right (allLt_ne1 (by assumption)) | exact all_right (allLt_ne2 (by assumption)) | exact all_right (allLt_ne3 (by assumption)))) hf5.obj).obj, lb, _, _, _, ⟨⟨_, _, _, _, _, _, _, _, _, _, _, _, _, _, _, rfl, hfv, hsv⟩, (hp5.keep keepND_obj).mono (fun _ h => .tail _ h), hgl5, rfl, hfc.2, hst⟩, rfl, .head _, PlF.of hin hf5 hlb⟩
end
-- part FData
section
example : True := by
  w_top off
  trivial
theorem data_eq {b e : Nat} (hb : b ≤ e) : byteArr (List.map (fun k' => 3 * k' + 1) (rangeKs (b : Int) ((e : Int) - b).toNat)) = D b e := by
  apply Array.toList_inj.mp
  show (List.map _ (List.map _ (List.map _ _))) = (List.map _ _)
  rw [List.map_map, List.map_map, List.range'_eq_map_range, List.map_map, show ((e : Int) - b).toNat = e - b by omega]
  refine List.map_congr_left fun i _ => ?_
  show (3 * ((b : Int) + (i : Int)) + 1).toNat.toUInt8 = UInt8.ofNat (3 * (b + i) + 1)
  rw [show (3 * ((b : Int) + (i : Int)) + 1).toNat = 3 * (b + i) + 1 by omega]
set_option maxHeartbeats 8000000 in
theorem data_ok {w : World} {news : Led} {b e : Nat} {u1 u2 : Tok} (hb : b ≤ e) (he : e ≤ 8) :
    Fn w 170 [.int (b : Int) u1, .int (e : Int) u2] news 10 80 (fun r n => ∃ new t, n = new ++ news ∧ Fresh new news ∧ r = .bytes (D b e) t) := by
  intro p loose mean mg mb dp un gd cn cs a ccd cl outer A₀ base h₀ L m s Q E B F X N T hk hd hu hret
  refine wpAny_call ?_
  k_dflt (refine' code_def (binds := [(PySem.Str.ofString "low", .int (b : Int) u1), (PySem.Str.ofString "high", .int (e : Int) u2)]) ?k1 ?k2 ?k3 ?k4 ?k5 ?kA ?kF ?kK ?k6 ?k7 ?k8 ?k9 ?kB ?_ ?c2 ?c3 ?c4 ?c5; (case kA => exact rfl); (case kF => exact rfl); (case kK => assumption); (case k1 => k_asm); (case k2 => k_asm); (case k3 => k_asm); (case k4 => k_asm); (case k5 => k_asm); (case k6 => k_is); (case k7 => k_is); (case k8 => ktr_room); (case k9 => exact BindsTo.of_eq rfl); (case c5 => decide); (case kB => exact locs rfl); (case c2 => exact rfl); (case c3 => exact rfl); (case c4 => exact rfl); k_whole)
  intro g' L' h' FG' F' N' B' X' T'
  (try dsimp only)
  (try k_fold)
  k_steps
  (refine Stop.to ?_; k_dflt (refine LCg.ListComp_U (F₀ := by k_asm) (by with_unfolding_all rfl) (by decide) (by rfl) (by decide) (by rfl) ?_))
  k_steps
  (rename LCg.Off1 _ _ => o8)
  refine hret _ _ _ _ (by k_asm) (by k_asm) ⟨[_], _, rfl, Fresh.cons (off1_ne o8) Fresh.nil, congrArg (Value.bytes · _) (data_eq hb)⟩
end
-- part FHigh
section
example : True := by
  w_top off
  trivial
noncomputable def highR (ws : List Wd) : Int := ws.foldl (fun m w => max m w.e) 0
theorem lt_ne2 {d : Nat} {l : Led} (h : ∀ p ∈ l, p.1 < d) : ∀ p ∈ l, p.1 ≠ d := fun p hp => Nat.ne_of_lt (h p hp)
theorem high_ge : ∀ (ws : List Wd) (m : Int), m ≤ ws.foldl (fun m w => max m w.e) m ∧ ∀ w ∈ ws, w.e ≤ ws.foldl (fun m w => max m w.e) m
  | [], _ => ⟨Int.le_refl _, fun _ h => nomatch h⟩
  | x :: r, m => by
    obtain ⟨a, b⟩ := high_ge r (max m x.e)
    rw [List.foldl_cons]
    refine ⟨by omega, fun w hw => ?_⟩
    rcases List.mem_cons.mp hw with rfl | hw
    · omega
    · exact b w hw
theorem high_mem : ∀ (ws : List Wd) (m : Int), ws.foldl (fun m w => max m w.e) m = m ∨ ∃ w ∈ ws, ws.foldl (fun m w => max m w.e) m = w.e
  | [], _ => .inl rfl
  | x :: r, m => by
    rw [List.foldl_cons]
    rcases high_mem r (max m x.e) with h | ⟨w, hw, h⟩
    · by_cases q : m ≤ x.e
      · exact .inr ⟨x, .head _, by omega⟩
      · exact .inl (by omega)
    · exact .inr ⟨w, .tail _ hw, h⟩
theorem high_eq {ws : List Wd} {M : Int} (hM : M ∈ [0] ++ List.map (fun x => x.e) ws) (hU : ∀ a ∈ [0] ++ List.map (fun x => x.e) ws, a ≤ M) : M = highR ws := by
  have g := high_ge ws 0
  have k : highR ws ≤ M := by
    rcases high_mem ws 0 with h | ⟨w, hw, h⟩
    · unfold highR; rw [h]; exact hU 0 (by simp)
    · unfold highR; rw [h]; exact hU w.e (List.mem_append_right _ (List.mem_map.mpr ⟨w, hw, rfl⟩))
  have j : M ≤ highR ws := by
    rcases List.mem_append.mp hM with h | h
    · rw [List.mem_singleton.mp h]; exact g.1
    · obtain ⟨w, hw, rfl⟩ := List.mem_map.mp h
      exact g.2 w hw
  omega
set_option maxHeartbeats 8000000 in
theorem high_ok {w : World} {news : Led} {tl : Addr} {tvs : List Value} {tn : Nat} {ws : List Wd} (hm : (tl, listOf tvs.toArray tn) ∈ news) (hw : WdsAt news tvs ws) (hn : ws.length ≤ 40) :
    Fn w 196 [.ref tl] news 10 80 (fun r n => ∃ new t, n = new ++ news ∧ Fresh new news ∧ r = .int (highR ws) t) := by
  have hl := hw.length
  intro p loose mean mg mb dp un gd cn cs a ccd cl outer A₀ base h₀ L m s Q E B F X N T hk hd hu hret
  refine wpAny_call ?_
  k_dflt (refine' code_def (binds := [(PySem.Str.ofString "taken", .ref tl)]) ?k1 ?k2 ?k3 ?k4 ?k5 ?kA ?kF ?kK ?k6 ?k7 ?k8 ?k9 ?kB ?_ ?c2 ?c3 ?c4 ?c5; (case kA => exact rfl); (case kF => exact rfl); (case kK => assumption); (case k1 => k_asm); (case k2 => k_asm); (case k3 => k_asm); (case k4 => k_asm); (case k5 => k_asm); (case k6 => k_is); (case k7 => k_is); (case k8 => ktr_room); (case k9 => exact BindsTo.of_eq rfl); (case c5 => decide); (case kB => exact locs rfl); (case c2 => exact rfl); (case c3 => exact rfl); (case c4 => exact rfl); k_whole)
  intro g' L' h' FG' F' N' B' X' T'
  (try dsimp only)
  (try k_fold)
  k_steps
  (refine Stop.to ?_; k_dflt (refine LCg.ListComp_U (F₀ := by k_asm) (by with_unfolding_all rfl) (by decide) (by rfl) (by decide) (by rfl) ?_))
  k_steps
  rename_i l0 h0 F0 N0 hlt
  refine LCg.CompSrc.ledger rfl (by k_asm) (by k_asm) (List.mem_cons_of_mem _ hm) (by rw [List.size_toArray]; exact Nat.le_trans (by omega : tvs.length ≤ 40) (by decide)) ?_
  intro gg
  rw [List.size_toArray]
  refine compU_run (fun i ys nx => ∃ c0, nx = (l0, listOf #[.int 0 c0] 0) :: news ∧ IntsAre ys ((ws.take i).map (·.e))) tvs.length ?_ ?_ _ _ _ _ (Nat.zero_add _) ⟨_, rfl, .nil⟩
  · rintro i ys nx v I oI C oC D9 m₂ h9 tk9 E' hi ⟨c0, rfl, hI⟩ hv hC hx F9 N9 off ne
    have hv' : tvs[i]? = some v := by simpa using hv
    refine goalAside fun Xg kg => ?_
    obtain ⟨wd, hpi, a1, n1, t1, t2, rfl, hmem⟩ := hw.get hv'
    refine kg ?_
    clear kg Xg
    k_steps
    refine compEnd_same (by k_asm) (by k_asm) off (.inr ⟨_, .tail _ hm, rfl, _, rfl⟩) ⟨c0, rfl, ?_⟩
    rw [List.take_add_one, hpi, List.map_append]
    exact hI.append (.cons _ _ .nil)
  · rintro ys nx ⟨c0, rfl, hI⟩
    rw [hl, List.take_length] at hI
    have hyl := hI.length
    rw [List.length_map] at hyl
    k_steps
    (rename _ ∈ [0] ++ List.map (fun x => x.e) ws => hM)
    (rename (∀ a ∈ [0] ++ List.map (fun x => x.e) ws, a ≤ _) => hU)
    (rename (l0 ≠ _ ∧ LCg.Off1 _ _) => o8)
    refine hret _ _ _ _ (by k_asm) (by k_asm) ⟨[_, _, _], _, rfl, Fresh.cons (by (first | assumption | exact lt_ne' (by assumption) | exact allLt_ne (by assumption) | exact allLt_ne1 (by assumption) | exact allLt_ne2 (by assumption) | exact allLt_ne3 (by assumption) | exact allLt_ne4 (by assumption) | exact all_right (lt_ne' (by assumption)) | exact all_right (allLt_ne (by assumption)) | exact all_right (allLt_ne1 (by assumption)) | exact all_right (allLt_ne2 (by assumption)) | exact all_right (allLt_ne3 (by assumption)))) (Fresh.cons (off1_ne (by first | exact o8 | exact o8.2)) (Fresh.cons (fun p hp => Nat.ne_of_lt (hlt p hp)) Fresh.nil)), congrArg (Value.int · _) (high_eq hM hU)⟩
end
-- part FFin
section
example : True := by
  w_top off
  trivial
noncomputable def finR (ws : List Wd) : Option Int := ((ws.filter (·.f)).map (·.e)).head?
set_option maxHeartbeats 8000000 in
theorem fin_ok {w : World} {news : Led} {tl : Addr} {tvs : List Value} {tn : Nat} {ws : List Wd} (hm : (tl, listOf tvs.toArray tn) ∈ news) (hw : WdsAt news tvs ws) (hn : ws.length ≤ 40) :
    Fn w 206 [.ref tl] news 10 80 (fun r n => ∃ new, n = new ++ news ∧ Fresh new news ∧ OptInt r (finR ws)) := by
  have hl := hw.length
  intro p loose mean mg mb dp un gd cn cs a ccd cl outer A₀ base h₀ L m s Q E B F X N T hk hd hu hret
  refine wpAny_call ?_
  k_dflt (refine' code_def (binds := [(PySem.Str.ofString "taken", .ref tl)]) ?k1 ?k2 ?k3 ?k4 ?k5 ?kA ?kF ?kK ?k6 ?k7 ?k8 ?k9 ?kB ?_ ?c2 ?c3 ?c4 ?c5; (case kA => exact rfl); (case kF => exact rfl); (case kK => assumption); (case k1 => k_asm); (case k2 => k_asm); (case k3 => k_asm); (case k4 => k_asm); (case k5 => k_asm); (case k6 => k_is); (case k7 => k_is); (case k8 => ktr_room); (case k9 => exact BindsTo.of_eq rfl); (case c5 => decide); (case kB => exact locs rfl); (case c2 => exact rfl); (case c3 => exact rfl); (case c4 => exact rfl); k_whole)
  intro g' L' h' FG' F' N' B' X' T'
  (try dsimp only)
  (try k_fold)
  k_steps
  (refine Stop.to ?_; k_dflt (refine LCt.Assign_ListComp_T (F₀ := by k_asm) (by rfl) (by with_unfolding_all rfl) (by with_unfolding_all rfl) (by decide) (by rfl) (by decide) (by rfl) (by rfl) (by rfl) ?_))
  k_steps
  refine LCt.CompSrcT.ledger rfl (by k_asm) (by k_asm) hm (by rw [List.size_toArray]; exact Nat.le_trans (by omega : tvs.length ≤ 40) (by decide)) ?_
  intro gg
  rw [List.size_toArray]
  refine compT_run (fun i ys nx => nx = news ∧ IntsAre ys (((ws.take i).filter (·.f)).map (·.e))) tvs.length ?_ ?_ _ _ _ _ (Nat.zero_add _) ⟨rfl, .nil⟩
  · rintro i ys nx v I oI C oC D9 m₂ h9 tk9 E' hi ⟨rfl, hI⟩ hv hC hx F9 N9 off ne
    have hv' : tvs[i]? = some v := by simpa using hv
    refine goalAside fun Xg kg => ?_
    obtain ⟨⟨wr, wb, we, wf⟩, hpi, a1, n1, t1, t2, rfl, hmem⟩ := hw.get hv'
    refine kg ?_
    clear kg Xg
    dsimp only at hmem
    cases wf
    · k_steps
      refine compEnd_same (by k_asm) (by k_asm) off (.inr ⟨_, hm, rfl, _, rfl⟩) ⟨rfl, ?_⟩
      rw [List.take_add_one, hpi, List.filter_append, List.map_append]
      simpa using hI
    · k_steps
      refine compEnd_same (by k_asm) (by k_asm) off (.inr ⟨_, hm, rfl, _, rfl⟩) ⟨rfl, ?_⟩
      rw [List.take_add_one, hpi, List.filter_append, List.map_append]
      exact hI.append (.cons _ _ .nil)
  · rintro ys nx ⟨rfl, hI⟩
    rw [hl, List.take_length] at hI
    have hf : finR ws = (List.map (·.e) (List.filter (·.f) ws)).head? := rfl
    rw [hf] at hret
    have hyl : ys.length ≤ 40 := by rw [hI.length, List.length_map]; exact Nat.le_trans (List.length_filter_le ..) hn
    generalize List.map (·.e) (List.filter (·.f) ws) = ms at hI hret
    cases hI with
    | nil =>
      k_steps
      (rename LCg.Off1 _ _ => o8)
      exact hret _ _ _ _ (by k_asm) (by k_asm) ⟨[_], rfl, Fresh.cons (off1_ne o8) Fresh.nil, rfl⟩
    | cons k t hI =>
      k_steps
      · (rename LCg.Off1 _ _ => o8)
        exact hret _ _ _ _ (by k_asm) (by k_asm) ⟨[_], rfl, Fresh.cons (off1_ne o8) Fresh.nil, ⟨_, rfl⟩⟩
      · exfalso
        (rename ¬ _ => hno)
        simp at hno
        try omega
end
-- part FDue
section
example : True := by
  w_top off
  trivial
local macro_rules | `(tactic| walk_at "compareOp NotEq ref ref") => `(tactic| (k_here; k_dflt (refine' ne_nil1 (n₁ := _) (by k_asm) (by k_mem) (by k_mem) (by assumption) (by (intro p hp; k_mem)) (by units_room) ?_; k_whole)))
theorem frame_eq {x : Wd} {b : Bool} (h : x.r = b) : frameR x = if b then 4 else 8 := by unfold frameR; rw [h]
theorem lt_succ_ne {d : Nat} {l : Led} (h : ∀ p ∈ l, p.1 < d) : ∀ p ∈ l, p.1 ≠ d + 1 := fun p hp => Nat.ne_of_lt (Nat.lt_succ_of_lt (h p hp))
theorem off1_ne2 {d : Addr} {l : Led} {A : Prop} (h : A ∧ LCg.Off1 d l) : ∀ p ∈ l, p.1 ≠ d := off1_ne h.2
theorem any_take_succ {α : Type} {p : α → Bool} {l : List α} {i : Nat} {a : α} (h : l[i]? = some a) : (l.take (i + 1)).any p = ((l.take i).any p || p a) := by
  rw [List.take_add_one, h, List.any_append]
  simp
set_option maxHeartbeats 8000000 in
theorem due_ok {w : World} {news : Led} {tl : Addr} {tvs : List Value} {tn : Nat} {ws : List Wd} {v : Value} {x : Wd} {lim : Int} {u1 : Tok} (hv : WdAt news v x) (hm : (tl, listOf tvs.toArray tn) ∈ news) (hw : WdsAt news tvs ws) (hn : ws.length ≤ 40) :
    Fn w 201 [v, .ref tl, .int lim u1] news 20 200 (fun r n => ∃ new, n = new ++ news ∧ Fresh new news ∧ DueIs n r (dueC ws x lim) (frameR x) (max 0 (x.e - highR ws))) := by
  have hl := hw.length
  refine goalAside fun Xg kg => ?_
  obtain ⟨a1, n1, t1, t2, rfl, m1⟩ := hv
  refine kg ?_
  clear kg Xg
  have hv0 : WdAt news (.ref a1) x := ⟨a1, n1, t1, t2, rfl, m1⟩
  rcases hxr : x.r with _ | _
  all_goals
    have hfr := frame_eq hxr
    rw [hxr] at m1
    intro p loose mean mg mb dp un gd cn cs a ccd cl outer A₀ base h₀ L m s Q E B F X N T hk hd hu hret
    refine wpAny_call ?_
    k_dflt (refine' code_defC (binds := [(PySem.Str.ofString "word", .ref a1), (PySem.Str.ofString "taken", .ref tl), (PySem.Str.ofString "limit", .int lim u1)]) ?k1 ?k2 ?k3 ?k4 ?k5 ?kA ?kF ?kK ?k6 ?k7 ?k8 ?k9 ?kB ?kD ?_ ?c2 ?c3 ?c4; (case kA => exact rfl); (case kF => exact rfl); (case kK => assumption); (case k1 => k_asm); (case k2 => k_asm); (case k3 => k_asm); (case k4 => k_asm); (case k5 => k_asm); (case k6 => k_is); (case k7 => k_is); (case k8 => ktr_room); (case k9 => exact BindsTo.of_eq rfl); (case kB => exact rfl); (case kD => decide +kernel); (case c2 => exact rfl); (case c3 => exact rfl); (case c4 => exact rfl); k_whole)
    intro g' L' h' tk' cells' FG' F' N' Y' B' X' T' l1
    (try k_lt l1)
    k_cells Y'
    (try simp only [List.cons_append, List.nil_append] at N')
    (try dsimp only)
    (try k_fold)
    (refine hide ?_; intro _ _ _ _)
    k_steps
    rename_i c0 hd1 _ _ _ _ tk1 F1 N1 _
    (refine Stop.to ?_; k_dflt (refine LCt.ListComp_T (F₀ := by k_asm) (by with_unfolding_all rfl) (by decide) (by rfl) (by decide) (by rfl) ?_))
    k_steps
    refine LCt.CompSrcT.ledger rfl (by k_asm) (by k_asm) (List.mem_cons_of_mem _ hm) (by rw [List.size_toArray]; exact Nat.le_trans (by omega : tvs.length ≤ 40) (by decide)) ?_
    intro gg
    rw [List.size_toArray]
    refine compT_run (fun i ys nx => nx = (L' + 1, c0) :: news ∧ (∃ us, WdsAt news ys us) ∧ (ys = [] ↔ (ws.take i).any (fun y => contra y x) = false)) tvs.length ?_ ?_ _ _ _ _ (Nat.zero_add _) ⟨rfl, ⟨[], .nil⟩, by simp⟩
    · rintro i ys nx v I oI C oC D9 m₂ h9 tk9 E' hi hp18g hv hC hx F9 N9 off ne
      refine goalAside fun Xg kg => ?_
      obtain ⟨rfl, ⟨us, hI⟩, hy⟩ := hp18g
      refine kg ?_
      clear kg Xg
      have hv' : tvs[i]? = some v := by simpa using hv
      obtain ⟨wd, hpi, hwd⟩ := hw.get hv'
      k_steps
      refine Stop.to ?_
      k_dflt (refine' Fn.use ?Bz10 ?Fz10 ?Xz10 ?Nz10 ?Tz10 ?Kz10 (contra_ok ?h1z10 ?h2z10) ?dz10 ?uz10 ?_; (case Bz10 => k_asm); (case Fz10 => k_asm); (case Xz10 => k_asm); (case Nz10 => k_asm); (case Tz10 => k_asm); (case Kz10 => exact rfl); (case h1z10 => exact hwd.mono (fun _ h => .tail _ (.tail _ (.tail _ (.tail _ h))))); (case h2z10 => exact hv0.mono (fun _ h => .tail _ (.tail _ (.tail _ (.tail _ h))))); (case dz10 => ktr_room); (case uz10 => ktr_units); k_whole)
      rintro r n h8 tk8 F8 N8 ⟨rfl, rfl⟩
      have hts := any_take_succ (p := fun y => contra y x) hpi
      cases hcc : contra wd x
      · rw [hcc, Bool.or_false] at hts
        k_steps
        refine compEnd_same (by k_asm) (by k_asm) off (.inr ⟨_, .tail _ hm, rfl, _, rfl⟩) ⟨rfl, ⟨us, hI⟩, ?_⟩
        rw [hts]
        exact hy
      · rw [hcc, Bool.or_true] at hts
        k_steps
        refine compEnd_same (by k_asm) (by k_asm) off (.inr ⟨_, .tail _ hm, rfl, _, rfl⟩) ⟨rfl, ⟨_, hI.append (.cons hwd .nil)⟩, ?_⟩
        rw [hts]
        simp
    · rintro ys nx hp19g
      refine goalAside fun Xg kg => ?_
      obtain ⟨rfl, ⟨us, hI⟩, hy⟩ := hp19g
      refine kg ?_
      clear kg Xg
      rw [hl, List.take_length] at hy
      rcases ys with _ | ⟨y0, ys⟩
      · have hy' := hy.mp rfl
        k_steps
        · have hdc : dueC ws x lim = some 3 := by
            unfold dueC
            rw [hy', if_neg (by decide), if_pos (by assumption)]
          subst_vars
          refine hret _ _ _ _ (by k_asm) (by k_asm) ⟨[_, _, _, _], rfl, by ((repeat (refine Fresh.cons (by (first | first | exact lt_succ_ne (by assumption) | exact off1_ne2 (by assumption) | (first | assumption | exact lt_ne' (by assumption) | exact allLt_ne (by assumption) | exact allLt_ne1 (by assumption) | exact allLt_ne2 (by assumption) | exact allLt_ne3 (by assumption) | exact allLt_ne4 (by assumption) | exact all_right (lt_ne' (by assumption)) | exact all_right (allLt_ne (by assumption)) | exact all_right (allLt_ne1 (by assumption)) | exact all_right (allLt_ne2 (by assumption)) | exact all_right (allLt_ne3 (by assumption))))) ?_)); first | exact Fresh.nil | assumption), ?_⟩
          rw [hdc, hfr]
          exact ⟨_, _, _, _, rfl, .head _⟩
        · have hdc : dueC ws x lim = none := by
            unfold dueC
            rw [hy', if_neg (by decide), if_neg (by assumption)]
          refine Stop.to ?_
          k_dflt (refine' Fn.use ?Bz11 ?Fz11 ?Xz11 ?Nz11 ?Tz11 ?Kz11 (high_ok ?h1z11 ?h2z11 ?h3z11) ?dz11 ?uz11 ?_; (case Bz11 => k_asm); (case Fz11 => k_asm); (case Xz11 => k_asm); (case Nz11 => k_asm); (case Tz11 => k_asm); (case Kz11 => exact rfl); (case h1z11 => exact .tail _ (.tail _ (.tail _ hm))); (case h2z11 => exact hw.mono (fun _ h => .tail _ (.tail _ (.tail _ h)))); (case h3z11 => exact hn); (case dz11 => ktr_room); (case uz11 => ktr_units); k_whole)
          rintro r n h8 tk8 F8 N8 hp20g
          refine goalAside fun Xg kg => ?_
          obtain ⟨new8, t8, rfl, hf8, rfl⟩ := hp20g
          refine kg ?_
          clear kg Xg
          k_steps
          refine hret _ _ _ _ (by k_asm) (by k_asm) ⟨new8 ++ [_, _, _], (List.append_assoc _ [_, _, _] _).symm, ?_, ?_⟩
          · refine Fresh.appl (b := [_, _, _]) hf8 ?_
            ((repeat (refine Fresh.cons (by (first | first | exact lt_succ_ne (by assumption) | exact off1_ne2 (by assumption) | (first | assumption | exact lt_ne' (by assumption) | exact allLt_ne (by assumption) | exact allLt_ne1 (by assumption) | exact allLt_ne2 (by assumption) | exact allLt_ne3 (by assumption) | exact allLt_ne4 (by assumption) | exact all_right (lt_ne' (by assumption)) | exact all_right (allLt_ne (by assumption)) | exact all_right (allLt_ne1 (by assumption)) | exact all_right (allLt_ne2 (by assumption)) | exact all_right (allLt_ne3 (by assumption))))) ?_)); first | exact Fresh.nil | assumption)
          · rw [hdc]
            refine ⟨_, congrArg (Value.int · _) ?_⟩
            show _ = max 0 (x.e - highR ws)
            split <;> omega
      · have hy' : ws.any (fun y => contra y x) = true := by
          cases h : ws.any (fun y => contra y x)
          · exact nomatch hy.mpr h
          · rfl
        have hdc : dueC ws x lim = some 6 := by
          unfold dueC
          rw [hy', if_pos rfl]
        k_steps
        refine hret _ _ _ _ (by k_asm) (by k_asm) ⟨[_, _, _, _], rfl, by ((repeat (refine Fresh.cons (by (first | first | exact lt_succ_ne (by assumption) | exact off1_ne2 (by assumption) | (first | assumption | exact lt_ne' (by assumption) | exact allLt_ne (by assumption) | exact allLt_ne1 (by assumption) | exact allLt_ne2 (by assumption) | exact allLt_ne3 (by assumption) | exact allLt_ne4 (by assumption) | exact all_right (lt_ne' (by assumption)) | exact all_right (allLt_ne (by assumption)) | exact all_right (allLt_ne1 (by assumption)) | exact all_right (allLt_ne2 (by assumption)) | exact all_right (allLt_ne3 (by assumption))))) ?_)); first | exact Fresh.nil | assumption), ?_⟩
        rw [hdc, hfr]
        exact ⟨_, _, _, _, rfl, .head _⟩
end
-- part FWords
section
example : True := by
  w_top off
  trivial
local macro_rules | `(tactic| walk_at "exec For Name Call cons nil") => `(tactic| (k_here; refine Stop.mk ?_))
local macro_rules | `(tactic| walk_at "call type:range") => `(tactic| (k_here; refine Stop.mk ?_))
-- a word of the law as the law builds it
structure Wf (x : Wd) : Prop where
  b0 : 0 ≤ x.b
  be : x.b ≤ x.e
  e8 : x.e ≤ 8
  re : x.r = true → x.b = x.e ∧ x.f = true
theorem permW {h₀ h : Heap} {L : Addr} {a b c d : Addr × Obj} {r : Led} (N : News h₀ L h (a :: b :: c :: d :: r)) : News h₀ L h (c :: d :: a :: r) := fun p hp => N p (by
  simp only [List.mem_cons] at hp ⊢
  rcases hp with q | q | q | q <;> simp [q])
theorem ne_words {I l1 bx D : Addr} {o1 o2 o3 : Obj} {new rest : Led} (h1 : l1 ≠ I) (h2 : bx ≠ I) (h3 : D ≠ I) (hn : ∀ p ∈ new, p.1 ≠ I) (hr : ∀ p ∈ rest, p.1 ≠ I) : ∀ p ∈ (l1, o1) :: (((D, o2) :: new) ++ (bx, o3) :: rest), p.1 ≠ I := fun p hp => by
  rcases List.mem_cons.mp hp with rfl | hp
  · exact h1
  · rcases List.mem_append.mp hp with hp | hp
    · rcases List.mem_cons.mp hp with rfl | hp
      · exact h3
      · exact hn p hp
    · rcases List.mem_cons.mp hp with rfl | hp
      · exact h2
      · exact hr p hp
set_option maxHeartbeats 8000000 in
theorem words_ok {w : World} {news : Led} {g : Obj → Led} {bx l0 : Addr} {k : Int} {n : Nat} {tk tm : Tok} {vs : List Value} {ns : List Int} {c0 c1 : Nat}
  (Up : UpdF bx (listOf #[.ref l0, .int k tk] c1) news g) (hml : (l0, listOf vs.toArray c0) ∈ news) (hne : l0 ≠ bx)
  (hl : IntsAre vs ns) (hlen : ns.length ≤ 44) (hk0 : 0 ≤ k) (hk1 : k < 10) (hn : n ≤ 8) :
  Fn w 177 [.ref bx, .int (n : Int) tm] news 20 200 fun r m => ∃ o' new, m = new ++ g o' ∧ Fresh new news ∧ (∃ k' tk' c1', 0 ≤ k' ∧ k' < 40 ∧ o' = listOf #[.ref l0, .int k' tk'] c1') ∧
    ∃ wl wn wvs ws, r = .ref wl ∧ (wl, listOf wvs.toArray wn) ∈ new ∧ WdsAt new wvs ws ∧ ws.length = n ∧ ∀ x ∈ ws, Wf x := by
  refine Fn.upd Up fun rest hoff hin hsub => ?_
  have hml2 := hin _ hml hne
  intro p loose mean mg mb dp un gd cn cs a ccd cl outer A₀ base h₀ L m s Q E B F X N T hk hd hu hret
  refine wpAny_call ?_
  k_dflt (refine' code_def (binds := [(PySem.Str.ofString "box", .ref bx), (PySem.Str.ofString "many", .int (n : Int) tm)]) ?k1 ?k2 ?k3 ?k4 ?k5 ?kA ?kF ?kK ?k6 ?k7 ?k8 ?k9 ?kB ?_ ?c2 ?c3 ?c4 ?c5; (case kA => exact rfl); (case kF => exact rfl); (case kK => assumption); (case k1 => k_asm); (case k2 => k_asm); (case k3 => k_asm); (case k4 => k_asm); (case k5 => k_asm); (case k6 => k_is); (case k7 => k_is); (case k8 => ktr_room); (case k9 => exact BindsTo.of_eq rfl); (case c5 => decide); (case kB => exact locs rfl); (case c2 => exact rfl); (case c3 => exact rfl); (case c4 => exact rfl); k_whole)
  intro g' L' h' FG' F' N' B' X' T'
  (try dsimp only)
  (try k_fold)
  k_steps
  rename_i l1 h1 hl1 h2 F1 N1 _
  refine Stop.to ?_
  refine for_range (n := n) (t := tm) (J := fun i m nx => ∃ new wvs wn ws o' k' tk' c1', nx = (l1, listOf wvs.toArray wn) :: (new ++ (bx, o') :: rest) ∧ o' = listOf #[.ref l0, .int k' tk'] c1' ∧ k' = k + 3 * i ∧ (∀ p ∈ new, p.1 ≠ bx) ∧ (∀ p ∈ new, p.1 ≠ l1) ∧ Fresh new rest ∧ WdsAt new wvs ws ∧ ws.length = i ∧ (∀ x ∈ ws, Wf x) ∧
     FmIs m [] [Str.ofString "turn", Str.ofString "form", Str.ofString "place", Str.ofString "size"] (fun y => if y = Str.ofString "words" then some (Value.ref l1) else List.lookup y [(Str.ofString "box", Value.ref bx), (Str.ofString "many", .int (n : Int) tm)].reverse)) rfl ?_ (by intro _; rfl) (by omega) F1 N1 ⟨[], [], 0, [], _, _, _, _, rfl, rfl, (by omega), (fun _ h => nomatch h), (fun _ h => nomatch h), Fresh.nil, .nil, rfl, (fun _ h => nomatch h), ⟨(fun _ h => nomatch h), fun _ _ => rfl⟩⟩ ?_ ?_
  · intro Q' hq
    k_steps
    exact hq
  · rintro i t9 m₁ news₁ I oI h9 tk9 hi hp25g hnI F₁ N₁
    refine goalAside fun Xg kg => ?_
    obtain ⟨new, wvs, wn, ws, o', k', tk', c1', rfl, rfl, hk', hnb, hnl, hfr, hws, hwl, hwf, hf⟩ := hp25g
    refine kg ?_
    clear kg Xg
    obtain ⟨u, rfl⟩ := hf.get
    have hI1 : @Ne Nat l1 I := hnI (l1, _) (.head _)
    have hI2 : @Ne Nat bx I := hnI (bx, _) (.tail _ (List.mem_append_right _ (.head _)))
    have hwvl := hws.length
    have hbl : @Ne Nat bx l1 := Nat.ne_of_lt hl1.1
    dsimp only [fm] at F₁
    clear F1 N1
    (refine hide2 ?_; intro _ _)
    k_steps
    refine Stop.to ?_
    k_dflt (refine' Fn.use ?Bz12 ?Fz12 ?Xz12 ?Nz12 ?Tz12 ?Kz12 (take_ok (vs := vs) (ns := ns) ?h1z12 ?h2z12 ?h3z12 ?h4z12 ?h5z12 ?h6z12 ?h7z12 ?h8z12 ?h9z12) ?dz12 ?uz12 ?_; (case Bz12 => k_asm); (case Fz12 => k_asm); (case Xz12 => k_asm); (case Nz12 => k_asm); (case Tz12 => k_asm); (case Kz12 => exact rfl); (case h1z12 => k_updF); (case h2z12 => k_mem); (case h3z12 => exact hne); (case h4z12 => exact hl); (case h5z12 => exact hlen); (case h6z12 => omega); (case h7z12 => omega); (case h8z12 => decide); (case h9z12 => decide); (case dz12 => ktr_room); (case uz12 => ktr_units); k_whole)
    rintro r m8 h8 tk8 F8 N8 hp26g
    refine goalAside fun Xg kg => ?_
    obtain ⟨o8, new8, rfl, hf8, rfl, v1, tv1, tk1', c8, rfl, hv10, hv11, rfl⟩ := hp26g
    refine kg ?_
    clear kg Xg
    dsimp only [List.nil_append] at N8
    k_steps
    refine Stop.to ?_
    k_dflt (refine' Fn.use ?Bz13 ?Fz13 ?Xz13 ?Nz13 ?Tz13 ?Kz13 (take_ok (vs := vs) (ns := ns) ?h1z13 ?h2z13 ?h3z13 ?h4z13 ?h5z13 ?h6z13 ?h7z13 ?h8z13 ?h9z13) ?dz13 ?uz13 ?_; (case Bz13 => k_asm); (case Fz13 => k_asm); (case Xz13 => k_asm); (case Nz13 => k_asm); (case Tz13 => k_asm); (case Kz13 => exact rfl); (case h1z13 => k_updF); (case h2z13 => k_mem); (case h3z13 => exact hne); (case h4z13 => exact hl); (case h5z13 => exact hlen); (case h6z13 => omega); (case h7z13 => omega); (case h8z13 => decide); (case h9z13 => decide); (case dz13 => ktr_room); (case uz13 => ktr_units); k_whole)
    rintro r m7 h7 tk7 F7 N7 hp27g
    refine goalAside fun Xg kg => ?_
    obtain ⟨o7, new7, rfl, hf7, rfl, v2, tv2, tk2', c7, rfl, hv20, hv21, rfl⟩ := hp27g
    refine kg ?_
    clear kg Xg
    dsimp only [List.nil_append] at N7
    k_steps
    refine Stop.to ?_
    k_dflt (refine' Fn.use ?Bz14 ?Fz14 ?Xz14 ?Nz14 ?Tz14 ?Kz14 (take_ok (vs := vs) (ns := ns) ?h1z14 ?h2z14 ?h3z14 ?h4z14 ?h5z14 ?h6z14 ?h7z14 ?h8z14 ?h9z14) ?dz14 ?uz14 ?_; (case Bz14 => k_asm); (case Fz14 => k_asm); (case Xz14 => k_asm); (case Nz14 => k_asm); (case Tz14 => k_asm); (case Kz14 => exact rfl); (case h1z14 => k_updF); (case h2z14 => k_mem); (case h3z14 => exact hne); (case h4z14 => exact hl); (case h5z14 => exact hlen); (case h6z14 => omega); (case h7z14 => omega); (case h8z14 => decide); (case h9z14 => decide); (case dz14 => ktr_room); (case uz14 => ktr_units); k_whole)
    rintro r m6 h6 tk6 F6 N6 hp28g
    refine goalAside fun Xg kg => ?_
    obtain ⟨o6, new6, rfl, hf6, rfl, v3, tv3, tk3', c6, rfl, hv30, hv31, rfl⟩ := hp28g
    refine kg ?_
    clear kg Xg
    dsimp only [List.nil_append] at N6
    k_steps
    · rename_i a9 t9 D9 h9a l9 h9b F9 N9 _
      refine goalAside fun Xg kg => ?_
      obtain ⟨l91, l92, l93, l94⟩ := l9
      refine kg ?_
      clear kg Xg
      have l95 := allLt_ne l94
      have hDr : ∀ p ∈ rest, p.1 ≠ D9 := fun p hp => l95 p (List.mem_append_right _ (.tail _ hp))
      have hDn : ∀ p ∈ new, p.1 ≠ D9 := fun p hp => l95 p (List.mem_append_left _ hp)
      have hDb : bx ≠ D9 := l95 (bx, _) (List.mem_append_right _ (.head _))
      refine LpEndR.intro F9 (permW N9) (ne_words hI1 hI2 (Nat.ne_of_gt l92) (fun p hp => hnI p (.tail _ (List.mem_append_left _ hp))) (fun p hp => hnI p (.tail _ (List.mem_append_right _ (.tail _ hp))))) ⟨(D9, _) :: new, wvs ++ [.ref D9], _, ws ++ [⟨true, v2 + v3, v2 + v3, true⟩], _, _, _, _, rfl, rfl, (by omega), List.forall_mem_cons.mpr ⟨Ne.symm hDb, hnb⟩, List.forall_mem_cons.mpr ⟨Nat.ne_of_gt l93, hnl⟩, Fresh.cons hDr hfr, (hws.mono fun _ h => .tail _ h).append (.cons ⟨_, _, _, _, rfl, .head _⟩ .nil), by rw [List.length_append, hwl]; rfl, ?_, by (refine ⟨?_, ?_⟩; (focus (repeat' (first | exact (List.forall_mem_nil _) | refine List.forall_mem_cons.mpr ⟨rfl, ?_⟩))); (focus ((repeat (refine fm_out (by rfl) ?_)); first | exact fm_base | exact fun _ _ => rfl)))⟩
      intro x hx
      rcases List.mem_append.mp hx with hx | hx
      · exact hwf x hx
      · obtain rfl := List.mem_singleton.mp hx
        exact ⟨(by dsimp only; omega), (by dsimp only; omega), (by dsimp only; omega), fun _ => ⟨rfl, rfl⟩⟩
    · rename_i a9 t9 D9 h9a l9 h9b F9 N9 _
      refine goalAside fun Xg kg => ?_
      obtain ⟨l91, l92, l93, l94⟩ := l9
      refine kg ?_
      clear kg Xg
      have l95 := allLt_ne l94
      have hDr : ∀ p ∈ rest, p.1 ≠ D9 := fun p hp => l95 p (List.mem_append_right _ (.tail _ hp))
      have hDn : ∀ p ∈ new, p.1 ≠ D9 := fun p hp => l95 p (List.mem_append_left _ hp)
      have hDb : bx ≠ D9 := l95 (bx, _) (List.mem_append_right _ (.head _))
      refine LpEndR.intro F9 (permW N9) (ne_words hI1 hI2 (Nat.ne_of_gt l92) (fun p hp => hnI p (.tail _ (List.mem_append_left _ hp))) (fun p hp => hnI p (.tail _ (List.mem_append_right _ (.tail _ hp))))) ⟨(D9, _) :: new, wvs ++ [.ref D9], _, ws ++ [⟨false, v2, v2 + v3, v1 == 2⟩], _, _, _, _, rfl, rfl, (by omega), List.forall_mem_cons.mpr ⟨Ne.symm hDb, hnb⟩, List.forall_mem_cons.mpr ⟨Nat.ne_of_gt l93, hnl⟩, Fresh.cons hDr hfr, (hws.mono fun _ h => .tail _ h).append (.cons ⟨_, _, _, _, rfl, .head _⟩ .nil), by rw [List.length_append, hwl]; rfl, ?_, by (refine ⟨?_, ?_⟩; (focus (repeat' (first | exact (List.forall_mem_nil _) | refine List.forall_mem_cons.mpr ⟨rfl, ?_⟩))); (focus ((repeat (refine fm_out (by rfl) ?_)); first | exact fm_base | exact fun _ _ => rfl)))⟩
      intro x hx
      rcases List.mem_append.mp hx with hx | hx
      · exact hwf x hx
      · obtain rfl := List.mem_singleton.mp hx
        exact ⟨(by dsimp only; omega), (by dsimp only; omega), (by dsimp only; omega), fun h => nomatch h⟩
  · rintro m₁ news₁ h9 tk9 hp29g F₁ N₁
    refine goalAside fun Xg kg => ?_
    obtain ⟨new, wvs, wn, ws, o', k', tk', c1', rfl, rfl, hk', hnb, hnl, hfr, hws, hwl, hwf, hf⟩ := hp29g
    refine kg ?_
    clear kg Xg
    obtain ⟨u, rfl⟩ := hf.get
    dsimp only [fm] at F₁
    clear F1 N1
    k_steps
    obtain ⟨hl10, hl11⟩ := hl1
    refine hret _ _ _ _ (by k_asm) (by k_asm) ⟨_, (l1, _) :: new, rfl, Fresh.cons (List.forall_mem_cons.mpr ⟨Nat.ne_of_lt hl10, allLt_ne hl11⟩) (fun p hp q hq => ?_), ⟨_, _, _, ?_, ?_, rfl⟩, l1, _, wvs, ws, rfl, .head _, hws.mono (fun _ h => .tail _ h), hwl, hwf⟩
    · rcases List.mem_cons.mp hq with rfl | hq
      · exact hnb p hp
      · exact hfr p hp q hq
    · omega
    · omega
end
-- part FTold
section
example : True := by
  w_top off
  trivial
section
variable {prog : Program} {w : World} {A : Around} {E : Value → Shared → Prop} {s : Shared} {K : Frag} {x C dx L : Addr} {h₀ : Heap} {m : Str → Option Value} {news : Led} {name : Str} {v : Value} {vs : Array Value} {es : List DictEntry} {n : Nat}
theorem exc_own {expr : Bool} {Q : Value → Shared → Prop} {attr : Option Value} (F : Fr h₀ L s.heap m) (X₀ : K.In h₀) (N : News h₀ L s.heap news) (he : (x, ({ cls := .ref C, dict := some dx, data := .fields vs } : Obj)) ∈ news) (hd : (dx, dictOf es n) ∈ news)
    (hb : subIn K (.ref C) (.type "BaseException") = some true) (hga : findIn K (.ref C) "__getattribute__" = some (some (.builtin "BaseException.__getattribute__"))) (hgt : findIn K (.ref C) "__getattr__" = some none) (hh : hasDictIn K C = true)
    (ha : findIn K (.ref C) name = some attr) (hn : noGet K attr = true) (hl : getL name es = some (some v)) (hv : handedIn v = true) (h : Q v { s with toks := s.toks + 1 }) :
    wpAny (model prog w) A (getAttr (.ref x) name expr) Q E s :=
  exc_get (X₀.keeps F.keep) ⟨(N _ he).1, rfl, rfl, (N _ hd).1⟩ hb hga hgt (findObj_own hh ha hn (show lookIn name (dictOf es n) = _ from hl)) hv h
end
local macro_rules | `(tactic| walk_at "getAttr ref") => `(tactic| (k_here; k_dflt (refine' exc_own (by k_asm) (by k_asm) (by k_asm) (by k_mem) (by k_mem) (by k_is) (by k_is) (by k_is) (by k_is) (by k_is) (by k_is) (by k_get) (by k_handed) ?_; k_whole)))
theorem subX {h₀ h : Heap} {L : Addr} {a b c : Addr × Obj} {r : Led} (N : News h₀ L h (a :: b :: c :: r)) : News h₀ L h (a :: r) := fun p hp => N p (by
  simp only [List.mem_cons] at hp ⊢
  rcases hp with q | q <;> simp [q])
theorem PlF.told {news rest a : Led} {d pl pl' : Addr} {o : Obj} (hin : KeepND news rest) (h : PlF (a ++ (d, o) :: rest) pl pl') : PlF news pl pl' := h.imp id fun k q hq hc => k q (List.mem_append_right _ (.tail _ (hin q hq hc))) hc
noncomputable def tell (σ : PSt) (ps : List Pc) (c : Nat) (x : Wd) (pl' : Addr) : PSt :=
  if x.r then ⟨σ.lim, if OpnR σ then "reset_recvd" else σ.st, pl', σ.rd, max σ.hi x.e, some x.e, σ.stop⟩
  else ⟨σ.lim, strSt σ (strPs σ ps c x.b.toNat x.e.toNat) x.e x.f, pl', σ.rd, max σ.hi x.e, finA σ x.e x.f, σ.stop⟩
noncomputable def tellPs (σ : PSt) (ps : List Pc) (c : Nat) (x : Wd) : List Pc := if x.r then (if OpnR σ then [] else ps) else strPs σ ps c x.b.toNat x.e.toNat
noncomputable def ToldIs (w : World) (n0 n : Led) (σ : PSt) (ps : List Pc) (c : Nat) (x : Wd) (o o' : Obj) (r : Value) : Prop := match checkR σ x.e x.f with
  | none => (∃ pl', Ok w n (tell σ ps c x pl') (tellPs σ ps c x) c o' ∧ PlF n0 σ.pl pl') ∧ ∃ t, r = .int (max 0 (x.e - σ.hi)) t
  | some k => o' = o ∧ Tup2 n r k (frameR x)
theorem ToldIs.mono {w : World} {n0 n n' : Led} {σ : PSt} {ps : List Pc} {c : Nat} {x : Wd} {o o' : Obj} {r : Value} (hs : ∀ p ∈ n, p ∈ n') (h : ToldIs w n0 n σ ps c x o o' r) : ToldIs w n0 n' σ ps c x o o' r := by
  unfold ToldIs at h ⊢
  split at h
  · obtain ⟨⟨pl', a, z⟩, b⟩ := h
    exact ⟨⟨pl', a.mono hs, z⟩, b⟩
  · obtain ⟨a, b1, b2, b3, b4, b5, b6⟩ := h
    exact ⟨a, b1, b2, b3, b4, b5, hs _ b6⟩
set_option maxHeartbeats 8000000 in
theorem told_ok {w : World} {news : Led} {g : Obj → Led} {x dx : Addr} {o : Obj} {σ : PSt} {ps : List Pc} {c : Nat} {v : Value} {wd : Wd} (Up : UpdF dx o news g) (hx : (x, instObj 154 dx) ∈ news) (hO : Ok w news σ ps c o) (hv : WdAt news v wd) (hwf : Wf wd) :
    FnS w 184 [.ref x, v] news 60 700 (fun r n => ∃ o' new, n = new ++ g o' ∧ Fresh new news ∧ KeepND news n ∧ ToldIs w news n σ ps c wd o o' r) := by
  refine FnS.updK (P := fun r o' n => ToldIs w news n σ ps c wd o o' r) (fun r o' m m' hs h => h.mono hs) hO.part.dict Up fun rest hoff hin hsub => ?_
  have hx2 := hin _ hx (show Value.ref 154 ≠ .type "dict" by decide)
  have hpc2 := hO.pcs.keep hin
  refine goalAside fun Xg kg => ?_
  obtain ⟨a1, n1, t1, t2, rfl, m1⟩ := hv.keep hin
  refine kg ?_
  clear kg Xg
  have hO1 : Ok w ((dx, o) :: rest) σ ps c o := ⟨hO.part, hpc2.mono (fun _ h => .tail _ h), hO.gap, hO.rd, hO.c8, hO.st⟩
  obtain ⟨t3, t4, t5, t6, t7, t8, t9, t10, u3, u4, u5, u6, fv, rv, sv, rfl, hfv, hsv⟩ := hO.part
  have hwf0 := hwf
  refine goalAside fun Xg kg => ?_
  obtain ⟨wr, wb, we, wf⟩ := wd
  refine kg ?_
  clear kg Xg
  refine goalAside fun Xg kg => ?_
  obtain ⟨hb0, hbe, he8, hre⟩ := hwf
  refine kg ?_
  clear kg Xg
  dsimp only at m1 hb0 hbe he8 hre
  obtain ⟨b, rfl⟩ := Int.eq_ofNat_of_zero_le hb0
  obtain ⟨e, rfl⟩ := Int.eq_ofNat_of_zero_le (Int.le_trans hb0 hbe)
  have hbe' : b ≤ e := Int.ofNat_le.mp hbe
  have he8' : e ≤ 8 := by omega
  cases wr
  · skip
    intro p loose mean mg mb dp un gd cn cs a ccd cl outer A₀ base h₀ L m s Q E B F X N T XB TB KD hk hd hu hret
    refine wpAny_call ?_
    k_dflt (refine' code_defT (binds := [(PySem.Str.ofString "part", .ref x), (PySem.Str.ofString "word", .ref a1)]) ?k1 ?k2 ?k3 ?k4 ?k5 ?kX ?kT ?kE ?kA ?kF ?kK ?k6 ?k7 ?k8 ?k9 ?kB ?_ ?c2 ?c3 ?c4 ?c5; (case kA => exact rfl); (case kF => exact rfl); (case kK => assumption); (case k1 => k_asm); (case k2 => k_asm); (case k3 => k_asm); (case k4 => k_asm); (case k5 => k_asm); (case kX => exact XB); (case kT => exact TB); (case kE => exact KD); (case k6 => k_is); (case k7 => k_is); (case k8 => ktr_room); (case k9 => exact BindsTo.of_eq rfl); (case c5 => decide); (case kB => exact locs rfl); (case c2 => exact rfl); (case c3 => exact rfl); (case c4 => exact rfl); k_whole)
    intro g' L' h' FG' F' N' B' X' T' KD'
    (try dsimp only)
    (try k_fold)
    k_steps
    refine Stop.to ?_
    k_dflt (refine' Fn.use ?Bz15 ?Fz15 ?Xz15 ?Nz15 ?Tz15 ?Kz15 (data_ok ?h1z15 ?h2z15) ?dz15 ?uz15 ?_; (case Bz15 => k_asm); (case Fz15 => k_asm); (case Xz15 => k_asm); (case Nz15 => k_asm); (case Tz15 => k_asm); (case Kz15 => exact rfl); (case h1z15 => exact hbe'); (case h2z15 => exact he8'); (case dz15 => ktr_room); (case uz15 => ktr_units); k_whole)
    rintro r n8 h8 tk8 F8 N8 hp30g
    refine goalAside fun Xg kg => ?_
    obtain ⟨new8, t8, rfl, hf8, rfl⟩ := hp30g
    refine kg ?_
    clear kg Xg
    have hd8 := hf8.ne (.head _)
    k_steps
    refine Stop.to ?_
    k_dflt (refine' FnE.use ?Bz16 ?Fz16 ?Xz16 ?Nz16 ?Tz16 ?Kz16 (on_ok (σ := σ) (ps := ps) (c := c) ?h1z16 ?h2z16 ?h3z16 ?h4z16 ?h5z16) ?dz16 ?uz16 ?_ ?_; (case Bz16 => k_asm); (case Fz16 => k_asm); (case Xz16 => k_asm); (case Nz16 => k_asm); (case Tz16 => k_asm); (case Kz16 => exact rfl); (case h1z16 => k_updF); (case h2z16 => exact List.mem_append_right _ (.tail _ hx2)); (case h3z16 => exact hO1.mono (fun _ h => List.mem_append_right _ h)); (case h4z16 => exact hbe'); (case h5z16 => exact he8'); (case dz16 => ktr_room); (case uz16 => ktr_units); k_whole)
    · rintro r n9 h9 tk9 F9 N9 hp31g
      refine goalAside fun Xg kg => ?_
      obtain ⟨o2, new2, rfl, hf2, hk2, pl', hO2, hpl2, hck, t9, rfl⟩ := hp31g
      refine kg ?_
      clear kg Xg
      k_steps
      refine ⟨g', L', _, _, KtsTurn.refl, F9, N9, fun q' K1 B1 F1 X1 N1 T1 D1 => hret _ _ _ _ _ K1 B1 F1 X1 N1 T1 D1 ⟨o2, new2 ++ new8, (List.append_assoc ..).symm, hf2.appl hf8, ?_⟩⟩
      unfold ToldIs
      dsimp only
      rw [hck]
      exact ⟨⟨pl', hO2, PlF.told hin hpl2⟩, _, rfl⟩
    · intro e9 d9 es9 g9 h9 tk9 F9 R9 U9 ⟨k9, hk9, hI9⟩
      refine goalAside fun Xg kg => ?_
      obtain ⟨v1, v2, v3, v4, v5, tx, rfl⟩ := hI9
      refine kg ?_
      clear kg Xg
      k_dflt (refine catchX R9 F9 B' U9 XB TB KD' KtsTurn.refl (by k_is) (by rfl) ?_)
      intro h7 g7 vs7 tk7 K7 F7 N7 B7 X7 T7 D7
      k_steps
      rename_i D9 h9x F9x N9x l9 h7b v7b F7b N7b
      obtain ⟨l91, l92, l93⟩ := l9
      refine ⟨g7, L', _, _, K7, F7b, subX N7b, fun q' K1 B1 F1 X1 N1 T1 D1 => hret _ _ _ _ _ K1 B1 F1 X1 N1 T1 D1 ⟨_, (D9, _) :: new8, rfl, Fresh.cons (all_right (allLt_ne l93)) hf8, ?_⟩⟩
      unfold ToldIs
      dsimp only
      rw [hk9]
      exact ⟨rfl, _, _, _, _, rfl, .head _⟩
  · obtain ⟨hbe9, rfl⟩ := hre rfl
    obtain rfl := Int.ofNat.inj hbe9
    intro p loose mean mg mb dp un gd cn cs a ccd cl outer A₀ base h₀ L m s Q E B F X N T XB TB KD hk hd hu hret
    refine wpAny_call ?_
    k_dflt (refine' code_defT (binds := [(PySem.Str.ofString "part", .ref x), (PySem.Str.ofString "word", .ref a1)]) ?k1 ?k2 ?k3 ?k4 ?k5 ?kX ?kT ?kE ?kA ?kF ?kK ?k6 ?k7 ?k8 ?k9 ?kB ?_ ?c2 ?c3 ?c4 ?c5; (case kA => exact rfl); (case kF => exact rfl); (case kK => assumption); (case k1 => k_asm); (case k2 => k_asm); (case k3 => k_asm); (case k4 => k_asm); (case k5 => k_asm); (case kX => exact XB); (case kT => exact TB); (case kE => exact KD); (case k6 => k_is); (case k7 => k_is); (case k8 => ktr_room); (case k9 => exact BindsTo.of_eq rfl); (case c5 => decide); (case kB => exact locs rfl); (case c2 => exact rfl); (case c3 => exact rfl); (case c4 => exact rfl); k_whole)
    intro g' L' h' FG' F' N' B' X' T' KD'
    (try dsimp only)
    (try k_fold)
    k_steps
    refine Stop.to ?_
    k_dflt (refine' FnE.use ?Bz17 ?Fz17 ?Xz17 ?Nz17 ?Tz17 ?Kz17 (rst_ok (σ := σ) (ps := ps) (c := c) ?h1z17 ?h2z17 ?h3z17) ?dz17 ?uz17 ?_ ?_; (case Bz17 => k_asm); (case Fz17 => k_asm); (case Xz17 => k_asm); (case Nz17 => k_asm); (case Tz17 => k_asm); (case Kz17 => exact rfl); (case h1z17 => k_updF); (case h2z17 => exact (.tail _ hx2)); (case h3z17 => exact hO1); (case dz17 => ktr_room); (case uz17 => ktr_units); k_whole)
    · rintro r n9 h9 tk9 F9 N9 hp32g
      refine goalAside fun Xg kg => ?_
      obtain ⟨o2, new2, rfl, hf2, hk2, pl', hO2, hpl2, hck, t9, rfl⟩ := hp32g
      refine kg ?_
      clear kg Xg
      k_steps
      refine ⟨g', L', _, _, KtsTurn.refl, F9, N9, fun q' K1 B1 F1 X1 N1 T1 D1 => hret _ _ _ _ _ K1 B1 F1 X1 N1 T1 D1 ⟨o2, new2, rfl, hf2, ?_⟩⟩
      unfold ToldIs
      dsimp only
      rw [hck]
      exact ⟨⟨pl', hO2, PlF.told (a := []) hin hpl2⟩, _, rfl⟩
    · intro e9 d9 es9 g9 h9 tk9 F9 R9 U9 ⟨k9, hk9, hI9⟩
      refine goalAside fun Xg kg => ?_
      obtain ⟨v1, v2, v3, v4, v5, tx, rfl⟩ := hI9
      refine kg ?_
      clear kg Xg
      k_dflt (refine catchX R9 F9 B' U9 XB TB KD' KtsTurn.refl (by k_is) (by rfl) ?_)
      intro h7 g7 vs7 tk7 K7 F7 N7 B7 X7 T7 D7
      k_steps
      rename_i D9 h9x F9x N9x l9 h7b v7b F7b N7b
      obtain ⟨l91, l92, l93⟩ := l9
      refine ⟨g7, L', _, _, K7, F7b, subX N7b, fun q' K1 B1 F1 X1 N1 T1 D1 => hret _ _ _ _ _ K1 B1 F1 X1 N1 T1 D1 ⟨_, [(D9, _)], rfl, Fresh.cons (allLt_ne l93) Fresh.nil, ?_⟩⟩
      unfold ToldIs
      dsimp only
      rw [hk9]
      exact ⟨rfl, _, _, _, _, rfl, .head _⟩
end
-- part FStands
section
example : True := by
  w_top off
  trivial
local macro_rules | `(tactic| walk_at "CompSrcT") => `(tactic| (k_here; refine Stop.mk ?_))
local macro_rules | `(tactic| k_all) => `(tactic| exact lt_succ_ne (by assumption))
local macro_rules | `(tactic| walk_at "compareOp NotIn int ref") => `(tactic| (k_here; k_dflt (refine notin_list_ints (News.isList (by k_asm) (by k_mem)) (by assumption) ?_)))
local macro_rules | `(tactic| walk_at "compareOp In int ref") => `(tactic| (k_here; k_dflt (refine in_list_ints (News.isList (by k_asm) (by k_mem)) (by assumption) ?_)))
theorem permS {h₀ h : Heap} {L : Addr} {a b c : Addr × Obj} {r : Led} (N : News h₀ L h (a :: b :: c :: r)) : News h₀ L h (c :: ([b] ++ r)) := fun p hp => N p (by
  simp only [List.mem_cons, List.mem_append, List.not_mem_nil, or_false] at hp ⊢
  rcases hp with q | q | q <;> simp [q])
theorem permT {h₀ h : Heap} {L : Addr} {a b c d : Addr × Obj} {r : Led} (N : News h₀ L h (a :: b :: c :: d :: r)) : News h₀ L h (c :: d :: a :: b :: r) := fun p hp => N p (by
  simp only [List.mem_cons] at hp ⊢
  rcases hp with q | q | q | q | q <;> simp [q])
theorem permT5 {h₀ h : Heap} {L : Addr} {a b c d x : Addr × Obj} {r : Led} (N : News h₀ L h (x :: a :: b :: c :: d :: r)) : News h₀ L h (c :: d :: a :: b :: r) := permT (fun p hp => N p (.tail _ hp))
-- what _law_stands tells of the words taken
structure SL where
  places : List Int
  size : Option Int
  state : String
noncomputable def rgL (b e : Int) : List Int := (List.range (e - b).toNat).map (fun (i : Nat) => b + (i : Int))
theorem rgL_take {b e : Int} {i : Nat} (h : i < (e - b).toNat) : (rgL b e).take (i + 1) = (rgL b e).take i ++ [b + (i : Int)] := by
  rw [List.take_add_one]
  congr 1
  unfold rgL
  rw [List.getElem?_map, List.getElem?_range h]
  rfl
theorem rgL_len {b e : Int} : (rgL b e).length = (e - b).toNat := by simp [rgL]
theorem range_size {b e : Int} : Builtin.Range.rangeSize b e 1 = (((e - b).toNat : Nat) : Int) := by
  rw [rangeSize_one]
  split <;> omega
noncomputable def slPl (s : SL) (x : Wd) : List Int := s.places ++ (rgL x.b x.e).filter (fun a => !s.places.any (· == a))
noncomputable def slSz (s : SL) (x : Wd) : Option Int := if x.f then some x.e else s.size
noncomputable def slFull (pl : List Int) : Option Int → Bool
  | none => false
  | some z => decide ((((rgL 0 z).filter (fun a => pl.any (· == a))).length : Int) = z)
noncomputable def slStep (s : SL) (x : Wd) : SL := if s.state = "open" then (if x.r then ⟨s.places, slSz s x, "reset"⟩ else ⟨slPl s x, slSz s x, if slFull (slPl s x) (slSz s x) then "all" else "open"⟩) else ⟨s.places, slSz s x, s.state⟩
noncomputable def slOf (ws : List Wd) : SL := ws.foldl slStep ⟨[], none, "open"⟩
set_option maxHeartbeats 8000000 in
theorem stands_ok {w : World} {news : Led} {tl : Addr} {tvs : List Value} {tn : Nat} {ws : List Wd} (hm : (tl, listOf tvs.toArray tn) ∈ news) (hw : WdsAt news tvs ws) (hn : ws.length ≤ 40) (hwf : ∀ x ∈ ws, Wf x) :
    Fn w 218 [.ref tl] news 20 200 (fun r n => ∃ new, n = new ++ news ∧ Fresh new news ∧ ∃ a k pl pk pv u, r = .ref a ∧ (a, tupN #[.str (Str.ofString (slOf ws).state) u, .ref pl] k) ∈ n ∧ (pl, listOf pv.toArray pk) ∈ n ∧ IntsAre pv (slOf ws).places ∧ pl ≠ a) := by
  have hl := hw.length
  intro p loose mean mg mb dp un gd cn cs a ccd cl outer A₀ base h₀ L m s Q E B F X N T hk hd hu hret
  refine wpAny_call ?_
  k_dflt (refine' code_defC (binds := [(PySem.Str.ofString "taken", .ref tl)]) ?k1 ?k2 ?k3 ?k4 ?k5 ?kA ?kF ?kK ?k6 ?k7 ?k8 ?k9 ?kB ?kD ?_ ?c2 ?c3 ?c4; (case kA => exact rfl); (case kF => exact rfl); (case kK => assumption); (case k1 => k_asm); (case k2 => k_asm); (case k3 => k_asm); (case k4 => k_asm); (case k5 => k_asm); (case k6 => k_is); (case k7 => k_is); (case k8 => ktr_room); (case k9 => exact BindsTo.of_eq rfl); (case kB => exact rfl); (case kD => decide +kernel); (case c2 => exact rfl); (case c3 => exact rfl); (case c4 => exact rfl); k_whole)
  intro g' L' h' tk' cells' FG' F' N' Y' B' X' T' l1
  (try k_lt l1)
  k_cells Y'
  (try simp only [List.cons_append, List.nil_append] at N')
  (try dsimp only)
  (try k_fold)
  (refine hide ?_; intro _ _ _ _)
  k_steps
  rename_i o0 d0 _ _ _ _ l0 h0 hl0 D0 h1 hD0 h2 h3 o1 d1 h4 h5 F1 N1 _
  obtain ⟨bs, u0, hF1⟩ : ∃ (bs : Str → Option Value) (u0 : Tok), Fr g' L' h5 (fun y => if y = Str.ofString "state" then some (.str (Str.ofString "open") u0) else if y = Str.ofString "size" then some .none else bs y) := ⟨_, _, F1⟩
  refine for_list (l := tl) (vs := tvs) (nn := tn) (J := fun i m nx => ∃ new pv pk pl oc sv u, nx = (L' + 1, oc) :: (new ++ news) ∧ oc.data = .cell (some (.ref pl)) ∧ (pl, listOf pv.toArray pk) ∈ new ∧ IntsAre pv (slOf (ws.take i)).places ∧ (slOf (ws.take i)).places.length ≤ 8 * i ∧ (∀ p ∈ new, p.1 ≠ L' + 1) ∧ Fresh new news ∧ ((slOf (ws.take i)).state = "open" ∨ (slOf (ws.take i)).state = "reset" ∨ (slOf (ws.take i)).state = "all") ∧ (∀ z, (slOf (ws.take i)).size = some z → 0 ≤ z ∧ z ≤ 8) ∧ OptInt sv (slOf (ws.take i)).size ∧ 
    FmIs m [(Str.ofString "size", sv), (Str.ofString "state", .str (Str.ofString (slOf (ws.take i)).state) u)] [Str.ofString "size", Str.ofString "state", Str.ofString "one"] bs) rfl ?_ (by intro _; rfl) hF1 (permS N1) (.tail _ (.tail _ hm)) ?_ ?_ ?_
  · clear hF1
    intro Q' hq
    k_steps
    exact hq
  · refine ⟨[_], [], _, l0, o1, .none, u0, rfl, d1, .head _, .nil, Nat.zero_le _, ?_, ?_, .inl rfl, (fun z h => nomatch h), rfl, ⟨?_, ?_⟩⟩
    · refine List.forall_mem_cons.mpr ⟨Nat.ne_of_gt hl0.1, fun _ h => nomatch h⟩
    · exact Fresh.cons (allLt_ne hl0.2) Fresh.nil
    · exact List.forall_mem_cons.mpr ⟨rfl, List.forall_mem_cons.mpr ⟨rfl, fun _ h => nomatch h⟩⟩
    · intro y hy
      dsimp only
      rw [if_neg (fun q => by rw [q] at hy; exact absurd hy (by decide)), if_neg (fun q => by rw [q] at hy; exact absurd hy (by decide))]
  · rintro i v m₁ news₁ I oI h9 tk9 hv hp33g hl₁ hne F₁ N₁
    refine goalAside fun Xg kg => ?_
    obtain ⟨new, pv, pk, pl, oc, sv, ux, rfl, hoc, hpl, hpv, hple, hnc, hfr, hst, hzz, hsv, hf⟩ := hp33g
    refine kg ?_
    clear kg Xg
    obtain ⟨u, rfl⟩ := hf.get
    refine goalAside fun Xg kg => ?_
    obtain ⟨wd, hpi, a1, n1, t3, t4, rfl, hmem⟩ := hw.get hv
    refine kg ?_
    clear kg Xg
    have hwd := hwf _ (List.mem_of_getElem? hpi)
    have hstep : slOf (ws.take (i + 1)) = slStep (slOf (ws.take i)) wd := by
      unfold slOf
      rw [List.take_add_one, hpi, List.foldl_append]
      rfl
    rw [hstep]
    generalize slOf (ws.take i) = st at *
    obtain ⟨places, size, state⟩ := st
    dsimp only [fm] at F₁ hpv hple hsv hzz
    have hcI : @Ne Nat (L' + 1) I := hne (L' + 1, _) (.head _)
    clear N1 hF1 F1
    have hHI : HaltIf := trivial
    k_steps
    refine Stop.to ?_
    (rename Fr g' L' _ _ => F2)
    refine join_if (h₀ := g') (L := L') (fun m' n => n = (I, oI) :: (L' + 1, oc) :: (new ++ news) ∧ ∃ sv', OptInt sv' (slSz ⟨places, size, state⟩ wd) ∧ FmIs m' [(Str.ofString "size", sv'), (Str.ofString "state", .str (Str.ofString state) ux), (Str.ofString "one", .ref a1)] [Str.ofString "size", Str.ofString "state", Str.ofString "one"] bs) ?_ ?_
    · clear hHI
      rcases hxf : wd.f with _ | _
      all_goals
        rw [hxf] at hmem
        (refine hide ?_; intro _ _ _ _)
        k_steps
        refine JnEnd.intro (by k_asm) (by k_asm) ⟨rfl, _, ?_, by (refine ⟨?_, ?_⟩; (focus (repeat' (first | exact (List.forall_mem_nil _) | refine List.forall_mem_cons.mpr ⟨rfl, ?_⟩))); (focus ((repeat (refine fm_out (by rfl) ?_)); first | exact fm_base | exact fun _ _ => rfl)))⟩
        unfold slSz
        rw [hxf]
      · exact hsv
      · exact ⟨_, rfl⟩
    · rintro h8 tk8 m8 n8 F8 N8 hp34g
      refine goalAside fun Xg kg => ?_
      obtain ⟨rfl, sv8, hsv8, hf8⟩ := hp34g
      refine kg ?_
      clear kg Xg
      obtain ⟨u8, rfl⟩ := hf8.get
      dsimp only [fm] at F8
      clear F2 hHI
      have hzz8 : ∀ z, slSz ⟨places, size, state⟩ wd = some z → 0 ≤ z ∧ z ≤ 8 := fun z hz => by
        unfold slSz at hz
        split at hz
        · obtain rfl := Option.some.inj hz
          exact ⟨Int.le_trans hwd.b0 hwd.be, hwd.e8⟩
        · exact hzz z hz
      generalize hsz8 : slSz ⟨places, size, state⟩ wd = size8 at hsv8 hzz8
      rcases hst with hst | hst | hst
      · dsimp only at hst
        subst hst
        rcases hxr : wd.r with _ | _
        · rw [hxr] at hmem
          have e9 : slStep ⟨places, size, "open"⟩ wd = ⟨slPl ⟨places, size, "open"⟩ wd, size8, if slFull (slPl ⟨places, size, "open"⟩ wd) size8 then "all" else "open"⟩ := by simp [slStep, hsz8, hxr]
          rw [e9]
          clear e9
          generalize hplE : slPl ⟨places, size, "open"⟩ wd = pl9
          (refine hide ?_; intro _ _ _ _)
          k_steps
          (refine Stop.to ?_; k_dflt (refine LCt.ListComp_T (F₀ := by k_asm) (by with_unfolding_all rfl) (by decide) (by rfl) (by decide) (by rfl) ?_))
          k_steps
          refine goalAside fun Xg kg => ?_
          obtain ⟨hb0, hbe, he8, _⟩ := hwd
          refine kg ?_
          clear kg Xg
          refine Stop.to ?_
          refine LCt.CompSrcT.range (n := (wd.e - wd.b).toNat) rfl (by k_asm) (by k_asm) (by assumption) (small_one (by omega) (by omega) (by omega) (by omega)) range_size (Nat.le_trans (by omega : (wd.e - wd.b).toNat ≤ 8) (by decide)) ?_
          intro gg
          refine compT_run (fun i ys nx => nx = (I, oI) :: (L' + 1, oc) :: (new ++ news) ∧ IntsAre ys (((rgL wd.b wd.e).take i).filter (fun a => !places.any (· == a)))) (wd.e - wd.b).toNat ?_ ?_ _ _ _ _ (Nat.zero_add _) ⟨rfl, .nil⟩
          · rintro i7 ys nx v I7 oI7 C oC D9 m₂ h7 tk7 E' hi ⟨rfl, hI⟩ ⟨t7, rfl⟩ hC hx F7 N7 off ne
            have htk := rgL_take hi
            k_steps
            · (rename List.any _ _ = true => hc9)
              refine compEnd_same (by k_asm) (by k_asm) off trivial ⟨rfl, ?_⟩
              rw [htk, List.filter_append, List.filter_cons_of_neg (by rw [hc9]; decide)]
              simpa using hI
            · (rename List.any _ _ = false => hc9)
              refine compEnd_same (by k_asm) (by k_asm) off trivial ⟨rfl, ?_⟩
              rw [htk, List.filter_append, List.filter_cons_of_pos (by rw [hc9]; decide)]
              exact hI.append (.cons _ _ .nil)
          · rintro ys nx ⟨rfl, hI⟩
            rw [List.take_of_length_le (Nat.le_of_eq rgL_len)] at hI
            have hyl : ys.length ≤ 8 := by
              rw [hI.length]
              refine Nat.le_trans (List.length_filter_le ..) ?_
              rw [rgL_len]
              omega
            have hpl2 := hpv.length
            have hi40 : i < 40 := by
              have := (List.getElem?_eq_some_iff.mp hv).1
              omega
            have hpl9 : IntsAre (pv ++ ys) (slPl ⟨places, size, "open"⟩ wd) := hpv.append hI
            have hpll : (slPl ⟨places, size, "open"⟩ wd).length ≤ 8 * (i + 1) := by
              rw [← hpl9.length, List.length_append]
              omega
            rw [hplE] at hpl9 hpll
            rcases size8 with _ | z
            · obtain rfl : sv8 = .none := hsv8
              k_steps
              rename_i Dc hc tkc oc1 Dp hp lp hp2 op Fp Np dPl
              obtain ⟨oc11, oc12, oc13⟩ := oc1
              refine goalAside fun Xg kg => ?_
              obtain ⟨lp1, lp2, lp3, lp4⟩ := lp
              refine kg ?_
              clear kg Xg
              have hneI : ∀ p ∈ (L' + 1, op) :: ((Dp, listOf (pv ++ ys).toArray 0) :: (Dc, LCg.lst ys) :: new ++ news), p.1 ≠ I := by
                refine List.forall_mem_cons.mpr ⟨hcI, List.forall_mem_cons.mpr ⟨Nat.ne_of_gt lp2, List.forall_mem_cons.mpr ⟨Ne.symm oc11, fun p hp => hne p (.tail _ hp)⟩⟩⟩
              have hncI : ∀ p ∈ (Dp, listOf (pv ++ ys).toArray 0) :: (Dc, LCg.lst ys) :: new, p.1 ≠ L' + 1 := List.forall_mem_cons.mpr ⟨Nat.ne_of_gt lp3, List.forall_mem_cons.mpr ⟨Ne.symm oc12, hnc⟩⟩
              have hfrI : Fresh ((Dp, listOf (pv ++ ys).toArray 0) :: (Dc, LCg.lst ys) :: new) news := Fresh.cons (all_right (allLt_ne lp4)) (Fresh.cons (all_right (off1_ne oc13)) hfr)
              have e8 : (if slFull pl9 none = true then "all" else "open") = "open" := rfl
              rw [e8]
              exact LpEnd.intro Fp (permT Np) hneI (.tail _ (.tail _ (.tail _ (List.mem_append_right _ hm)))) ⟨(Dp, _) :: (Dc, _) :: new, pv ++ ys, _, Dp, op, _, _, rfl, dPl, .head _, hpl9, hpll, hncI, hfrI, .inl rfl, hzz8, rfl, by (refine ⟨?_, ?_⟩; (focus (repeat' (first | exact (List.forall_mem_nil _) | refine List.forall_mem_cons.mpr ⟨rfl, ?_⟩))); (focus ((repeat (refine fm_out (by rfl) ?_)); first | exact fm_base | exact fun _ _ => rfl)))⟩
            · obtain ⟨uz, rfl⟩ := hsv8
              have hz8 := hzz8 z rfl
              k_steps
              rename_i Dc hc tkc oc1 Dp hp lp hp2 op Fp Np dPl
              obtain ⟨oc11, oc12, oc13⟩ := oc1
              refine goalAside fun Xg kg => ?_
              obtain ⟨lp1, lp2, lp3, lp4⟩ := lp
              refine kg ?_
              clear kg Xg
              have hneI : ∀ p ∈ (L' + 1, op) :: ((Dp, listOf (pv ++ ys).toArray 0) :: (Dc, LCg.lst ys) :: new ++ news), p.1 ≠ I := by
                refine List.forall_mem_cons.mpr ⟨hcI, List.forall_mem_cons.mpr ⟨Nat.ne_of_gt lp2, List.forall_mem_cons.mpr ⟨Ne.symm oc11, fun p hp => hne p (.tail _ hp)⟩⟩⟩
              have hncI : ∀ p ∈ (Dp, listOf (pv ++ ys).toArray 0) :: (Dc, LCg.lst ys) :: new, p.1 ≠ L' + 1 := List.forall_mem_cons.mpr ⟨Nat.ne_of_gt lp3, List.forall_mem_cons.mpr ⟨Ne.symm oc12, hnc⟩⟩
              have hfrI : Fresh ((Dp, listOf (pv ++ ys).toArray 0) :: (Dc, LCg.lst ys) :: new) news := Fresh.cons (all_right (allLt_ne lp4)) (Fresh.cons (all_right (off1_ne oc13)) hfr)
              (refine Stop.to ?_; k_dflt (refine LCt.ListComp_T (F₀ := by k_asm) (by with_unfolding_all rfl) (by decide) (by rfl) (by decide) (by rfl) ?_))
              k_steps
              refine Stop.to ?_
              refine LCt.CompSrcT.range (n := (z - 0).toNat) rfl (by k_asm) (by k_asm) (by assumption) (small_one (by omega) (by omega) (by omega) (by omega)) range_size (Nat.le_trans (by omega : (z - 0).toNat ≤ 8) (by decide)) ?_
              intro gg2
              refine compT_run (fun i ys2 nx => nx = (Dp, listOf (pv ++ ys).toArray 0) :: (Dc, LCg.lst ys) :: (I, oI) :: (L' + 1, op) :: (new ++ news) ∧ IntsAre ys2 (((rgL 0 z).take i).filter (fun a => pl9.any (· == a)))) (z - 0).toNat ?_ ?_ _ _ _ _ (Nat.zero_add _) ⟨rfl, .nil⟩
              · rintro i7 ys2 nx v I7 oI7 C oC D9 m₂ h7 tk7 E' hi ⟨rfl, hI2⟩ ⟨t7, rfl⟩ hC hx F7 N7 off ne
                have htk := rgL_take hi
                k_steps
                · (rename List.any _ _ = true => hc9)
                  refine compEnd_same (by k_asm) (by k_asm) off trivial ⟨rfl, ?_⟩
                  rw [htk, List.filter_append, List.filter_cons_of_pos (by rw [hc9])]
                  exact hI2.append (.cons _ _ .nil)
                · (rename List.any _ _ = false => hc9)
                  refine compEnd_same (by k_asm) (by k_asm) off trivial ⟨rfl, ?_⟩
                  rw [htk, List.filter_append, List.filter_cons_of_neg (by rw [hc9]; decide)]
                  simpa using hI2
              · rintro ys2 nx ⟨rfl, hI2⟩
                rw [List.take_of_length_le (Nat.le_of_eq rgL_len)] at hI2
                have hl2 := hI2.length
                have hyl2 : ys2.length ≤ 8 := by
                  rw [hl2]
                  refine Nat.le_trans (List.length_filter_le ..) ?_
                  rw [rgL_len]
                  omega
                k_steps
                · (rename (ys2.length : Int) = z => hq)
                  have e8 : (if slFull pl9 (some z) = true then "all" else "open") = "all" := by
                    rw [if_pos]
                    simp only [slFull]
                    rw [← hl2, hq]
                    exact decide_eq_true rfl
                  rw [e8]
                  exact LpEnd.intro (by k_asm) (permT5 (by k_asm)) hneI (.tail _ (.tail _ (.tail _ (List.mem_append_right _ hm)))) ⟨(Dp, _) :: (Dc, _) :: new, pv ++ ys, _, Dp, op, _, _, rfl, dPl, .head _, hpl9, hpll, hncI, hfrI, .inr (.inr rfl), hzz8, ⟨_, rfl⟩, by (refine ⟨?_, ?_⟩; (focus (repeat' (first | exact (List.forall_mem_nil _) | refine List.forall_mem_cons.mpr ⟨rfl, ?_⟩))); (focus ((repeat (refine fm_out (by rfl) ?_)); first | exact fm_base | exact fun _ _ => rfl)))⟩
                · (rename (ys2.length : Int) ≠ z => hq)
                  have e8 : (if slFull pl9 (some z) = true then "all" else "open") = "open" := by
                    rw [if_neg]
                    simp only [slFull]
                    rw [← hl2]
                    simpa using hq
                  rw [e8]
                  exact LpEnd.intro (by k_asm) (permT5 (by k_asm)) hneI (.tail _ (.tail _ (.tail _ (List.mem_append_right _ hm)))) ⟨(Dp, _) :: (Dc, _) :: new, pv ++ ys, _, Dp, op, _, _, rfl, dPl, .head _, hpl9, hpll, hncI, hfrI, .inl rfl, hzz8, ⟨_, rfl⟩, by (refine ⟨?_, ?_⟩; (focus (repeat' (first | exact (List.forall_mem_nil _) | refine List.forall_mem_cons.mpr ⟨rfl, ?_⟩))); (focus ((repeat (refine fm_out (by rfl) ?_)); first | exact fm_base | exact fun _ _ => rfl)))⟩
        · rw [hxr] at hmem
          have e9 : slStep ⟨places, size, "open"⟩ wd = ⟨places, size8, "reset"⟩ := by simp [slStep, hsz8, hxr]
          rw [e9]
          (refine hide ?_; intro _ _ _ _)
          k_steps
          exact LpEnd.intro (by k_asm) (by k_asm) hne hl₁ ⟨new, pv, pk, pl, oc, sv8, _, rfl, hoc, hpl, hpv, Nat.le_trans hple (by omega), hnc, hfr, .inr (.inl rfl), hzz8, hsv8, by (refine ⟨?_, ?_⟩; (focus (repeat' (first | exact (List.forall_mem_nil _) | refine List.forall_mem_cons.mpr ⟨rfl, ?_⟩))); (focus ((repeat (refine fm_out (by rfl) ?_)); first | exact fm_base | exact fun _ _ => rfl)))⟩
      · dsimp only at hst
        subst hst
        have e9 : slStep ⟨places, size, "reset"⟩ wd = ⟨places, size8, "reset"⟩ := by simp [slStep, hsz8]
        rw [e9]
        (refine hide ?_; intro _ _ _ _)
        k_steps
        exact LpEnd.intro (by k_asm) (by k_asm) hne hl₁ ⟨new, pv, pk, pl, oc, sv8, _, rfl, hoc, hpl, hpv, Nat.le_trans hple (by omega), hnc, hfr, .inr (.inl rfl), hzz8, hsv8, by (refine ⟨?_, ?_⟩; (focus (repeat' (first | exact (List.forall_mem_nil _) | refine List.forall_mem_cons.mpr ⟨rfl, ?_⟩))); (focus ((repeat (refine fm_out (by rfl) ?_)); first | exact fm_base | exact fun _ _ => rfl)))⟩
      · dsimp only at hst
        subst hst
        have e9 : slStep ⟨places, size, "all"⟩ wd = ⟨places, size8, "all"⟩ := by simp [slStep, hsz8]
        rw [e9]
        (refine hide ?_; intro _ _ _ _)
        k_steps
        exact LpEnd.intro (by k_asm) (by k_asm) hne hl₁ ⟨new, pv, pk, pl, oc, sv8, _, rfl, hoc, hpl, hpv, Nat.le_trans hple (by omega), hnc, hfr, .inr (.inr rfl), hzz8, hsv8, by (refine ⟨?_, ?_⟩; (focus (repeat' (first | exact (List.forall_mem_nil _) | refine List.forall_mem_cons.mpr ⟨rfl, ?_⟩))); (focus ((repeat (refine fm_out (by rfl) ?_)); first | exact fm_base | exact fun _ _ => rfl)))⟩
  · rintro m₁ news₁ h9 tk9 hp35g F₁ N₁
    refine goalAside fun Xg kg => ?_
    obtain ⟨new, pv, pk, pl, oc, sv, ux, rfl, hoc, hpl, hpv, hple, hnc, hfr, hst, hzz, hsv, hf⟩ := hp35g
    refine kg ?_
    clear kg Xg
    obtain ⟨u, rfl⟩ := hf.get
    rw [hl, List.take_length] at *
    dsimp only [fm] at F₁
    clear N1 hF1 F1
    k_steps
    rename_i D9 h9b F9 N9 l9 _ _ _ _
    refine hret _ _ _ _ (by k_asm) (by k_asm) ⟨(D9, _) :: (L' + 1, oc) :: new, rfl, ?_, D9, _, pl, pk, pv, ux, rfl, .head _, .tail _ (.tail _ (List.mem_append_left _ hpl)), hpv, ?_⟩
    · exact Fresh.cons (all_right (allLt_ne l9.2)) (Fresh.cons (lt_succ_ne (by assumption)) hfr)
    · exact allLt_ne l9.2 _ (List.mem_append_left _ hpl)
end
-- part FIsRd
section
example : True := by
  w_top off
  trivial
local macro_rules | `(tactic| walk_at "compareOp Eq ref ref") => `(tactic| (k_here; refine Stop.mk ?_))
local macro_rules | `(tactic| walk_at "exec While") => `(tactic| (k_here; refine Stop.mk ?_))
local macro_rules | `(tactic| walk_at "compareOp In int ref") => `(tactic| (k_here; k_dflt (refine in_list_ints (News.isList (by k_asm) (by k_mem)) (by assumption) ?_)))
local macro_rules | `(tactic| k_all) => `(tactic| exact lt_succ_ne (by assumption))
theorem eqAt_bytes {A : Around} {s : Shared} (b : Array UInt8) (t u : Tok) : SeqAt.EqAt A s (.bytes b t) (.bytes b u) true := fun prog w E Q h => by
  unfold eqBool
  refine wpAny_holding ?_
  refine wpAny_ite_split (fun _ => wpAny_bind (wpAny_rule (wpAny_pure h))) (fun _ => ?_)
  refine wpAny_bind (eq_bytes (wpAny_truthy_bool ?_))
  rw [beq_self_eq_true]
  exact h
section
variable {prog : Program} {w : World} {A : Around} {E : Value → Shared → Prop} {s : Shared} {h₀ : Heap} {L a b : Addr} {news : Led} {n m : Nat} {Q : Value → Shared → Prop}
theorem eq_bb {x : Array UInt8} {f : Bool} {t u : Tok} (N : News h₀ L s.heap news) (ha : (a, tupN #[.bytes x t, .bool f] n) ∈ news) (hb : (b, tupN #[.bytes x u, .bool f] m) ∈ news) (hu : A.units < cLine) (h : Q (.bool true) s) :
    wpAny (model prog w) A (compareOp .Eq (.ref a) (.ref b)) Q E s := by
  refine SeqAt.eq_tupleAt (e := fun _ => true) ⟨_, (N _ ha).1, rfl, _, rfl⟩ ⟨_, (N _ hb).1, rfl, _, rfl⟩ hu (fun j h1 h2 => ?_) (by exact h)
  match j, h1 with
  | 0, _ => exact eqAt_bytes x t u
  | 1, _ => exact SeqAt.EqAt.same _
  | k + 2, h => exact absurd h (by simp)
end
theorem assoc3 {a c b r : Led} {x : Addr × Obj} : (a ++ (x :: (b ++ c))) ++ r = a ++ (x :: (b ++ (c ++ r))) := by simp
theorem fresh3 {a b c r : Led} {D d : Addr} {oD o o' : Obj} (ha : Fresh a ((D, oD) :: (b ++ (c ++ (d, o') :: r)))) (hD : ∀ p ∈ b ++ (c ++ (d, o') :: r), p.1 < D) (hb : Fresh b (c ++ (d, o) :: r)) (hc : Fresh c ((d, o) :: r)) :
    Fresh (a ++ ((D, oD) :: (b ++ c))) ((d, o') :: r) := by
  refine Fresh.appl (b := (D, oD) :: (b ++ c)) (by simpa using ha) (Fresh.cons (fun p hp => Nat.ne_of_lt (hD p (List.mem_append_right _ (List.mem_append_right _ hp)))) (hb.appl hc).obj)
theorem assoc4 {a b c e r : Led} {x : Addr × Obj} : (a ++ (x :: (b ++ (c ++ e)))) ++ r = a ++ (x :: (b ++ (c ++ (e ++ r)))) := by simp
theorem fresh4 {a b c e r : Led} {D d : Addr} {oD o o' : Obj} (ha : Fresh a ((D, oD) :: (b ++ (c ++ (e ++ (d, o') :: r))))) (hD : ∀ p ∈ b ++ (c ++ (e ++ (d, o') :: r)), p.1 < D) (hb : Fresh b (c ++ (e ++ (d, o') :: r))) (hc : Fresh c (e ++ (d, o) :: r)) (he : Fresh e ((d, o) :: r)) :
    Fresh (a ++ ((D, oD) :: (b ++ (c ++ e)))) ((d, o') :: r) := by
  refine Fresh.appl (b := (D, oD) :: (b ++ (c ++ e))) (by simpa using ha) (Fresh.cons (fun p hp => Nat.ne_of_lt (hD p (List.mem_append_right _ (List.mem_append_right _ (List.mem_append_right _ hp))))) (Fresh.appl (b := c ++ e) (by simpa using hb) (hc.appl he).obj))
local macro_rules | `(tactic| walk_at "compareOp Eq str str") => `(tactic| (k_here; refine eq_strB (by assumption) ?_))
-- what a part must be for the last reading
noncomputable def ReadH (σ : PSt) (ps : List Pc) (s : SL) : Prop := σ.stop = none ∧ ((s.state = "reset" ∧ σ.st = "reset_recvd") ∨
  ∃ low : Nat, low ≤ 8 ∧ (∀ i : Nat, i < low → s.places.any (· == (i : Int)) = true) ∧ s.places.any (· == (low : Int)) = false ∧ rdF ps 0 20 = low ∧
    ((s.state = "open" ∧ (σ.st = "recv" ∨ σ.st = "size_known")) ∨ (s.state = "all" ∧ σ.st = "data_recvd" ∧ σ.fin = some (low : Int))))
set_option maxHeartbeats 8000000 in
theorem isread_ok {w : World} {news : Led} {g : Obj → Led} {x dx : Addr} {o : Obj} {σ : PSt} {ps : List Pc} {tl : Addr} {tvs : List Value} {tn : Nat} {ws : List Wd} (Up : UpdF dx o news g) (hx : (x, instObj 154 dx) ∈ news) (hO : Ok w news σ ps 0 o)
    (hm : (tl, listOf tvs.toArray tn) ∈ news) (hw : WdsAt news tvs ws) (hn : ws.length ≤ 40) (hwf : ∀ x ∈ ws, Wf x) (hR : ReadH σ ps (slOf ws)) :
    Fn w 225 [.ref x, .ref tl] news 60 800 (fun r n => ∃ o' new, n = new ++ g o' ∧ Fresh new news ∧ KeepND news n ∧ r = .bool true) := by
  refine Fn.updK (P := fun r o' n => r = .bool true) (fun r o' m m' hs h => h) hO.part.dict Up fun rest hoff hin hsub => ?_
  have hx2 := hin _ hx (show Value.ref 154 ≠ .type "dict" by decide)
  have hm2 := hin _ hm (show Value.type "list" ≠ .type "dict" by decide)
  have hw2 := hw.keep hin
  have hpc2 := hO.pcs.keep hin
  have hO1 : Ok w ((dx, o) :: rest) σ ps 0 o := ⟨hO.part, hpc2.mono (fun _ h => .tail _ h), hO.gap, hO.rd, hO.c8, hO.st⟩
  obtain ⟨t3, t4, t5, t6, t7, t8, t9, t10, u3, u4, u5, u6, fv, rv, sv, rfl, hfv, hsv⟩ := hO.part
  intro p loose mean mg mb dp un gd cn cs a ccd cl outer A₀ base h₀ L m s Q E B F X N T hk hd hu hret
  refine wpAny_call ?_
  k_dflt (refine' code_def (binds := [(PySem.Str.ofString "part", .ref x), (PySem.Str.ofString "taken", .ref tl)]) ?k1 ?k2 ?k3 ?k4 ?k5 ?kA ?kF ?kK ?k6 ?k7 ?k8 ?k9 ?kB ?_ ?c2 ?c3 ?c4 ?c5; (case kA => exact rfl); (case kF => exact rfl); (case kK => assumption); (case k1 => k_asm); (case k2 => k_asm); (case k3 => k_asm); (case k4 => k_asm); (case k5 => k_asm); (case k6 => k_is); (case k7 => k_is); (case k8 => ktr_room); (case k9 => exact BindsTo.of_eq rfl); (case c5 => decide); (case kB => exact locs rfl); (case c2 => exact rfl); (case c3 => exact rfl); (case c4 => exact rfl); k_whole)
  intro g' L' h' FG' F' N' B' X' T'
  (try dsimp only)
  (try k_fold)
  k_steps
  refine Stop.to ?_
  k_dflt (refine' Fn.use ?Bz18 ?Fz18 ?Xz18 ?Nz18 ?Tz18 ?Kz18 (stands_ok ?h1z18 ?h2z18 ?h3z18 ?h4z18) ?dz18 ?uz18 ?_; (case Bz18 => k_asm); (case Fz18 => k_asm); (case Xz18 => k_asm); (case Nz18 => k_asm); (case Tz18 => k_asm); (case Kz18 => exact rfl); (case h1z18 => exact .tail _ hm2); (case h2z18 => exact hw2.mono (fun _ h => .tail _ h)); (case h3z18 => exact hn); (case h4z18 => exact hwf); (case dz18 => ktr_room); (case uz18 => ktr_units); k_whole)
  rintro r n8 h8 tk8 F8 N8 hp36g
  refine goalAside fun Xg kg => ?_
  obtain ⟨new8, rfl, hf8, a8, k8, pl8, pk8, pv8, u8, rfl, ma8, mp8, hp8, hne8⟩ := hp36g
  refine kg ?_
  clear kg Xg
  have hd8 := hf8.ne (.head _)
  obtain ⟨hstop, hR⟩ := hR
  generalize slOf ws = st at *
  obtain ⟨places, size, state⟩ := st
  dsimp only at *
  rcases hR with ⟨rfl, hst⟩ | ⟨low, hl8, hlin, hlno, hrd, hR⟩
  · k_steps
    refine Stop.to ?_
    k_dflt (refine' Fn.use ?Bz19 ?Fz19 ?Xz19 ?Nz19 ?Tz19 ?Kz19 (read_ok (σ := σ) (ps := ps) (c := 0) (mo := 20) ?h1z19 ?h2z19 ?h3z19) ?dz19 ?uz19 ?_; (case Bz19 => k_asm); (case Fz19 => k_asm); (case Xz19 => k_asm); (case Nz19 => k_asm); (case Tz19 => k_asm); (case Kz19 => exact rfl); (case h1z19 => k_updF); (case h2z19 => exact List.mem_append_right _ (.tail _ hx2)); (case h3z19 => exact hO1.mono (fun _ h => List.mem_append_right _ h)); (case dz19 => ktr_room); (case uz19 => ktr_units); k_whole)
    rintro r n9 h9 tk9 F9 N9 hp37g
    refine goalAside fun Xg kg => ?_
    obtain ⟨o9, new9, rfl, hf9, hk9, pl9, a9, u9, k9, hO9, rfl, ma9, _⟩ := hp37g
    refine kg ?_
    clear kg Xg
    have e1 : rdC σ ps 0 20 = 0 := if_pos (.inl hst)
    have e2 : rdS σ 0 = "reset_read" := if_pos (.inl hst)
    rw [e1, e2] at ma9 hO9
    have e3 : (("reset_read" == "data_read") || ("reset_read" == "reset_read")) = true := by decide
    rw [e3] at ma9
    obtain ⟨p3, p4, p5, p6, p7, p8, p9, p10, q3, q4, q5, q6, fv9, rv9, sv9, rfl, hfv9, hsv9⟩ := hO9.part
    dsimp only at N9
    k_steps
    refine Stop.to ?_
    k_dflt (refine eq_bb (by k_asm) (.tail _ ma9) (.head _) (by units_room) ?_)
    k_steps
    refine Stop.to ?_
    k_dflt (refine' Fn.use ?Bz20 ?Fz20 ?Xz20 ?Nz20 ?Tz20 ?Kz20 (over_ok (σ := ⟨σ.lim, "reset_read", pl9, (0 : Nat), σ.hi, σ.fin, σ.stop⟩) (ps := rdP σ ps 0 20) (c := 0) ?h1z20 ?h2z20 ?h3z20 ?h4z20) ?dz20 ?uz20 ?_; (case Bz20 => k_asm); (case Fz20 => k_asm); (case Xz20 => k_asm); (case Nz20 => k_asm); (case Tz20 => k_asm); (case Kz20 => exact rfl); (case h1z20 => exact .tail _ (List.mem_append_right _ (List.mem_append_right _ (.tail _ hx2)))); (case h2z20 => exact .tail _ (List.mem_append_right _ (List.mem_append_right _ (.head _)))); (case h3z20 => exact hO9.mono (fun _ h => .tail _ h)); (case h4z20 => exact hstop); (case dz20 => ktr_room); (case uz20 => ktr_units); k_whole)
    rintro r n10 h10 tk10 F10 N10 hp38g
    refine goalAside fun Xg kg => ?_
    obtain ⟨new10, rfl, hf10, rfl⟩ := hp38g
    refine kg ?_
    clear kg Xg
    k_steps
    (rename (∀ p ∈ new9 ++ _, p.1 < _) => lD)
    refine hret _ _ _ _ (by k_asm) (by k_asm) ⟨_, new10 ++ (_ :: (new9 ++ new8)), assoc3.symm, (fresh3 hf10 lD hf9 hf8).obj, ?_⟩
    simp [ovR]
  · obtain ⟨f, hE1, hE2, hnr, e3, e4⟩ : ∃ f : Bool, (Str.ofString state == Str.ofString "reset") = false ∧ (Str.ofString state == Str.ofString "all") = f ∧ ¬ Rst σ ∧ (rdS σ low == "data_read" || rdS σ low == "reset_read") = f ∧
        ∀ pl, ovR ⟨σ.lim, rdS σ low, pl, (low : Nat), σ.hi, σ.fin, σ.stop⟩ = f := by
      rcases hR with ⟨rfl, hst⟩ | ⟨rfl, hst, hfin⟩
      · have hnr : ¬ Rst σ := by
          unfold Rst
          rcases hst with h | h <;> rw [h] <;> decide
        have e2 : rdS σ low = σ.st := by
          unfold rdS
          rw [if_neg hnr]
          rw [if_neg (fun q => by rcases hst with h | h <;> rw [h] at q <;> exact absurd q.1 (by decide))]
        refine ⟨false, by decide, by decide, hnr, ?_, fun pl => ?_⟩
        · rw [e2]; rcases hst with h | h <;> rw [h] <;> decide
        · rw [e2]
          unfold ovR
          dsimp only
          rw [hstop]
          generalize σ.fin.isSome = z
          cases z <;> (rcases hst with h | h <;> rw [h] <;> decide)
      · have hnr : ¬ Rst σ := by
          unfold Rst
          rw [hst]; decide
        have e2 : rdS σ low = "data_read" := by
          unfold rdS
          rw [if_neg hnr]
          rw [if_pos ⟨hst, hfin⟩]
        refine ⟨true, by decide, by decide, hnr, ?_, fun pl => ?_⟩
        · rw [e2]; decide
        · rw [e2]
          unfold ovR
          dsimp only
          rw [hstop]
          generalize σ.fin.isSome = z
          cases z <;> decide
    clear hR
    k_steps
    rename_i h7 F7 N7 _
    refine Stop.to ?_
    refine wpAny_mono (E := fun _ _ => False) ?_ (fun _ _ x => x) (fun _ _ x => x.elim)
    refine While_inv (h₀ := g') (L := L') (fun n m nx => nx = new8 ++ (dx, _) :: rest ∧ ∃ (k : Nat) (u : Tok), k ≤ low ∧ n = low - k ∧ FmIs m [(Str.ofString "low", .int (k : Int) u)] [Str.ofString "low"] (fun y => if y = Str.ofString "places" then some (.ref pl8) else if y = Str.ofString "state" then some (.str (Str.ofString state) u8) else List.lookup y [(Str.ofString "part", Value.ref x), (Str.ofString "taken", Value.ref tl)].reverse)) F7 N7 ⟨rfl, 0, _, Nat.zero_le _, rfl, ⟨List.forall_mem_cons.mpr ⟨rfl, fun _ h => nomatch h⟩, fun y hy => if_neg (fun q => by rw [q] at hy; exact absurd hy (by decide))⟩⟩ ?_
    rintro n m₁ news₁ h6 tk6 F6 N6 hp39g
    refine goalAside fun Xg kg => ?_
    obtain ⟨rfl, k, u, hkl, rfl, hf⟩ := hp39g
    refine kg ?_
    clear kg Xg
    obtain ⟨u9, rfl⟩ := hf.get
    dsimp only [fm] at F6
    clear F7 N7
    k_steps
    · (rename List.any _ _ = true => hany)
      have hk2 : k < low := by
        rcases Nat.lt_or_eq_of_le hkl with h | h
        · exact h
        · rw [h, hlno] at hany; cases hany
      exact WhileStep.intro (by k_asm) (by k_asm) (by omega) ⟨rfl, k + 1, _, hk2, rfl, by (refine ⟨?_, ?_⟩; (focus (repeat' (first | exact (List.forall_mem_nil _) | refine List.forall_mem_cons.mpr ⟨rfl, ?_⟩))); (focus ((repeat (refine fm_out (by rfl) ?_)); first | exact fm_base | exact fun _ _ => rfl)))⟩
    · (rename List.any _ _ = false => hany)
      obtain rfl : k = low := by
        rcases Nat.lt_or_eq_of_le hkl with h | h
        · rw [hlin k h] at hany; cases hany
        · exact h
      refine Stop.to ?_
      k_dflt (refine' Fn.use ?Bz21 ?Fz21 ?Xz21 ?Nz21 ?Tz21 ?Kz21 (read_ok (σ := σ) (ps := ps) (c := 0) (mo := 20) ?h1z21 ?h2z21 ?h3z21) ?dz21 ?uz21 ?_; (case Bz21 => k_asm); (case Fz21 => k_asm); (case Xz21 => k_asm); (case Nz21 => k_asm); (case Tz21 => k_asm); (case Kz21 => exact rfl); (case h1z21 => k_updF); (case h2z21 => exact List.mem_append_right _ (.tail _ hx2)); (case h3z21 => exact hO1.mono (fun _ h => List.mem_append_right _ h)); (case dz21 => ktr_room); (case uz21 => ktr_units); k_whole)
      rintro r n9 h9 tk9 F9 N9 hp40g
      refine goalAside fun Xg kg => ?_
      obtain ⟨o9, new9, rfl, hf9, hk9, pl9, a9, u9', k9, hO9, rfl, ma9, _⟩ := hp40g
      refine kg ?_
      clear kg Xg
      have e1 : rdC σ ps 0 20 = k := (if_neg hnr).trans hrd
      rw [e1] at ma9 hO9
      rw [e3] at ma9
      obtain ⟨p3, p4, p5, p6, p7, p8, p9, p10, q3, q4, q5, q6, fv9, rv9, sv9, rfl, hfv9, hsv9⟩ := hO9.part
      dsimp only at N9
      k_steps
      refine Stop.to ?_
      k_dflt (refine' Fn.use ?Bz22 ?Fz22 ?Xz22 ?Nz22 ?Tz22 ?Kz22 (data_ok (b := 0) (e := k) ?h1z22 ?h2z22) ?dz22 ?uz22 ?_; (case Bz22 => k_asm); (case Fz22 => k_asm); (case Xz22 => k_asm); (case Nz22 => k_asm); (case Tz22 => k_asm); (case Kz22 => exact rfl); (case h1z22 => exact Nat.zero_le _); (case h2z22 => exact hl8); (case dz22 => ktr_room); (case uz22 => ktr_units); k_whole)
      rintro r n10 h10 tk10 F10 N10 hp41g
      refine goalAside fun Xg kg => ?_
      obtain ⟨new10, t10', rfl, hf10, rfl⟩ := hp41g
      refine kg ?_
      clear kg Xg
      k_steps
      refine Stop.to ?_
      k_dflt (refine eq_bb (x := D 0 k) (f := f) (by k_asm) (.tail _ (List.mem_append_right _ ma9)) (.head _) (by units_room) ?_)
      k_steps
      refine Stop.to ?_
      k_dflt (refine' Fn.use ?Bz23 ?Fz23 ?Xz23 ?Nz23 ?Tz23 ?Kz23 (over_ok (σ := ⟨σ.lim, rdS σ k, pl9, (k : Nat), σ.hi, σ.fin, σ.stop⟩) (ps := rdP σ ps 0 20) (c := k) ?h1z23 ?h2z23 ?h3z23 ?h4z23) ?dz23 ?uz23 ?_; (case Bz23 => k_asm); (case Fz23 => k_asm); (case Xz23 => k_asm); (case Nz23 => k_asm); (case Tz23 => k_asm); (case Kz23 => exact rfl); (case h1z23 => exact .tail _ (List.mem_append_right _ (List.mem_append_right _ (List.mem_append_right _ (.tail _ hx2))))); (case h2z23 => exact .tail _ (List.mem_append_right _ (List.mem_append_right _ (List.mem_append_right _ (.head _))))); (case h3z23 => exact hO9.mono (fun _ h => .tail _ (List.mem_append_right _ h))); (case h4z23 => exact hstop); (case dz23 => ktr_room); (case uz23 => ktr_units); k_whole)
      rintro r n11 h11 tk11 F11 N11 hp42g
      refine goalAside fun Xg kg => ?_
      obtain ⟨new11, rfl, hf11, rfl⟩ := hp42g
      refine kg ?_
      clear kg Xg
      rw [e4]
      k_steps
      (rename (∀ p ∈ new10 ++ _, p.1 < _) => lD)
      exact hret _ _ _ _ (by k_asm) (by k_asm) ⟨_, new11 ++ (_ :: (new10 ++ (new9 ++ new8))), assoc4.symm, (fresh4 hf11 lD hf10 hf9 hf8).obj, congrArg Value.bool (by cases f <;> rfl)⟩
end
-- part Plain
section
example : True := by
  w_top off
  trivial
-- no two of the words taken contradict one another
noncomputable def NoC (ws : List Wd) : Prop := ∀ y ∈ ws, ∀ z ∈ ws, contra y z = false
theorem contra_comm (x y : Wd) : contra x y = contra y x := by
  obtain ⟨r1, b1, e1, f1⟩ := x
  obtain ⟨r2, b2, e2, f2⟩ := y
  cases f1 <;> cases f2 <;> simp [contra, bne, Bool.beq_comm]
theorem contra_self (x : Wd) : contra x x = false := by
  obtain ⟨r1, b1, e1, f1⟩ := x
  cases f1 <;> simp [contra]
theorem contra_ff {x y : Wd} (hx : x.f = true) (hy : y.f = true) : contra x y = (x.e != y.e) := by simp [contra, hx, hy]
theorem contra_fn {x y : Wd} (hx : x.f = true) (hy : y.f = false) : contra x y = decide (y.e > x.e) := by simp [contra, hx, hy]
theorem contra_nf {x y : Wd} (hx : x.f = false) (hy : y.f = true) : contra x y = decide (x.e > y.e) := by simp [contra, hx, hy]
theorem contra_nn {x y : Wd} (hx : x.f = false) (hy : y.f = false) : contra x y = false := by simp [contra, hx, hy]
theorem finR_none {ws : List Wd} (h : finR ws = none) : ∀ y ∈ ws, y.f = false := fun y hy => by
  unfold finR at h
  cases hf : y.f
  · rfl
  · have : y.e ∈ (ws.filter (·.f)).map (·.e) := List.mem_map.mpr ⟨y, List.mem_filter.mpr ⟨hy, hf⟩, rfl⟩
    rw [List.head?_eq_none_iff] at h
    rw [h] at this
    cases this
theorem finR_some {ws : List Wd} {z : Int} (h : finR ws = some z) : ∃ y ∈ ws, y.f = true ∧ y.e = z := by
  unfold finR at h
  have := List.mem_of_mem_head? h
  obtain ⟨y, hy, he⟩ := List.mem_map.mp this
  obtain ⟨h1, h2⟩ := List.mem_filter.mp hy
  exact ⟨y, h1, h2, he⟩
theorem finR_all {ws : List Wd} (hn : NoC ws) {y : Wd} (hy : y ∈ ws) (hf : y.f = true) : finR ws = some y.e := by
  cases h : finR ws with
  | none => rw [finR_none h y hy] at hf; cases hf
  | some z =>
    obtain ⟨u, hu, hfu, rfl⟩ := finR_some h
    have := hn u hu y hy
    rw [contra_ff hfu hf] at this
    simpa using this
theorem highR_ge {ws : List Wd} : 0 ≤ highR ws ∧ ∀ y ∈ ws, y.e ≤ highR ws := high_ge ws 0
theorem highR_in {ws : List Wd} : highR ws = 0 ∨ ∃ y ∈ ws, highR ws = y.e := high_mem ws 0
theorem highR_snoc {ws : List Wd} {x : Wd} : highR (ws ++ [x]) = max (highR ws) x.e := by
  unfold highR
  rw [List.foldl_append]
  rfl
noncomputable def finBad (o : Option Int) (en : Int) (isf : Bool) : Bool := match o with
  | none => false
  | some k => decide (en > k) || (isf && en != k)
theorem checkR_eq (σ : PSt) (en : Int) (isf : Bool) : checkR σ en isf = if finBad σ.fin en isf = true then some 6 else if (isf && decide (en < σ.hi)) = true then some 6 else if en > σ.lim then some 3 else none := by
  unfold checkR finBad
  cases σ.fin <;> rfl
/-- what the part's check says is what the law holds due -/
theorem agree {σ : PSt} {ws : List Wd} {x : Wd} {lim : Int} (h1 : σ.fin = finR ws) (h2 : σ.hi = highR ws) (h3 : σ.lim = lim) (hn : NoC ws) (hx : 0 ≤ x.e) : checkR σ x.e x.f = dueC ws x lim := by
  have key : (ws.any (fun y => contra y x) = true) ↔ (finBad σ.fin x.e x.f = true ∨ (x.f && decide (x.e < σ.hi)) = true) := by
    constructor
    · intro h
      obtain ⟨y, hy, hc⟩ := List.any_eq_true.mp h
      cases hyf : y.f
      · cases hxf : x.f
        · rw [contra_nn hyf hxf] at hc; cases hc
        · rw [contra_nf hyf hxf] at hc
          have := (highR_ge (ws := ws)).2 y hy
          have hlt := of_decide_eq_true hc
          refine .inr ?_
          rw [h2]
          simp only [Bool.true_and, decide_eq_true_eq]
          omega
      · rw [h1, finR_all hn hy hyf]
        cases hxf : x.f
        · rw [contra_fn hyf hxf] at hc
          refine .inl ?_
          simpa [finBad] using hc
        · rw [contra_ff hyf hxf] at hc
          refine .inl ?_
          have hne : ¬ y.e = x.e := by simpa using hc
          have hne' : ¬ x.e = y.e := fun q => hne q.symm
          simp [hne', finBad]
    · intro h
      rcases h with h | h
      · rw [h1] at h
        cases hz : finR ws with
        | none => rw [hz] at h; simp [finBad] at h
        | some z =>
          rw [hz] at h
          obtain ⟨y, hy, hyf, rfl⟩ := finR_some hz
          refine List.any_eq_true.mpr ⟨y, hy, ?_⟩
          cases hxf : x.f
          · rw [contra_fn hyf hxf]
            simpa [hxf, finBad] using h
          · rw [contra_ff hyf hxf]
            have : ¬ y.e = x.e := fun q => by simp [hxf, q, finBad] at h
            simpa using this
      · rw [h2] at h
        obtain ⟨hxf, hlt⟩ := Bool.and_eq_true_iff.mp h
        have hlt := of_decide_eq_true hlt
        rcases highR_in (ws := ws) with h0 | ⟨y, hy, h0⟩
        · omega
        · refine List.any_eq_true.mpr ⟨y, hy, ?_⟩
          cases hyf : y.f
          · rw [contra_nf hyf hxf]
            exact decide_eq_true (by omega)
          · rw [contra_ff hyf hxf]
            have : ¬ y.e = x.e := by omega
            simpa using this
  rw [checkR_eq]
  unfold dueC
  by_cases ha : ws.any (fun y => contra y x) = true
  · rw [if_pos ha]
    rcases key.mp ha with h | h
    · rw [if_pos h]
    · by_cases h' : finBad σ.fin x.e x.f = true
      · rw [if_pos h']
      · rw [if_neg h', if_pos h]
  · rw [if_neg ha, if_neg (fun h => ha (key.mpr (.inl h))), if_neg (fun h => ha (key.mpr (.inr h))), h3]
theorem due_none {ws : List Wd} {x : Wd} {lim : Int} (h : dueC ws x lim = none) : (∀ y ∈ ws, contra y x = false) ∧ x.e ≤ lim := by
  unfold dueC at h
  split at h
  · cases h
  · rename_i ha
    split at h
    · cases h
    · rename_i hb
      refine ⟨fun y hy => ?_, by omega⟩
      cases hc : contra y x
      · rfl
      · exact absurd (List.any_eq_true.mpr ⟨y, hy, hc⟩) ha
theorem due_is_none {ws : List Wd} {x : Wd} {lim : Int} (h : ∀ y ∈ ws, contra y x = false) (hl : x.e ≤ lim) : dueC ws x lim = none := by
  unfold dueC
  rw [if_neg (fun ha => by
    obtain ⟨y, hy, hc⟩ := List.any_eq_true.mp ha
    rw [h y hy] at hc
    cases hc), if_neg (by omega)]
theorem NoC.snoc {ws : List Wd} {x : Wd} (hn : NoC ws) (h : ∀ y ∈ ws, contra y x = false) : NoC (ws ++ [x]) := fun y hy z hz => by
  rcases List.mem_append.mp hy with hy | hy <;> rcases List.mem_append.mp hz with hz | hz
  · exact hn y hy z hz
  · rw [List.mem_singleton.mp hz]; exact h y hy
  · rw [List.mem_singleton.mp hy, contra_comm]; exact h z hz
  · rw [List.mem_singleton.mp hz, List.mem_singleton.mp hy]; exact contra_self x
theorem fin_snoc {σ : PSt} {ws : List Wd} {x : Wd} (h1 : σ.fin = finR ws) (hn : NoC ws) (h : ∀ y ∈ ws, contra y x = false) : finA σ x.e x.f = finR (ws ++ [x]) := by
  unfold finA
  cases hxf : x.f
  · rw [if_neg (by decide), h1]
    unfold finR
    rw [List.filter_append]
    simp [hxf]
  · rw [if_pos rfl]
    exact (finR_all (hn.snoc h) (List.mem_append_right _ (.head _)) hxf).symm
end
-- part FHears
section
example : True := by
  w_top off
  trivial
local macro_rules | `(tactic| walk_at "exec For Tuple Call cons nil") => `(tactic| (k_here; refine Stop.mk ?_))
local macro_rules | `(tactic| walk_at "exec For") => `(tactic| (k_here; refine Stop.mk ?_))
local macro_rules | `(tactic| walk_at "compareOp NotEq ref ref") => `(tactic| (k_here; refine Stop.mk ?_))
noncomputable def JnEndB (s : Shared) (L : Addr) (J : Heap → (Str → Option Value) → Led → Prop) (s₃ : Shared) : Prop :=
  ∃ h₂ h' tk' m' news', s₃ = { s with heap := h', toks := tk' } ∧ Fr h₂ L h' m' ∧ News h₂ L h' news' ∧ J h₂ m' news'
theorem JnEndB.intro {s : Shared} {h₂ h' : Heap} {L : Addr} {J : Heap → (Str → Option Value) → Led → Prop} {m' : Str → Option Value} {news' : Led} {tk' : Nat} (F : Fr h₂ L h' m') (N : News h₂ L h' news') (hj : J h₂ m' news') : JnEndB s L J { s with heap := h', toks := tk' } := ⟨h₂, h', tk', m', news', rfl, F, N, hj⟩
theorem join_ifB {M : Model} {A : Around} {E : Value → Shared → Prop} {s : Shared} {Q : Flow → Shared → Prop} {t : Sem Flow} {L : Addr} (J : Heap → (Str → Option Value) → Led → Prop)
    (h : wpAny M A t (JnPost Q (JnEndB s L J)) E s)
    (k : ∀ h₂ h' tk' m' news', Fr h₂ L h' m' → News h₂ L h' news' → J h₂ m' news' → Q .next { s with heap := h', toks := tk' }) : wpAny M A t Q E s :=
  wpAny_mono h (fun f s' q => by
    cases f with
    | next =>
      refine goalAside fun Xg kg => ?_
      obtain ⟨h₂, h', tk', m', n', rfl, F, N, j⟩ := q
      refine kg ?_
      clear kg Xg
      exact k h₂ h' tk' m' n' F N j
    | ret v => exact q
    | brk => exact q
    | cont => exact q) fun _ _ e => e
noncomputable def grStep (lim : Int) (tk : List (Value × Wd)) (z : Value × Wd) : List (Value × Wd) := if (dueC (tk.map (·.2)) z.2 lim).isSome then tk else tk ++ [z]
noncomputable def grL (lim : Int) (zs : List (Value × Wd)) : List (Value × Wd) := zs.foldl (grStep lim) []
-- a ground that an outer frame may stand on
structure Gd (w : World) (A₀ : Around) (base : Heap) (outer : List Env) (p : Program) (loose : List Str) (mean : ExcName → Option Value) (mg mb : Str → Option Value) (g h : Heap) : Prop where
  turn : KtsTurn (outer.filterMap (·.frame)) g h
  B : Below A₀ base outer h
  X : (Mine.hd.heap_1 w.params).In h
  T : Top p loose mean mg mb h
  D : KtsDicts (outer.filterMap (·.frame)) h
theorem freshM {a b r : Led} {x : Addr × Obj} (ha : Fresh a (b ++ x :: r)) (hb : Fresh b (x :: r)) (hx : ∀ p ∈ r, p.1 < x.1) : Fresh (a ++ (b ++ [x])) r := fun p hp q hq => by
  rcases List.mem_append.mp hp with h | h
  · exact ha p h q (List.mem_append_right _ (.tail _ hq))
  · rcases List.mem_append.mp h with h | h
    · exact hb p h q (.tail _ hq)
    · rw [List.mem_singleton.mp h]
      exact Nat.ne_of_gt (hx q hq)
noncomputable def HearsIs (w : World) (R0 : PSt → List Pc → Nat → List Wd → Prop) (lim : Int) (zs : List (Value × Wd)) (r : Value) (o' : Obj) (n : Led) : Prop :=
  ∃ σ' ps' c' tl tn, r = .ref tl ∧ (tl, listOf (zs.map Prod.fst).toArray tn) ∈ n ∧ Ok w n σ' ps' c' o' ∧ σ'.lim = lim ∧ σ'.fin = finR (zs.map Prod.snd) ∧ σ'.hi = highR (zs.map Prod.snd) ∧ R0 σ' ps' c' (zs.map Prod.snd)
theorem HearsIs.mono {w : World} {R0 : PSt → List Pc → Nat → List Wd → Prop} {lim : Int} {zs : List (Value × Wd)} {r : Value} {o' : Obj} {n n' : Led} (hs : ∀ p ∈ n, p ∈ n') (h : HearsIs w R0 lim zs r o' n) : HearsIs w R0 lim zs r o' n' := by
  obtain ⟨σ', ps', c', tl, tn, e, h1, h2, k⟩ := h
  exact ⟨σ', ps', c', tl, tn, e, hs _ h1, h2.mono hs, k⟩
theorem Ok.swap {w : World} {n n' : Led} {σ : PSt} {ps : List Pc} {c : Nat} {o : Obj} {l : Addr} {vs : List Value} {k : Nat} (h : Ok w n σ ps c o) (hl : σ.pl ≠ l) (hs : ∀ p ∈ n, p = (l, listOf vs.toArray k) ∨ p ∈ n') : Ok w n' σ ps c o := by
  obtain ⟨h1, ⟨us, m, hm, ha⟩, h3, h4, h5, h6⟩ := h
  refine ⟨h1, ⟨us, m, (hs _ hm).resolve_left (fun e => hl (congrArg Prod.fst e)), All2.mono (fun v x q => ?_) ha⟩, h3, h4, h5, h6⟩
  obtain ⟨a, n1, t1, t2, e, hq⟩ := q
  exact ⟨a, n1, t1, t2, e, (hs _ hq).resolve_left (fun e => by
    have := congrArg (fun p : Addr × Obj => p.2.cls) e
    exact absurd (show Value.type "tuple" = Value.type "list" from this) (by decide))⟩
theorem Ok.drop {w : World} {n n' : Led} {σ : PSt} {ps : List Pc} {c : Nat} {o : Obj} (h : Ok w n σ ps c o) (hs : ∀ p ∈ n, p.2.cls = .type "list" ∨ p.2.cls = .type "tuple" → p ∈ n') : Ok w n' σ ps c o := by
  obtain ⟨h1, ⟨us, m, hm, ha⟩, h3, h4, h5, h6⟩ := h
  refine ⟨h1, ⟨us, m, hs _ hm (.inl rfl), All2.mono (fun v x q => ?_) ha⟩, h3, h4, h5, h6⟩
  obtain ⟨a, n1, t1, t2, e, hq⟩ := q
  exact ⟨a, n1, t1, t2, e, hs _ hq (.inr rfl)⟩
theorem swapMem {A R : Led} {a b c c' : Addr × Obj} : ∀ p ∈ A ++ a :: b :: c :: R, p = c ∨ p ∈ A ++ a :: b :: c' :: R := fun p hp => by
  simp only [List.mem_append, List.mem_cons] at hp ⊢
  rcases hp with h | h | h | h | h <;> simp [h]
theorem permE {h₀ h : Heap} {L : Addr} {A B R : Led} {a b c : Addr × Obj} (N : News h₀ L h (A ++ a :: b :: c :: (B ++ R))) : News h₀ L h (a :: b :: c :: ((A ++ B) ++ R)) := fun p hp => N p (by
  simp only [List.mem_append, List.mem_cons] at hp ⊢
  rcases hp with h | h | h | (h | h) | h <;> simp [h])
theorem dropA2 {h₀ h : Heap} {L : Addr} {A B R : Led} (N : News h₀ L h (A ++ (B ++ R))) : News h₀ L h R := fun p hp => N p (List.mem_append_right _ (List.mem_append_right _ hp))
noncomputable def NF (e I l d : Addr) (rest n : Led) : Prop := ∀ p ∈ n, p.1 ≠ e ∧ p.1 ≠ I ∧ p.1 ≠ l ∧ p.1 ≠ d ∧ ∀ q ∈ rest, p.1 ≠ q.1
theorem nf_of {e i l d : Addr} {oe oi ol od : Obj} {A B R n : Led} (h : Fresh n (A ++ (e, oe) :: (i, oi) :: (l, ol) :: (B ++ (d, od) :: R))) : NF e i l d R n := fun p hp =>
  ⟨h p hp (e, oe) (by simp), h p hp (i, oi) (by simp), h p hp (l, ol) (by simp), h p hp (d, od) (by simp), fun q hq => h p hp q (by simp [hq])⟩
theorem NF.app {e i l d : Addr} {R a b : Led} (ha : NF e i l d R a) (hb : NF e i l d R b) : NF e i l d R (a ++ b) := fun p hp => (List.mem_append.mp hp).elim (ha p) (hb p)
theorem NF.fresh {e i l d : Addr} {o : Obj} {R a : Led} (ha : NF e i l d R a) : Fresh a ((d, o) :: R) := fun p hp q hq => by
  obtain ⟨_, _, _, h4, h5⟩ := ha p hp
  rcases List.mem_cons.mp hq with rfl | hq
  · exact h4
  · exact h5 q hq
theorem tell_lim {σ : PSt} {ps : List Pc} {c : Nat} {x : Wd} {pl' : Addr} : (tell σ ps c x pl').lim = σ.lim := by unfold tell; split <;> rfl
theorem tell_hi {σ : PSt} {ps : List Pc} {c : Nat} {x : Wd} {pl' : Addr} : (tell σ ps c x pl').hi = max σ.hi x.e := by unfold tell; split <;> rfl
theorem tell_pl {σ : PSt} {ps : List Pc} {c : Nat} {x : Wd} {pl' : Addr} : (tell σ ps c x pl').pl = pl' := by unfold tell; split <;> rfl
theorem tell_fin {σ : PSt} {ps : List Pc} {c : Nat} {x : Wd} {pl' : Addr} (h : Wf x) : (tell σ ps c x pl').fin = finA σ x.e x.f := by
  unfold tell finA
  split
  · rename_i hr
    rw [(h.re hr).2]
    rfl
  · rfl
theorem gr_none {lim : Int} {tz : List (Value × Wd)} {z : Value × Wd} (h : dueC (tz.map Prod.snd) z.2 lim = none) : grStep lim tz z = tz ++ [z] := by
  unfold grStep
  rw [show (tz.map (·.2)) = tz.map Prod.snd from rfl, h]
  rfl
theorem gr_some {lim : Int} {tz : List (Value × Wd)} {z : Value × Wd} {k : Int} (h : dueC (tz.map Prod.snd) z.2 lim = some k) : grStep lim tz z = tz := by
  unfold grStep
  rw [show (tz.map (·.2)) = tz.map Prod.snd from rfl, h]
  rfl
structure GrOk (rest : Led) (tz : List (Value × Wd)) : Prop where
  nc : NoC (tz.map Prod.snd)
  wf : ∀ y ∈ tz.map Prod.snd, Wf y
  wds : WdsAt rest (tz.map Prod.fst) (tz.map Prod.snd)
theorem GrOk.step {rest : Led} {tz : List (Value × Wd)} {z : Value × Wd} {lim : Int} (h : GrOk rest tz) (hz : WdAt rest z.1 z.2) (hw : Wf z.2) : GrOk rest (grStep lim tz z) := by
  cases hd : dueC (tz.map Prod.snd) z.2 lim with
  | some k => rw [gr_some hd]; exact h
  | none =>
    rw [gr_none hd]
    obtain ⟨a, b, c⟩ := h
    refine ⟨?_, ?_, ?_⟩
    · rw [List.map_append]
      exact a.snoc (due_none hd).1
    · intro y hy
      rw [List.map_append] at hy
      rcases List.mem_append.mp hy with hy | hy
      · exact b y hy
      · rw [List.mem_singleton.mp hy]; exact hw
    · rw [List.map_append, List.map_append]
      exact c.append (.cons hz .nil)
theorem gr_len {lim : Int} {tz : List (Value × Wd)} {z : Value × Wd} : (grStep lim tz z).length ≤ tz.length + 1 := by
  unfold grStep
  split
  · exact Nat.le_succ _
  · rw [List.length_append]; exact Nat.le_refl _
theorem gr_take {lim : Int} {zs : List (Value × Wd)} {i : Nat} {z : Value × Wd} (h : zs[i]? = some z) : grL lim (zs.take (i + 1)) = grStep lim (grL lim (zs.take i)) z := by
  unfold grL
  rw [List.take_add_one, h, List.foldl_append]
  rfl
theorem permF {h₀ h : Heap} {L : Addr} {a b c d : Addr × Obj} {r : Led} (N : News h₀ L h (a :: b :: c :: d :: r)) : News h₀ L h (c :: d :: a :: b :: r) := fun p hp => N p (by
  simp only [List.mem_cons] at hp ⊢
  rcases hp with q | q | q | q | q <;> simp [q])
noncomputable def HearsJ (w : World) (A₁ : Around) (base : Heap) (outer₁ : List Env) (p : Program) (loose : List Str) (mean : ExcName → Option Value) (mg mb : Str → Option Value) (g' : Heap) (lim : Int) (zs : List (Value × Wd)) (l1 dx : Addr) (o : Obj) (rest : Led) (R0 : PSt → List Pc → Nat → List Wd → Prop) (bs : Str → Option Value) (i : Nat) (h₁ : Heap) (m : Str → Option Value) (nx : Led) : Prop :=
  Gd w A₁ base outer₁ p loose mean mg mb g' h₁ ∧ ∃ new o1 σ1 ps1 c1 tn tz, tz = grL lim (zs.take i) ∧
      nx = (l1, listOf (tz.map Prod.fst).toArray tn) :: (new ++ (dx, o1) :: rest) ∧ (∀ p ∈ new, p.1 ≠ l1) ∧ Fresh new ((dx, o) :: rest) ∧ Ok w nx σ1 ps1 c1 o1 ∧ σ1.pl ≠ l1 ∧ σ1.lim = lim ∧ σ1.fin = finR (tz.map Prod.snd) ∧ σ1.hi = highR (tz.map Prod.snd) ∧ R0 σ1 ps1 c1 (tz.map Prod.snd) ∧
      GrOk rest tz ∧ tz.length ≤ i ∧
      FmIs m [] [Str.ofString "at", Str.ofString "word", Str.ofString "due"] bs
theorem HearsJ.mk {w : World} {A₁ : Around} {base : Heap} {outer₁ : List Env} {p : Program} {loose : List Str} {mean : ExcName → Option Value} {mg mb : Str → Option Value} {g' : Heap} {lim : Int} {zs : List (Value × Wd)} {l1 dx : Addr} {o : Obj} {rest : Led} {R0 : PSt → List Pc → Nat → List Wd → Prop} {bs : Str → Option Value} {i : Nat} {h₁ : Heap} {m : Str → Option Value} {nx : Led} (hG : Gd w A₁ base outer₁ p loose mean mg mb g' h₁)
    (h : ∃ new o1 σ1 ps1 c1 tn tz, tz = grL lim (zs.take i) ∧
      nx = (l1, listOf (tz.map Prod.fst).toArray tn) :: (new ++ (dx, o1) :: rest) ∧ (∀ p ∈ new, p.1 ≠ l1) ∧ Fresh new ((dx, o) :: rest) ∧ Ok w nx σ1 ps1 c1 o1 ∧ σ1.pl ≠ l1 ∧ σ1.lim = lim ∧ σ1.fin = finR (tz.map Prod.snd) ∧ σ1.hi = highR (tz.map Prod.snd) ∧ R0 σ1 ps1 c1 (tz.map Prod.snd) ∧
      GrOk rest tz ∧ tz.length ≤ i ∧
      FmIs m [] [Str.ofString "at", Str.ofString "word", Str.ofString "due"] bs) : HearsJ w A₁ base outer₁ p loose mean mg mb g' lim zs l1 dx o rest R0 bs i h₁ m nx := ⟨hG, h⟩
set_option maxHeartbeats 8000000 in
theorem hears_ok {w : World} {news : Led} {g : Obj → Led} {x dx : Addr} {o : Obj} {σ : PSt} {ps : List Pc} {c : Nat} {wl ml : Addr} {wn mn : Nat} {wvs mvs : List Value} {ws : List Wd} {ms : List Int} {lim : Int} {u1 : Tok} (R0 : PSt → List Pc → Nat → List Wd → Prop)
    (Up : UpdF dx o news g) (hx : (x, instObj 154 dx) ∈ news) (hO : Ok w news σ ps c o) (hlim : σ.lim = lim) (hfin : σ.fin = none) (hhi : σ.hi = 0) (h0 : R0 σ ps c [])
    (hstep : ∀ σ ps c tk x pl', Wf x → (∀ y ∈ tk, Wf y) → σ.lim = lim → σ.fin = finR tk → σ.hi = highR tk → NoC tk → R0 σ ps c tk → dueC tk x lim = none → R0 (tell σ ps c x pl') (tellPs σ ps c x) c (tk ++ [x]))
    (hmv : ms = [] ∨ ∀ σ ps c tk, R0 σ ps c tk)
    (hwl : (wl, listOf wvs.toArray wn) ∈ news) (hws : WdsAt news wvs ws) (hlen : ws.length ≤ 20) (hwf : ∀ y ∈ ws, Wf y) (hml : (ml, listOf mvs.toArray mn) ∈ news) (hms : IntsAre mvs ms) (hm0 : ∀ m ∈ ms, 0 ≤ m) (hmn : ms.length ≤ 20) :
    FnS w 213 [.ref x, .ref wl, .int lim u1, .ref ml] news 200 3000 (fun r n => ∃ o' new, n = new ++ g o' ∧ Fresh new news ∧ KeepND news n ∧ HearsIs w R0 lim (grL lim (wvs.zip ws)) r o' n) := by
  refine FnS.updK (P := fun r o' n => HearsIs w R0 lim (grL lim (wvs.zip ws)) r o' n) (fun r o' m m' hs h => h.mono hs) hO.part.dict Up fun rest hoff hin hsub => ?_
  have hx2 := hin _ hx (show Value.ref 154 ≠ .type "dict" by decide)
  have hwl2 := hin _ hwl (show Value.type "list" ≠ .type "dict" by decide)
  have hml2 := hin _ hml (show Value.type "list" ≠ .type "dict" by decide)
  have hws2 := hws.keep hin
  have hpc2 := hO.pcs.keep hin
  have hO1 : Ok w ((dx, o) :: rest) σ ps c o := ⟨hO.part, hpc2.mono (fun _ h => .tail _ h), hO.gap, hO.rd, hO.c8, hO.st⟩
  clear hwl hml hws
  have hwsl := hws2.length
  have hmsl := hms.length
  intro p loose mean mg mb dp un gd cn cs a ccd cl outer A₀ base h₀ L m s Q E B F X N T XB TB KD hk hd hu hret
  refine wpAny_call ?_
  k_dflt (refine' code_defT (binds := [(PySem.Str.ofString "part", .ref x), (PySem.Str.ofString "words", .ref wl), (PySem.Str.ofString "limit", .int lim u1), (PySem.Str.ofString "moves", .ref ml)]) ?k1 ?k2 ?k3 ?k4 ?k5 ?kX ?kT ?kE ?kA ?kF ?kK ?k6 ?k7 ?k8 ?k9 ?kB ?_ ?c2 ?c3 ?c4 ?c5; (case kA => exact rfl); (case kF => exact rfl); (case kK => assumption); (case k1 => k_asm); (case k2 => k_asm); (case k3 => k_asm); (case k4 => k_asm); (case k5 => k_asm); (case kX => exact XB); (case kT => exact TB); (case kE => exact KD); (case k6 => k_is); (case k7 => k_is); (case k8 => ktr_room); (case k9 => exact BindsTo.of_eq rfl); (case c5 => decide); (case kB => exact locs rfl); (case c2 => exact rfl); (case c3 => exact rfl); (case c4 => exact rfl); k_whole)
  intro g' L' h' FG' F' N' B' X' T' KD'
  (try dsimp only)
  (try k_fold)
  k_steps
  rename_i l1 h1 hl1 h2 F1 N1 _
  obtain ⟨hl11, hl12⟩ := hl1
  have hdl : @Ne Nat dx l1 := Nat.ne_of_lt hl11
  have hpl0 : σ.pl ≠ l1 := by
    refine goalAside fun Xg kg => ?_
    obtain ⟨vs0, k0, hm0', _⟩ := hpc2
    refine kg ?_
    clear kg Xg
    exact allLt_ne hl12 _ hm0'
  clear hpc2
  refine Stop.to ?_
  refine for_enumB (l := wl) (vs := wvs) (nn := wn) (J := fun i h₁ m nx => HearsJ w (ktrTop dp un gd cn cs L a ccd cl outer) base (envX cn cs L a ccd cl :: outer) p loose mean mg mb g' lim (wvs.zip ws) l1 dx o rest R0 (fun y => if y = Str.ofString "taken" then some (Value.ref l1) else List.lookup y [(Str.ofString "part", Value.ref x), (Str.ofString "words", Value.ref wl), (Str.ofString "limit", Value.int lim u1), (Str.ofString "moves", Value.ref ml)].reverse) i h₁ m nx) rfl ?_ (by intro _; rfl) F1 N1 (.tail _ (.tail _ hwl2)) ?_ ?_ ?_
  · intro Q' hq
    k_steps
    exact hq
  · refine HearsJ.mk ⟨KtsTurn.refl, B', X', T', KD'⟩ ⟨[], o, σ, ps, c, 0, [], rfl, rfl, (fun _ h => nomatch h), Fresh.nil, hO1.mono (fun _ h => .tail _ h), hpl0, hlim, hfin, hhi, h0, ⟨(fun _ h => nomatch h), (fun _ h => nomatch h), .nil⟩, Nat.le_refl _, ⟨(fun _ h => nomatch h), fun _ _ => rfl⟩⟩
  · rintro i v h₁ m₁ news₁ eE I oE oI T9 oT t9 h9 tk9 hv hp43g hl₁ hne hei hcE hcI F₁ N₁ hT
    refine goalAside fun Xg kg => ?_
    obtain ⟨hG, new, o1, σ1, ps1, c1, tn, tz, htz, rfl, hnl, hfr, hOk, hpl1, hlim1, hfin1, hhi1, hR1, hgr, htzl, hf⟩ := hp43g
    refine kg ?_
    clear kg Xg
    obtain ⟨u, rfl⟩ := hf.get
    dsimp only [fm] at F₁
    obtain ⟨wd, hpi, hwd⟩ := hws2.get hv
    have hwfd := hwf _ (List.mem_of_getElem? hpi)
    obtain ⟨hnc, hwf1, hwds⟩ := id hgr
    have hzi : (wvs.zip ws)[i]? = some (v, wd) := by rw [List.getElem?_zip_eq_some]; exact ⟨hv, hpi⟩
    refine goalAside fun Xg kg => ?_
    obtain ⟨a1, n1, t3, t4, rfl, hmem⟩ := id hwd
    refine kg ?_
    clear kg Xg
    clear F1 N1 B' X' T' KD'
    refine goalAside fun Xg kg => ?_
    obtain ⟨hK, B', X', T', KD'⟩ := hG
    refine kg ?_
    clear kg Xg
    have hHI : HaltIf := trivial
    have htn : (tz.map Prod.snd).length ≤ 40 := by
      rw [List.length_map]
      have := (List.getElem?_eq_some_iff.mp hpi).1
      omega
    (refine hide2 ?_; intro _ _)
    k_steps
    refine Stop.to ?_
    k_dflt (refine' Fn.use ?Bz24 ?Fz24 ?Xz24 ?Nz24 ?Tz24 ?Kz24 (due_ok (tvs := tz.map Prod.fst) (ws := tz.map Prod.snd) ?h1z24 ?h2z24 ?h3z24 ?h4z24) ?dz24 ?uz24 ?_; (case Bz24 => k_asm); (case Fz24 => k_asm); (case Xz24 => k_asm); (case Nz24 => k_asm); (case Tz24 => k_asm); (case Kz24 => exact rfl); (case h1z24 => exact hwd.mono (by (intro p hp; k_mem))); (case h2z24 => k_mem); (case h3z24 => exact hwds.mono (by (intro p hp; k_mem))); (case h4z24 => exact htn); (case dz24 => ktr_room); (case uz24 => ktr_units); k_whole)
    rintro r n8 h8 tk8 F8 N8 hp44g
    refine goalAside fun Xg kg => ?_
    obtain ⟨new8, rfl, hf8, hdue⟩ := hp44g
    refine kg ?_
    clear kg Xg
    k_steps
    have hdI := hne (dx, o1) (.tail _ (List.mem_append_right _ (.head _)))
    have hde : @Ne Nat dx eE := hdI.1
    have hdi : @Ne Nat dx I := hdI.2
    have hdT : @Ne Nat dx T9 := Nat.ne_of_lt (hT (dx, o1) (.tail _ (.tail _ (.tail _ (List.mem_append_right _ (.head _))))))
    have hd8 : ∀ p ∈ new8, p.1 ≠ dx := hf8.ne (o := o1) (by k_mem)
    have hdn : ∀ p ∈ new, p.1 ≠ dx := hfr.ne (.head _)
    have hag : checkR σ1 wd.e wd.f = dueC (tz.map Prod.snd) wd lim := agree hfin1 hhi1 hlim1 hnc (Int.le_trans hwfd.b0 hwfd.be)
    refine Stop.to ?_
    refine join_ifB (L := L') (fun h₂ m' nx => Gd w (ktrTop dp un gd cn cs L a ccd cl outer) base (envX cn cs L a ccd cl :: outer) p loose mean mg mb g' h₂ ∧ ∃ new2 o2, nx = new2 ++ ((eE, oE) :: (I, oI) :: (l1, listOf (tz.map Prod.fst).toArray tn) :: (new ++ (dx, o2) :: rest)) ∧
      Fresh new2 ((eE, oE) :: (I, oI) :: (l1, listOf (tz.map Prod.fst).toArray tn) :: (new ++ (dx, o1) :: rest)) ∧ DueIs nx r (dueC (tz.map Prod.snd) wd lim) (frameR wd) (max 0 (wd.e - highR (tz.map Prod.snd))) ∧
      (match dueC (tz.map Prod.snd) wd lim with
        | none => ∃ pl', Ok w nx (tell σ1 ps1 c1 wd pl') (tellPs σ1 ps1 c1 wd) c1 o2 ∧ pl' ≠ l1
        | some _ => o2 = o1) ∧
      FmIs m' [(Str.ofString "due", r), (Str.ofString "word", .ref a1), (Str.ofString "at", .int (i : Int) t9)] [Str.ofString "at", Str.ofString "word", Str.ofString "due"] (fun y => if y = Str.ofString "taken" then some (Value.ref l1) else List.lookup y [(Str.ofString "part", Value.ref x), (Str.ofString "words", Value.ref wl), (Str.ofString "limit", Value.int lim u1), (Str.ofString "moves", Value.ref ml)].reverse)) ?_ ?_
    · clear hHI
      k_steps
      refine Stop.to ?_
      k_dflt (refine' FnS.use ?Bz25 ?Fz25 ?Xz25 ?Nz25 ?Tz25 XB TB ?Dz25 ?Kz25 (told_ok (σ := σ1) (ps := ps1) (c := c1) (wd := wd) ?h1z25 ?h2z25 ?h3z25 ?h4z25 ?h5z25) ?dz25 ?uz25 ?_; (case Bz25 => k_asm); (case Fz25 => k_asm); (case Xz25 => k_asm); (case Nz25 => k_asm); (case Tz25 => k_asm); (case Kz25 => exact rfl); (case Dz25 => k_asm); (case h1z25 => k_updF); (case h2z25 => k_mem); (case h3z25 => exact hOk.mono (by (intro p hp; k_mem))); (case h4z25 => exact hwd.mono (by (intro p hp; k_mem))); (case h5z25 => exact hwfd); (case dz25 => ktr_room); (case uz25 => ktr_units); k_whole)
      rintro r7 n7 g7 h7 tk7 K7 B7 F7 X7 N7 T7 D7 hp45g
      refine goalAside fun Xg kg => ?_
      obtain ⟨o7, new7, rfl, hf7, hk7, htold⟩ := hp45g
      refine kg ?_
      clear kg Xg
      unfold ToldIs at htold
      rw [hag] at htold
      rcases hdc : dueC (tz.map Prod.snd) wd lim with _ | k
      · rw [hdc] at htold hdue
        obtain ⟨td, rfl⟩ := hdue
        refine goalAside fun Xg kg => ?_
        obtain ⟨⟨pl', hOk2, hplF⟩, tt, rfl⟩ := htold
        refine kg ?_
        clear kg Xg
        have hpl2 : pl' ≠ l1 := hplF.elim (fun e => e ▸ hpl1) (fun k => Ne.symm (k (l1, listOf (tz.map Prod.fst).toArray tn) (by k_mem) (show Value.type "list" ≠ .type "dict" by decide)))
        rw [hhi1]
        (refine hide ?_; intro _ _ _ _)
        k_steps
        · (rename _ ≠ _ => hq)
          exact absurd rfl hq
        · show JnEndB _ _ _ _
          refine JnEndB.intro F7 N7 ⟨⟨hK.trans K7, B7, X7, T7, D7⟩, new7 ++ (new8 ++ [(T9, _)]), o7, by simp, freshM hf7 hf8 hT, ⟨_, rfl⟩, ⟨pl', hOk2, hpl2⟩, by (refine ⟨?_, ?_⟩; (focus (repeat' (first | exact (List.forall_mem_nil _) | refine List.forall_mem_cons.mpr ⟨rfl, ?_⟩))); (focus ((repeat (refine fm_out (by rfl) ?_)); first | exact fm_base | exact fun _ _ => rfl)))⟩
      · rw [hdc] at htold hdue
        refine goalAside fun Xg kg => ?_
        obtain ⟨ad, md, ud1, ud2, rfl, mmd⟩ := hdue
        refine kg ?_
        clear kg Xg
        refine goalAside fun Xg kg => ?_
        obtain ⟨rfl, at_, mt_, ut1, ut2, rfl, mmt⟩ := htold
        refine kg ?_
        clear kg Xg
        (refine hide ?_; intro _ _ _ _)
        k_steps
        refine Stop.to ?_
        k_dflt (refine ne_tup2 (by k_asm) ⟨_, _, _, _, rfl, mmt⟩ ⟨_, _, _, _, rfl, List.mem_append_right _ mmd⟩ (by units_room) ?_)
        k_steps
        show JnEndB _ _ _ _
        refine JnEndB.intro F7 N7 ⟨⟨hK.trans K7, B7, X7, T7, D7⟩, new7 ++ (new8 ++ [(T9, _)]), o7, by simp, freshM hf7 hf8 hT, ⟨_, _, _, _, rfl, List.mem_append_right _ mmd⟩, rfl, by (refine ⟨?_, ?_⟩; (focus (repeat' (first | exact (List.forall_mem_nil _) | refine List.forall_mem_cons.mpr ⟨rfl, ?_⟩))); (focus ((repeat (refine fm_out (by rfl) ?_)); first | exact fm_base | exact fun _ _ => rfl)))⟩
    · rintro h₂ h7 tk7 m7 n7 F7 N7 hp46g
      refine goalAside fun Xg kg => ?_
      obtain ⟨hG2, new2, o2, rfl, hf2, hdue2, hOk2, hf⟩ := hp46g
      refine kg ?_
      clear kg Xg
      obtain ⟨u7, rfl⟩ := hf.get
      dsimp only [fm] at F7
      clear hK B' X' T' KD'
      refine goalAside fun Xg kg => ?_
      obtain ⟨hK, B', X', T', KD'⟩ := hG2
      refine kg ?_
      clear kg Xg
      have hlI := hne (l1, _) (.head _)
      have hle : @Ne Nat l1 eE := hlI.1
      have hli : @Ne Nat l1 I := hlI.2
      have hl2 : ∀ p ∈ new2, p.1 ≠ l1 := hf2.ne (o := listOf (tz.map Prod.fst).toArray tn) (by k_mem)
      have hd2 : ∀ p ∈ new2, p.1 ≠ dx := hf2.ne (o := o1) (by k_mem)
      have htn2 : (tz.map Prod.fst).length ≤ 40 := by rw [List.length_map] at htn ⊢; exact htn
      have hgr3 := hgr.step (z := (.ref a1, wd)) (lim := lim) hwd hwfd
      have hln3 := gr_len (lim := lim) (tz := tz) (z := (.ref a1, wd))
      have htk3 := gr_take (lim := lim) hzi
      rw [← htz] at htk3
      k_steps
      refine Stop.to ?_
      (rename Fr h₂ L' _ _ => F8)
      refine join_ifM F8 (fun nx => ∃ tn3 σ3 ps3, nx = new2 ++ ((eE, oE) :: (I, oI) :: (l1, listOf ((grStep lim tz (.ref a1, wd)).map Prod.fst).toArray tn3) :: (new ++ (dx, o2) :: rest)) ∧ Ok w nx σ3 ps3 c1 o2 ∧ σ3.pl ≠ l1 ∧ σ3.lim = lim ∧ σ3.fin = finR ((grStep lim tz (.ref a1, wd)).map Prod.snd) ∧ σ3.hi = highR ((grStep lim tz (.ref a1, wd)).map Prod.snd) ∧ R0 σ3 ps3 c1 ((grStep lim tz (.ref a1, wd)).map Prod.snd)) ?_ ?_
      · clear hHI
        rcases hdc : dueC (tz.map Prod.snd) wd lim with _ | k
        · rw [hdc] at hOk2 hdue2
          obtain ⟨td, rfl⟩ := hdue2
          obtain ⟨pl', hOk2, hpl2⟩ := hOk2
          rw [gr_none (z := (.ref a1, wd)) hdc]
          have emap : (tz ++ [(Value.ref a1, wd)]).map Prod.fst = tz.map Prod.fst ++ [Value.ref a1] := by rw [List.map_append]; rfl
          have emap2 : (tz ++ [(Value.ref a1, wd)]).map Prod.snd = tz.map Prod.snd ++ [wd] := by rw [List.map_append]; rfl
          rw [emap, emap2]
          (refine hide ?_; intro _ _ _ _)
          k_steps
          show JnEnd _ _ _ _ _
          refine JnEnd.intro (by k_asm) (by k_asm) ⟨rfl, _, tell σ1 ps1 c1 wd pl', tellPs σ1 ps1 c1 wd, rfl, hOk2.swap (by rw [tell_pl]; exact hpl2) swapMem, by rw [tell_pl]; exact hpl2, by rw [tell_lim]; exact hlim1, ?_, ?_, hstep σ1 ps1 c1 _ wd pl' hwfd hwf1 hlim1 hfin1 hhi1 hnc hR1 hdc⟩
          · rw [tell_fin hwfd]
            exact fin_snoc hfin1 hnc (due_none hdc).1
          · rw [tell_hi, hhi1]
            exact highR_snoc.symm
        · rw [hdc] at hOk2 hdue2
          refine goalAside fun Xg kg => ?_
          obtain ⟨ad, md, ud1, ud2, rfl, mmd⟩ := hdue2
          refine kg ?_
          clear kg Xg
          obtain rfl : o2 = o1 := hOk2
          rw [gr_some (z := (.ref a1, wd)) hdc]
          (refine hide ?_; intro _ _ _ _)
          k_steps
          show JnEnd _ _ _ _ _
          exact JnEnd.intro (by k_asm) (by k_asm) ⟨rfl, tn, σ1, ps1, rfl, hOk.mono (fun p hp => List.mem_append_right _ (.tail _ (.tail _ hp))), hpl1, hlim1, hfin1, hhi1, hR1⟩
      · rintro h6 tk6 n6 F6 N6 hp47g
        refine goalAside fun Xg kg => ?_
        obtain ⟨tn3, σ3, ps3, rfl, hOk3, hpl3, hlim3, hfin3, hhi3, hR3⟩ := hp47g
        refine kg ?_
        clear kg Xg
        generalize grStep lim tz (.ref a1, wd) = tz3 at *
        have htn3 : (tz3.map Prod.snd).length ≤ 40 := by
          rw [List.length_map] at htn ⊢
          have := (List.getElem?_eq_some_iff.mp hpi).1
          omega
        obtain ⟨p1, p2, p3, p4, p5, p6, p7, p8, q3, q4, q5, q6, fv, rv, sv, rfl, hfv, hsv⟩ := id hOk3.part
        k_steps
        refine Stop.to ?_
        (rename Fr h₂ L' _ _ => F8)
        refine join_ifM F8 (fun nx => nx = new2 ++ ((eE, oE) :: (I, oI) :: (l1, listOf (tz3.map Prod.fst).toArray tn3) :: (new ++ (dx, dictOf (partEs w.params p1 p2 p3 p4 p5 p6 p7 p8 (.int σ3.lim q3) (.str (Str.ofString σ3.st) q4) (.ref σ3.pl) (.int σ3.rd q5) (.int σ3.hi q6) fv rv sv) 8) :: rest))) ?_ ?_
        · clear hHI
          rcases hfr3 : finR (tz3.map Prod.snd) with _ | z
          · rw [hfin3, hfr3] at hfv
            obtain rfl : fv = .none := hfv
            (refine hide ?_; intro _ _ _ _)
            k_steps
            refine Stop.to ?_
            k_dflt (refine' Fn.use ?Bz26 ?Fz26 ?Xz26 ?Nz26 ?Tz26 ?Kz26 (fin_ok (tvs := tz3.map Prod.fst) (ws := tz3.map Prod.snd) ?h1z26 ?h2z26 ?h3z26) ?dz26 ?uz26 ?_; (case Bz26 => k_asm); (case Fz26 => k_asm); (case Xz26 => k_asm); (case Nz26 => k_asm); (case Tz26 => k_asm); (case Kz26 => exact rfl); (case h1z26 => k_mem); (case h2z26 => exact hgr3.wds.mono (by (intro p hp; k_mem))); (case h3z26 => exact htn3); (case dz26 => ktr_room); (case uz26 => ktr_units); k_whole)
            rintro r4 n4 h4 tk4 F4 N4 hp48g
            refine goalAside fun Xg kg => ?_
            obtain ⟨new4, rfl, hf4, hr4⟩ := hp48g
            refine kg ?_
            clear kg Xg
            rw [hfr3] at hr4
            obtain rfl : r4 = .none := hr4
            k_steps
            refine Stop.to ?_
            k_dflt (refine' Fn.use ?Bz27 ?Fz27 ?Xz27 ?Nz27 ?Tz27 ?Kz27 (high_ok (tvs := tz3.map Prod.fst) (ws := tz3.map Prod.snd) ?h1z27 ?h2z27 ?h3z27) ?dz27 ?uz27 ?_; (case Bz27 => k_asm); (case Fz27 => k_asm); (case Xz27 => k_asm); (case Nz27 => k_asm); (case Tz27 => k_asm); (case Kz27 => exact rfl); (case h1z27 => k_mem); (case h2z27 => exact hgr3.wds.mono (by (intro p hp; k_mem))); (case h3z27 => exact htn3); (case dz27 => ktr_room); (case uz27 => ktr_units); k_whole)
            rintro r3 n3 h3 tk3 F3 N3 hp49g
            refine goalAside fun Xg kg => ?_
            obtain ⟨new3, t3', rfl, hf3, rfl⟩ := hp49g
            refine kg ?_
            clear kg Xg
            rw [← hhi3]
            k_steps
            · (rename _ ≠ _ => hq)
              exact absurd rfl hq
            · show JnEnd _ _ _ _ _
              exact JnEnd.intro (by k_asm) (dropA2 (by k_asm)) ⟨rfl, rfl⟩
          · rw [hfin3, hfr3] at hfv
            obtain ⟨uz, rfl⟩ := hfv
            (refine hide ?_; intro _ _ _ _)
            k_steps
            refine Stop.to ?_
            k_dflt (refine' Fn.use ?Bz28 ?Fz28 ?Xz28 ?Nz28 ?Tz28 ?Kz28 (fin_ok (tvs := tz3.map Prod.fst) (ws := tz3.map Prod.snd) ?h1z28 ?h2z28 ?h3z28) ?dz28 ?uz28 ?_; (case Bz28 => k_asm); (case Fz28 => k_asm); (case Xz28 => k_asm); (case Nz28 => k_asm); (case Tz28 => k_asm); (case Kz28 => exact rfl); (case h1z28 => k_mem); (case h2z28 => exact hgr3.wds.mono (by (intro p hp; k_mem))); (case h3z28 => exact htn3); (case dz28 => ktr_room); (case uz28 => ktr_units); k_whole)
            rintro r4 n4 h4 tk4 F4 N4 hp50g
            refine goalAside fun Xg kg => ?_
            obtain ⟨new4, rfl, hf4, hr4⟩ := hp50g
            refine kg ?_
            clear kg Xg
            rw [hfr3] at hr4
            obtain ⟨u4, rfl⟩ := hr4
            k_steps
            · (rename _ ≠ _ => hq)
              exact absurd rfl hq
            · skip
              refine Stop.to ?_
              k_dflt (refine' Fn.use ?Bz29 ?Fz29 ?Xz29 ?Nz29 ?Tz29 ?Kz29 (high_ok (tvs := tz3.map Prod.fst) (ws := tz3.map Prod.snd) ?h1z29 ?h2z29 ?h3z29) ?dz29 ?uz29 ?_; (case Bz29 => k_asm); (case Fz29 => k_asm); (case Xz29 => k_asm); (case Nz29 => k_asm); (case Tz29 => k_asm); (case Kz29 => exact rfl); (case h1z29 => k_mem); (case h2z29 => exact hgr3.wds.mono (by (intro p hp; k_mem))); (case h3z29 => exact htn3); (case dz29 => ktr_room); (case uz29 => ktr_units); k_whole)
              rintro r3 n3 h3 tk3 F3 N3 hp51g
              refine goalAside fun Xg kg => ?_
              obtain ⟨new3, t3', rfl, hf3, rfl⟩ := hp51g
              refine kg ?_
              clear kg Xg
              rw [← hhi3]
              k_steps
              · (rename _ ≠ _ => hq)
                exact absurd rfl hq
              · show JnEnd _ _ _ _ _
                exact JnEnd.intro (by k_asm) (dropA2 (by k_asm)) ⟨rfl, rfl⟩
        · rintro h5 tk5 n5 F5 N5 rfl
          clear hHI F8
          have hnf2 : NF eE I l1 dx rest new2 := nf_of (A := []) hf2
          have fin : ∀ (new5 : Led) (o5 : Obj) (σ5 : PSt) (ps5 : List Pc) (c5 : Nat) (h5 : Heap) (m5 : Str → Option Value), Fr h₂ L' h5 m5 → News h₂ L' h5 (new5 ++ ((eE, oE) :: (I, oI) :: (l1, listOf (tz3.map Prod.fst).toArray tn3) :: (new ++ (dx, o5) :: rest))) → NF eE I l1 dx rest new5 →
              Ok w (new5 ++ ((eE, oE) :: (I, oI) :: (l1, listOf (tz3.map Prod.fst).toArray tn3) :: (new ++ (dx, o5) :: rest))) σ5 ps5 c5 o5 → σ5.pl ≠ l1 → σ5.lim = lim → σ5.fin = finR (tz3.map Prod.snd) → σ5.hi = highR (tz3.map Prod.snd) → R0 σ5 ps5 c5 (tz3.map Prod.snd) →
              FmIs m5 [] [Str.ofString "at", Str.ofString "word", Str.ofString "due"] (fun y => if y = Str.ofString "taken" then some (Value.ref l1) else List.lookup y [(Str.ofString "part", Value.ref x), (Str.ofString "words", Value.ref wl), (Str.ofString "limit", Value.int lim u1), (Str.ofString "moves", Value.ref ml)].reverse) →
              News h₂ L' h5 ((eE, oE) :: (I, oI) :: (l1, listOf (tz3.map Prod.fst).toArray tn3) :: ((new5 ++ new) ++ (dx, o5) :: rest)) ∧ (∀ p ∈ (l1, listOf (tz3.map Prod.fst).toArray tn3) :: ((new5 ++ new) ++ (dx, o5) :: rest), p.1 ≠ eE ∧ p.1 ≠ I) ∧ (wl, listOf wvs.toArray wn) ∈ (l1, listOf (tz3.map Prod.fst).toArray tn3) :: ((new5 ++ new) ++ (dx, o5) :: rest) ∧
              ∃ new' o' σ' ps' c' tn' tz', tz' = grL lim ((wvs.zip ws).take (i + 1)) ∧ (l1, listOf (tz3.map Prod.fst).toArray tn3) :: ((new5 ++ new) ++ (dx, o5) :: rest) = (l1, listOf (tz'.map Prod.fst).toArray tn') :: (new' ++ (dx, o') :: rest) ∧ (∀ p ∈ new', p.1 ≠ l1) ∧ Fresh new' ((dx, o) :: rest) ∧ Ok w ((l1, listOf (tz3.map Prod.fst).toArray tn3) :: ((new5 ++ new) ++ (dx, o5) :: rest)) σ' ps' c' o' ∧ σ'.pl ≠ l1 ∧ σ'.lim = lim ∧ σ'.fin = finR (tz'.map Prod.snd) ∧ σ'.hi = highR (tz'.map Prod.snd) ∧ R0 σ' ps' c' (tz'.map Prod.snd) ∧
                GrOk rest tz' ∧ tz'.length ≤ i + 1 ∧ FmIs m5 [] [Str.ofString "at", Str.ofString "word", Str.ofString "due"] (fun y => if y = Str.ofString "taken" then some (Value.ref l1) else List.lookup y [(Str.ofString "part", Value.ref x), (Str.ofString "words", Value.ref wl), (Str.ofString "limit", Value.int lim u1), (Str.ofString "moves", Value.ref ml)].reverse) := by
            intro new5 o5 σ5 ps5 c5 h5 m5 F5 N5 hnf hO5 hpl5 hlim5 hfin5 hhi5 hR5 hf5
            refine ⟨permE N5, fun p hp => ?_, .tail _ (List.mem_append_right _ (.tail _ hwl2)), new5 ++ new, o5, σ5, ps5, c5, tn3, tz3, htk3.symm, rfl, fun p hp => ?_, fun p hp q hq => ?_, hO5.drop (fun p hp hc => ?_), hpl5, hlim5, hfin5, hhi5, hR5, hgr3, by omega, hf5⟩
            · rcases List.mem_cons.mp hp with rfl | hp
              · exact hlI
              · rcases List.mem_append.mp hp with hp | hp
                · rcases List.mem_append.mp hp with hp | hp
                  · exact ⟨(hnf p hp).1, (hnf p hp).2.1⟩
                  · exact hne p (.tail _ (List.mem_append_left _ hp))
                · rcases List.mem_cons.mp hp with rfl | hp
                  · exact hdI
                  · exact hne p (.tail _ (List.mem_append_right _ (.tail _ hp)))
            · rcases List.mem_append.mp hp with hp | hp
              · exact (hnf p hp).2.2.1
              · exact hnl p hp
            · rcases List.mem_append.mp hp with hp | hp
              · exact hnf.fresh p hp q hq
              · exact hfr p hp q hq
            · simp only [List.mem_append, List.mem_cons] at hp ⊢
              rcases hp with h | rfl | rfl | h | h | h | h
              · simp [h]
              · rw [hcE] at hc; exact absurd hc (by decide)
              · rw [hcI] at hc; exact absurd hc (by decide)
              · simp [h]
              · simp [h]
              · simp [h]
              · simp [h]
          rcases Nat.lt_or_ge i ms.length with hat | hat
          · have hR0 : ∀ σ ps c tk, R0 σ ps c tk := hmv.resolve_left (fun e => by rw [e] at hat; exact absurd hat (Nat.not_lt_zero _))
            have hmg : 0 ≤ (1 : Int) + (ms.getD ((i : Int)).toNat 0).fdiv 3 := by
              have h1 : 0 ≤ ms.getD ((i : Int)).toNat 0 := by
                rw [List.getD_eq_getElem?_getD]
                cases h : ms[((i : Int)).toNat]? with
                | none => exact Int.le_refl _
                | some m => exact hm0 m (List.mem_of_getElem? h)
              have := Int.fdiv_nonneg h1 (show (0 : Int) ≤ 3 by decide)
              omega
            obtain ⟨mo, hmo⟩ := Int.eq_ofNat_of_zero_le hmg
            k_steps
            · rw [hmo]
              refine Stop.to ?_
              k_dflt (refine' Fn.use ?Bz30 ?Fz30 ?Xz30 ?Nz30 ?Tz30 ?Kz30 (read_ok (σ := σ3) (ps := ps3) (c := c1) (mo := mo) ?h1z30 ?h2z30 ?h3z30) ?dz30 ?uz30 ?_; (case Bz30 => k_asm); (case Fz30 => k_asm); (case Xz30 => k_asm); (case Nz30 => k_asm); (case Tz30 => k_asm); (case Kz30 => exact rfl); (case h1z30 => k_updF); (case h2z30 => k_mem); (case h3z30 => exact hOk3); (case dz30 => ktr_room); (case uz30 => ktr_units); k_whole)
              rintro r4 n4 h4 tk4 F4 N4 hp52g
              refine goalAside fun Xg kg => ?_
              obtain ⟨o4, new4, rfl, hf4, hk4, pl4, a4, u4, k4, hO4, rfl, ma4, hplF4⟩ := hp52g
              refine kg ?_
              clear kg Xg
              k_steps
              show LpEndE _ _ _ _ _ _ _ _ _
              have hpl4 : pl4 ≠ l1 := hplF4.elim (fun e => e ▸ hpl3) (fun k => Ne.symm (k (l1, listOf (tz3.map Prod.fst).toArray tn3) (by k_mem) (show Value.type "list" ≠ .type "dict" by decide)))
              (rename Fr h₂ L' _ _ => Fz)
              (rename News h₂ L' _ _ => Nz)
              refine goalAside fun Xg kg => ?_
              obtain ⟨e1, e2, e3, e4⟩ := fin (new4 ++ new2) o4 ⟨σ3.lim, rdS σ3 (rdC σ3 ps3 c1 mo), pl4, (rdC σ3 ps3 c1 mo : Nat), σ3.hi, σ3.fin, σ3.stop⟩ _ _ _ _ Fz (by rw [List.append_assoc]; exact Nz) ((nf_of hf4).app hnf2) (by rw [List.append_assoc]; exact hO4) hpl4 hlim3 hfin3 hhi3 (hR0 _ _ _ _) (by (refine ⟨?_, ?_⟩; (focus (repeat' (first | exact (List.forall_mem_nil _) | refine List.forall_mem_cons.mpr ⟨rfl, ?_⟩))); (focus ((repeat (refine fm_out (by rfl) ?_)); first | exact fm_base | exact fun _ _ => rfl))))
              refine kg ?_
              clear kg Xg
              exact LpEndE.intro Fz e1 e2 e3 (HearsJ.mk ⟨hK, B', X', T', KD'⟩ e4)
            · skip
              refine Stop.to ?_
              k_dflt (refine' Fn.use ?Bz31 ?Fz31 ?Xz31 ?Nz31 ?Tz31 ?Kz31 (stop_ok (σ := σ3) (ps := ps3) (c := c1) ?h1z31 ?h2z31 ?h3z31) ?dz31 ?uz31 ?_; (case Bz31 => k_asm); (case Fz31 => k_asm); (case Xz31 => k_asm); (case Nz31 => k_asm); (case Tz31 => k_asm); (case Kz31 => exact rfl); (case h1z31 => k_updF); (case h2z31 => k_mem); (case h3z31 => exact hOk3); (case dz31 => ktr_room); (case uz31 => ktr_units); k_whole)
              rintro r4 n4 h4 tk4 F4 N4 hp53g
              refine goalAside fun Xg kg => ?_
              obtain ⟨o4, new4, rfl, hf4, hk4, σ4, ps4, hO4, hlim4, hhi4, hfin4, hplF4⟩ := hp53g
              refine kg ?_
              clear kg Xg
              k_steps
              show LpEndE _ _ _ _ _ _ _ _ _
              have hpl4 : σ4.pl ≠ l1 := hplF4.elim (fun e => e ▸ hpl3) (fun k => Ne.symm (k (l1, listOf (tz3.map Prod.fst).toArray tn3) (by k_mem) (show Value.type "list" ≠ .type "dict" by decide)))
              (rename Fr h₂ L' _ _ => Fz)
              (rename News h₂ L' _ _ => Nz)
              refine goalAside fun Xg kg => ?_
              obtain ⟨e1, e2, e3, e4⟩ := fin (new4 ++ new2) o4 σ4 _ _ _ _ Fz (by rw [List.append_assoc]; exact Nz) ((nf_of hf4).app hnf2) (by rw [List.append_assoc]; exact hO4) hpl4 (hlim4.trans hlim3) (hfin4.trans hfin3) (hhi4.trans hhi3) (hR0 _ _ _ _) (by (refine ⟨?_, ?_⟩; (focus (repeat' (first | exact (List.forall_mem_nil _) | refine List.forall_mem_cons.mpr ⟨rfl, ?_⟩))); (focus ((repeat (refine fm_out (by rfl) ?_)); first | exact fm_base | exact fun _ _ => rfl))))
              refine kg ?_
              clear kg Xg
              exact LpEndE.intro Fz e1 e2 e3 (HearsJ.mk ⟨hK, B', X', T', KD'⟩ e4)
            · show LpEndE _ _ _ _ _ _ _ _ _
              (rename Fr h₂ L' _ _ => Fz)
              (rename News h₂ L' _ _ => Nz)
              refine goalAside fun Xg kg => ?_
              obtain ⟨e1, e2, e3, e4⟩ := fin new2 _ σ3 _ _ _ _ Fz Nz hnf2 hOk3 hpl3 hlim3 hfin3 hhi3 hR3 (by (refine ⟨?_, ?_⟩; (focus (repeat' (first | exact (List.forall_mem_nil _) | refine List.forall_mem_cons.mpr ⟨rfl, ?_⟩))); (focus ((repeat (refine fm_out (by rfl) ?_)); first | exact fm_base | exact fun _ _ => rfl))))
              refine kg ?_
              clear kg Xg
              exact LpEndE.intro Fz e1 e2 e3 (HearsJ.mk ⟨hK, B', X', T', KD'⟩ e4)
          · k_steps
            show LpEndE _ _ _ _ _ _ _ _ _
            (rename Fr h₂ L' _ _ => Fz)
            (rename News h₂ L' _ _ => Nz)
            refine goalAside fun Xg kg => ?_
            obtain ⟨e1, e2, e3, e4⟩ := fin new2 _ σ3 _ _ _ _ Fz Nz hnf2 hOk3 hpl3 hlim3 hfin3 hhi3 hR3 (by (refine ⟨?_, ?_⟩; (focus (repeat' (first | exact (List.forall_mem_nil _) | refine List.forall_mem_cons.mpr ⟨rfl, ?_⟩))); (focus ((repeat (refine fm_out (by rfl) ?_)); first | exact fm_base | exact fun _ _ => rfl))))
            refine kg ?_
            clear kg Xg
            exact LpEndE.intro Fz e1 e2 e3 (HearsJ.mk ⟨hK, B', X', T', KD'⟩ e4)
  · rintro h₁ m₁ news₁ h9 tk9 hp54g F₁ N₁
    refine goalAside fun Xg kg => ?_
    obtain ⟨hG, new, o1, σ1, ps1, c1, tn, tz, htz, rfl, hnl, hfr, hOk, hpl1, hlim1, hfin1, hhi1, hR1, hgr, htzl, hf⟩ := hp54g
    refine kg ?_
    clear kg Xg
    obtain ⟨u, rfl⟩ := hf.get
    dsimp only [fm] at F₁
    rw [List.take_of_length_le (by rw [List.length_zip]; omega)] at htz
    clear F1 N1 B' X' T' KD'
    refine goalAside fun Xg kg => ?_
    obtain ⟨hK, B', X', T', KD'⟩ := hG
    refine kg ?_
    clear kg Xg
    k_steps
    show LeaveT _ _ _ _ _ _ _ _ _ _ _ _ _ _ _ _ _
    refine ⟨h₁, L', _, _, hK, by k_asm, by k_asm, fun q' K1 B1 F1 X1 N1 T1 D1 => hret _ _ _ _ _ K1 B1 F1 X1 N1 T1 D1 ⟨o1, (l1, _) :: new, rfl, ?_, σ1, ps1, c1, l1, tn, rfl, ?_, hOk, hlim1, ?_, ?_, ?_⟩⟩
    · exact Fresh.cons (List.forall_mem_cons.mpr ⟨hdl, allLt_ne hl12⟩) hfr
    · rw [← htz]; exact .head _
    · rw [← htz]; exact hfin1
    · rw [← htz]; exact hhi1
    · rw [← htz]; exact hR1
end
-- part PlRead
section
example : True := by
  w_top off
  trivial
theorem mem_any {l : List Int} {a : Int} : (l.any (· == a) = true) ↔ a ∈ l := by
  rw [List.any_eq_true]
  constructor
  · rintro ⟨x, hx, h⟩
    rw [← eq_of_beq h]; exact hx
  · intro h
    exact ⟨a, h, beq_self_eq_true a⟩
theorem any_not {l : List Int} {a : Int} (h : a ∉ l) : l.any (· == a) = false := by
  cases hc : l.any (· == a)
  · rfl
  · exact absurd (mem_any.mp hc) h
theorem mem_rgL {b e a : Int} : a ∈ rgL b e ↔ b ≤ a ∧ a < e := by
  unfold rgL
  rw [List.mem_map]
  constructor
  · rintro ⟨i, hi, rfl⟩
    have := List.mem_range.mp hi
    omega
  · rintro ⟨h1, h2⟩
    exact ⟨(a - b).toNat, List.mem_range.mpr (by omega), by omega⟩
theorem mem_slPl {s : SL} {x : Wd} {a : Int} : a ∈ slPl s x ↔ a ∈ s.places ∨ (x.b ≤ a ∧ a < x.e) := by
  unfold slPl
  rw [List.mem_append, List.mem_filter, mem_rgL]
  constructor
  · rintro (h | ⟨h, _⟩)
    · exact .inl h
    · exact .inr h
  · rintro (h | h)
    · exact .inl h
    · by_cases q : a ∈ s.places
      · exact .inl q
      · exact .inr ⟨h, by rw [any_not q]; rfl⟩
theorem filter_len_eq {α : Type} {p : α → Bool} : ∀ {l : List α}, (l.filter p).length = l.length ↔ ∀ a ∈ l, p a = true
  | [] => by simp
  | a :: r => by
    have ih := filter_len_eq (p := p) (l := r)
    have hle := List.length_filter_le p r
    cases h : p a
    · rw [List.filter_cons_of_neg (by rw [h]; decide)]
      constructor
      · intro e
        rw [List.length_cons] at e
        omega
      · intro e
        have := e a (.head _)
        rw [h] at this
        cases this
    · rw [List.filter_cons_of_pos h, List.length_cons, List.length_cons]
      constructor
      · intro e x hx
        rcases List.mem_cons.mp hx with rfl | hx
        · exact h
        · exact ih.mp (by omega) x hx
      · intro e
        rw [ih.mpr fun x hx => e x (.tail _ hx)]
theorem slFull_iff {pl : List Int} {z : Int} (hz : 0 ≤ z) : slFull pl (some z) = true ↔ ∀ a : Int, 0 ≤ a → a < z → a ∈ pl := by
  unfold slFull
  rw [decide_eq_true_iff]
  have hl : ((rgL 0 z).length : Int) = z := by rw [rgL_len]; omega
  constructor
  · intro h a h1 h2
    have h3 : ((rgL 0 z).filter (fun a => pl.any (· == a))).length = (rgL 0 z).length := by omega
    exact mem_any.mp (filter_len_eq.mp h3 a (mem_rgL.mpr ⟨h1, h2⟩))
  · intro h
    rw [filter_len_eq.mpr fun a ha => mem_any.mpr (h a (mem_rgL.mp ha).1 (mem_rgL.mp ha).2)]
    exact hl
theorem one_piece {ps : List Pc} {k : Nat} (hg : Gap 0 ps) (hk : 0 < k) (h : ∀ f, f < k → Cov ps f) : ∃ p ∈ ps, p.1 = 0 ∧ k ≤ p.2 := by
  match ps, hg with
  | [], _ => exact absurd (h 0 hk) cov_nil
  | (s, t) :: r, ⟨h1, h2, h3, h4⟩ =>
    have h0 := h 0 hk
    rw [cov_cons] at h0
    have hs : s = 0 := by
      rcases h0 with h0 | ⟨p, hp, h5, h6⟩
      · exact Nat.le_zero.mp h0.1
      · have := (gap_mem h4 p hp).1
        omega
    refine ⟨(s, t), .head _, hs, ?_⟩
    rcases Nat.lt_or_ge t k with hlt | hge
    · have ht := h t hlt
      rw [cov_cons] at ht
      rcases ht with ht | ⟨p, hp, h5, h6⟩
      · exact absurd ht.2 (Nat.lt_irrefl _)
      · have := (gap_mem h4 p hp).1
        omega
    · exact hge
theorem hasR_iff {ps : List Pc} {z : Int} (hg : Gap 0 ps) (hz : 0 ≤ z) : hasR ps 0 z = true ↔ ∀ f : Nat, (f : Int) < z → Cov ps f := by
  unfold hasR
  rw [Bool.or_eq_true, decide_eq_true_iff, List.any_eq_true]
  constructor
  · rintro (h | ⟨p, hp, h⟩) f hf
    · omega
    · obtain ⟨h1, h2⟩ := Bool.and_eq_true_iff.mp h
      have h1 := of_decide_eq_true h1
      have h2 := of_decide_eq_true h2
      exact ⟨p, hp, by omega, by omega⟩
  · intro h
    by_cases h0 : z ≤ 0
    · exact .inl h0
    · obtain ⟨p, hp, h1, h2⟩ := one_piece (k := z.toNat) hg (by omega) fun f hf => h f (by omega)
      exact .inr ⟨p, hp, by rw [Bool.and_eq_true]; exact ⟨decide_eq_true (by omega), decide_eq_true (by omega)⟩⟩
structure Tells (σ : PSt) (ps : List Pc) (c : Nat) (s : SL) : Prop where
  c0 : c = 0
  rd0 : σ.rd = 0
  stop : σ.stop = none
  gap : Gap 0 ps
  size : σ.fin = s.size
  pos : ∀ a ∈ s.places, 0 ≤ a ∧ a < 8 ∧ a < σ.hi
  st : (s.state = "open" ∧ (σ.st = "recv" ∨ σ.st = "size_known") ∧ (∀ f : Nat, (f : Int) ∈ s.places ↔ Cov ps f)) ∨
    (s.state = "all" ∧ σ.st = "data_recvd" ∧ (∀ f : Nat, (f : Int) ∈ s.places ↔ Cov ps f) ∧ ∃ z, σ.fin = some z ∧ 0 ≤ z ∧ σ.hi ≤ z ∧ ∀ f : Nat, (f : Int) < z → (f : Int) ∈ s.places) ∨
    (s.state = "reset" ∧ σ.st = "reset_recvd")
theorem Tells.read {σ : PSt} {ps : List Pc} {c : Nat} {s : SL} (h : Tells σ ps c s) : ReadH σ ps s := by
  obtain ⟨rfl, hrd, hstop, hg, hsz, hpos, hst⟩ := h
  refine ⟨hstop, ?_⟩
  obtain ⟨k, tk⟩ := takeP_ok hg (Nat.zero_le 8)
  have h8 := tk.f8
  have hF : rdF ps 0 20 = (takeP ps 0).1 := if_neg (by omega)
  have base : ∀ (hc : ∀ f : Nat, (f : Int) ∈ s.places ↔ Cov ps f), (∀ i : Nat, i < (takeP ps 0).1 → s.places.any (· == (i : Int)) = true) ∧ s.places.any (· == (((takeP ps 0).1 : Nat) : Int)) = false := fun hc =>
    ⟨fun i hi => mem_any.mpr ((hc i).mpr (tk.cov i (Nat.zero_le _) hi)), any_not fun hm => tk.off ((hc _).mp hm)⟩
  rcases hst with ⟨h1, h2, hc⟩ | ⟨h1, h2, hc, z, hz, hz0, hhz, hall⟩ | h
  · exact .inr ⟨_, h8, (base hc).1, (base hc).2, hF, .inl ⟨h1, h2⟩⟩
  · refine .inr ⟨_, h8, (base hc).1, (base hc).2, hF, .inr ⟨h1, h2, ?_⟩⟩
    rw [hz]
    congr 1
    have l1 : ¬ (((takeP ps 0).1 : Nat) : Int) < z := fun q => tk.off ((hc _).mp (hall _ q))
    have l2 : ¬ z < (((takeP ps 0).1 : Nat) : Int) := fun q => by
      have q1 := (hc z.toNat).mpr (tk.cov z.toNat (Nat.zero_le _) (by omega))
      have q2 := (hpos _ q1).2.2
      omega
    omega
  · exact .inl h
end
-- part PlStep
section
example : True := by
  w_top off
  trivial
theorem slOf_snoc {ws : List Wd} {x : Wd} : slOf (ws ++ [x]) = slStep (slOf ws) x := by
  unfold slOf
  rw [List.foldl_append]
  rfl
theorem slSz_eq {s : SL} {σ : PSt} {x : Wd} (h : σ.fin = s.size) : slSz s x = finA σ x.e x.f := by
  unfold slSz finA
  rw [h]
theorem high_le {ws : List Wd} {x : Wd} (hx : 0 ≤ x.e) (hf : x.f = true) (hc : ∀ y ∈ ws, contra y x = false) : highR ws ≤ x.e := by
  rcases highR_in (ws := ws) with h | ⟨y, hy, h⟩
  · omega
  · have := hc y hy
    rw [h]
    cases hyf : y.f
    · rw [contra_nf hyf hf] at this
      have := of_decide_eq_false this
      omega
    · rw [contra_ff hyf hf] at this
      have : y.e = x.e := by simpa using this
      omega
theorem fin_le {ws : List Wd} {x : Wd} {z : Int} (hz : finR ws = some z) (hc : ∀ y ∈ ws, contra y x = false) : x.e ≤ z ∧ (x.f = true → x.e = z) := by
  obtain ⟨y, hy, hyf, rfl⟩ := finR_some hz
  have := hc y hy
  cases hxf : x.f
  · rw [contra_fn hyf hxf] at this
    have := of_decide_eq_false this
    exact ⟨by omega, fun h => nomatch h⟩
  · rw [contra_ff hyf hxf] at this
    have : y.e = x.e := by simpa using this
    exact ⟨by omega, fun _ => this.symm⟩
theorem high_le_fin {ws : List Wd} {z : Int} (hn : NoC ws) (hw : ∀ y ∈ ws, Wf y) (hz : finR ws = some z) : highR ws ≤ z := by
  obtain ⟨y, hy, hyf, rfl⟩ := finR_some hz
  rcases highR_in (ws := ws) with h | ⟨u, hu, h⟩
  · have := hw y hy
    have := this.b0
    have := (hw y hy).be
    omega
  · rw [h]
    have := hn y hy u hu
    cases huf : u.f
    · rw [contra_fn hyf huf] at this
      have := of_decide_eq_false this
      omega
    · rw [contra_ff hyf huf] at this
      have : y.e = u.e := by simpa using this
      omega
theorem Tells.step {σ : PSt} {ps : List Pc} {c : Nat} {ws : List Wd} {x : Wd} {pl' : Addr} {lim : Int} (hx : Wf x) (hw : ∀ y ∈ ws, Wf y) (hn : NoC ws) (hfin : σ.fin = finR ws) (hhi : σ.hi = highR ws) (h : Tells σ ps c (slOf ws)) (hd : dueC ws x lim = none) :
    Tells (tell σ ps c x pl') (tellPs σ ps c x) c (slOf (ws ++ [x])) := by
  obtain ⟨hc, _⟩ := due_none hd
  rw [slOf_snoc]
  generalize slOf ws = s at *
  obtain ⟨rfl, hrd, hstop, hg, hsz, hpos, hst⟩ := h
  have hsS : slSz s x = finA σ x.e x.f := slSz_eq hsz
  have hx0 : 0 ≤ x.e := Int.le_trans hx.b0 hx.be
  have hhi0 : 0 ≤ σ.hi := by rw [hhi]; exact highR_ge.1
  have hpos' : ∀ a ∈ s.places, 0 ≤ a ∧ a < 8 ∧ a < max σ.hi x.e := fun a ha => by
    have := hpos a ha
    omega
  have keepz : ∀ z, σ.fin = some z → σ.hi ≤ z → finA σ x.e x.f = some z ∧ max σ.hi x.e ≤ z := fun z hz hz2 => by
    have := fin_le (hfin ▸ hz : finR ws = some z) hc
    refine ⟨?_, by omega⟩
    unfold finA
    split
    · rename_i hf
      rw [this.2 hf]
    · exact hz
  rcases hxr : x.r with _ | _
  · -- octets
    have etell : tell σ ps 0 x pl' = ⟨σ.lim, strSt σ (strPs σ ps 0 x.b.toNat x.e.toNat) x.e x.f, pl', σ.rd, max σ.hi x.e, finA σ x.e x.f, σ.stop⟩ := by
      unfold tell
      rw [hxr]
      rfl
    have eps : tellPs σ ps 0 x = strPs σ ps 0 x.b.toNat x.e.toNat := by
      unfold tellPs
      rw [hxr]
      rfl
    rw [etell, eps]
    rcases hst with ⟨h1, h2, hcov⟩ | ⟨h1, h2, hcov, z, hz, hz0, hhz, hall⟩ | ⟨h1, h2⟩
    · have hop : Opn σ := h2
      have hcov' : ∀ f : Nat, (f : Int) ∈ slPl s x ↔ Cov (strPs σ ps 0 x.b.toNat x.e.toNat) f := fun f => by
        rw [mem_slPl]
        have hb := hx.b0
        unfold strPs
        by_cases h0 : 0 < x.e.toNat
        · rw [if_pos ⟨hop, hstop, h0⟩, add_cov hg, hcov f]
          have : (max x.b.toNat 0 ≤ f ∧ f < x.e.toNat) ↔ (x.b ≤ (f : Int) ∧ (f : Int) < x.e) := by
            constructor <;> (rintro ⟨q1, q2⟩; constructor <;> omega)
          rw [this]
        · rw [if_neg (fun q => h0 q.2.2), hcov f]
          constructor
          · rintro (q | q)
            · exact q
            · omega
          · exact .inl
      have hg' : Gap 0 (strPs σ ps 0 x.b.toNat x.e.toNat) := by
        unfold strPs
        split
        · exact add_gap hg (by have := hx.e8; omega)
        · exact hg
      have hplp : ∀ a ∈ slPl s x, 0 ≤ a ∧ a < 8 ∧ a < max σ.hi x.e := fun a ha => by
        rcases mem_slPl.mp ha with q | q
        · exact hpos' a q
        · have := hx.b0
          have := hx.e8
          omega
      have estep : slStep s x = ⟨slPl s x, finA σ x.e x.f, if slFull (slPl s x) (finA σ x.e x.f) then "all" else "open"⟩ := by
        unfold slStep
        rw [if_pos h1, hxr, hsS]
        rfl
      rw [estep]
      refine ⟨rfl, hrd, hstop, hg', rfl, hplp, ?_⟩
      dsimp only
      cases hfa : finA σ x.e x.f with
      | none =>
        have e1 : strSt σ (strPs σ ps 0 x.b.toNat x.e.toNat) x.e x.f = σ.st := by
          unfold strSt
          rw [if_pos hop, hfa]
        rw [e1]
        exact .inl ⟨rfl, h2, hcov'⟩
      | some z =>
        have hzz : 0 ≤ z ∧ max σ.hi x.e ≤ z := by
          unfold finA at hfa
          split at hfa
          · rename_i hf
            obtain rfl := Option.some.inj hfa
            have := high_le hx0 hf hc
            rw [← hhi] at this
            omega
          · have := fin_le (hfin ▸ hfa : finR ws = some z) hc
            have hle := high_le_fin hn hw (hfin ▸ hfa : finR ws = some z)
            omega
        have e1 : strSt σ (strPs σ ps 0 x.b.toNat x.e.toNat) x.e x.f = if hasR (strPs σ ps 0 x.b.toNat x.e.toNat) 0 z = true then "data_recvd" else "size_known" := by
          unfold strSt
          rw [if_pos hop, hfa]
          dsimp only
          rw [hstop, hrd]
          rfl
        rw [e1]
        by_cases hf : slFull (slPl s x) (some z) = true
        · have hall : ∀ f : Nat, (f : Int) < z → (f : Int) ∈ slPl s x := fun f hfz => (slFull_iff hzz.1).mp hf f (by omega) hfz
          have hh : hasR (strPs σ ps 0 x.b.toNat x.e.toNat) 0 z = true := (hasR_iff hg' hzz.1).mpr fun f hfz => (hcov' f).mp (hall f hfz)
          rw [if_pos hf, if_pos hh]
          exact .inr (.inl ⟨rfl, rfl, hcov', z, rfl, hzz.1, hzz.2, hall⟩)
        · have hh : ¬ hasR (strPs σ ps 0 x.b.toNat x.e.toNat) 0 z = true := fun q => hf ((slFull_iff hzz.1).mpr fun a h1 h2 => by
            have := (hcov' a.toNat).mpr ((hasR_iff hg' hzz.1).mp q a.toNat (by omega))
            rwa [show ((a.toNat : Nat) : Int) = a by omega] at this)
          rw [if_neg hf, if_neg hh]
          exact .inl ⟨rfl, .inr rfl, hcov'⟩
    · have hno : ¬ Opn σ := by unfold Opn; rw [h2]; decide
      have e1 : strPs σ ps 0 x.b.toNat x.e.toNat = ps := if_neg fun q => hno q.1
      have e2 : strSt σ ps x.e x.f = σ.st := if_neg hno
      have estep : slStep s x = ⟨s.places, finA σ x.e x.f, s.state⟩ := by
        unfold slStep
        rw [if_neg (by rw [h1]; decide), hsS]
      rw [e1, e2, estep]
      obtain ⟨k1, k2⟩ := keepz z hz hhz
      exact ⟨rfl, hrd, hstop, hg, rfl, hpos', .inr (.inl ⟨h1, h2, hcov, z, k1, hz0, k2, hall⟩)⟩
    · have hno : ¬ Opn σ := by unfold Opn; rw [h2]; decide
      have e1 : strPs σ ps 0 x.b.toNat x.e.toNat = ps := if_neg fun q => hno q.1
      have e2 : strSt σ ps x.e x.f = σ.st := if_neg hno
      have estep : slStep s x = ⟨s.places, finA σ x.e x.f, s.state⟩ := by
        unfold slStep
        rw [if_neg (by rw [h1]; decide), hsS]
      rw [e1, e2, estep]
      exact ⟨rfl, hrd, hstop, hg, rfl, hpos', .inr (.inr ⟨h1, h2⟩)⟩
  · -- a reset
    obtain ⟨hbe, hxf⟩ := hx.re hxr
    have efa : finA σ x.e x.f = some x.e := by unfold finA; rw [hxf]; rfl
    have etell : tell σ ps 0 x pl' = ⟨σ.lim, if OpnR σ then "reset_recvd" else σ.st, pl', σ.rd, max σ.hi x.e, some x.e, σ.stop⟩ := by
      unfold tell
      rw [hxr]
      rfl
    have eps : tellPs σ ps 0 x = if OpnR σ then [] else ps := by
      unfold tellPs
      rw [hxr]
      rfl
    rw [etell, eps]
    rcases hst with ⟨h1, h2, hcov⟩ | ⟨h1, h2, hcov, z, hz, hz0, hhz, hall⟩ | ⟨h1, h2⟩
    · have hop : OpnR σ := h2
      have estep : slStep s x = ⟨s.places, some x.e, "reset"⟩ := by
        unfold slStep
        rw [if_pos h1, hxr, hsS, efa]
        rfl
      rw [estep, if_pos hop, if_pos hop]
      exact ⟨rfl, hrd, hstop, trivial, rfl, hpos', .inr (.inr ⟨rfl, rfl⟩)⟩
    · have hno : ¬ OpnR σ := by unfold OpnR; rw [h2]; decide
      have estep : slStep s x = ⟨s.places, some x.e, s.state⟩ := by
        unfold slStep
        rw [if_neg (by rw [h1]; decide), hsS, efa]
      rw [estep, if_neg hno, if_neg hno]
      obtain ⟨k1, k2⟩ := keepz z hz hhz
      rw [efa] at k1
      exact ⟨rfl, hrd, hstop, hg, rfl, hpos', .inr (.inl ⟨h1, h2, hcov, z, k1, hz0, k2, hall⟩)⟩
    · have hno : ¬ OpnR σ := by unfold OpnR; rw [h2]; decide
      have estep : slStep s x = ⟨s.places, some x.e, s.state⟩ := by
        unfold slStep
        rw [if_neg (by rw [h1]; decide), hsS, efa]
      rw [estep, if_neg hno, if_neg hno]
      exact ⟨rfl, hrd, hstop, hg, rfl, hpos', .inr (.inr ⟨h1, h2⟩)⟩
end
-- part Hear2
section
example : True := by
  w_top off
  trivial
theorem zip_fs : ∀ zs : List (Value × Wd), (zs.map Prod.fst).zip (zs.map Prod.snd) = zs
  | [] => rfl
  | (a, b) :: r => by rw [List.map_cons, List.map_cons, List.zip_cons_cons, zip_fs r]
theorem fst_zip : ∀ {vs : List Value} {ws : List Wd}, vs.length = ws.length → (vs.zip ws).map Prod.fst = vs ∧ (vs.zip ws).map Prod.snd = ws
  | [], [], _ => ⟨rfl, rfl⟩
  | [], _ :: _, h => nomatch h
  | _ :: _, [], h => nomatch h
  | a :: r, b :: q, h => by
    obtain ⟨h1, h2⟩ := fst_zip (vs := r) (ws := q) (by simpa using h)
    rw [List.zip_cons_cons, List.map_cons, List.map_cons, h1, h2]
    exact ⟨rfl, rfl⟩
noncomputable def AllAt (n : Led) (zs : List (Value × Wd)) : Prop := ∀ z ∈ zs, WdAt n z.1 z.2
theorem AllAt.wds {n : Led} : ∀ {zs : List (Value × Wd)}, AllAt n zs → WdsAt n (zs.map Prod.fst) (zs.map Prod.snd)
  | [], _ => .nil
  | z :: r, h => .cons (h z (.head _)) (AllAt.wds fun y hy => h y (.tail _ hy))
theorem allAt_of {n : Led} : ∀ {vs : List Value} {ws : List Wd}, WdsAt n vs ws → AllAt n (vs.zip ws)
  | _, _, .nil => fun _ h => nomatch h
  | _, _, .cons a r => fun z hz => by
    rw [List.zip_cons_cons] at hz
    rcases List.mem_cons.mp hz with rfl | hz
    · exact a
    · exact allAt_of r z hz
theorem AllAt.mono {n n' : Led} {zs : List (Value × Wd)} (h : AllAt n zs) (hs : KeepND n n') : AllAt n' zs := fun z hz => (h z hz).keep hs
theorem gr_sub {lim : Int} : ∀ (zs acc : List (Value × Wd)), ∀ z ∈ zs.foldl (grStep lim) acc, z ∈ acc ∨ z ∈ zs
  | [], _, _, h => .inl h
  | y :: r, acc, z, h => by
    rw [List.foldl_cons] at h
    rcases gr_sub r _ z h with h | h
    · unfold grStep at h
      split at h
      · exact .inl h
      · rcases List.mem_append.mp h with h | h
        · exact .inl h
        · exact .inr (List.mem_singleton.mp h ▸ .head _)
    · exact .inr (.tail _ h)
theorem grL_sub {lim : Int} {zs : List (Value × Wd)} : ∀ z ∈ grL lim zs, z ∈ zs := fun z h => (gr_sub zs [] z h).elim (fun h => nomatch h) id
theorem gr_good {lim : Int} : ∀ (zs acc : List (Value × Wd)), NoC (acc.map Prod.snd) → (∀ z ∈ acc, z.2.e ≤ lim) → NoC ((zs.foldl (grStep lim) acc).map Prod.snd) ∧ (∀ z ∈ zs.foldl (grStep lim) acc, z.2.e ≤ lim) ∧ (zs.foldl (grStep lim) acc).length ≤ acc.length + zs.length
  | [], _, h1, h2 => ⟨h1, h2, Nat.le_refl _⟩
  | y :: r, acc, h1, h2 => by
    rw [List.foldl_cons]
    cases hd : dueC (acc.map Prod.snd) y.2 lim with
    | some k =>
      rw [gr_some hd]
      obtain ⟨a, b, c⟩ := gr_good r acc h1 h2
      exact ⟨a, b, by rw [List.length_cons]; omega⟩
    | none =>
      rw [gr_none hd]
      obtain ⟨a, b, c⟩ := gr_good r (acc ++ [y]) (by rw [List.map_append]; exact h1.snoc (due_none hd).1) (fun z hz => by
        rcases List.mem_append.mp hz with hz | hz
        · exact h2 z hz
        · rw [List.mem_singleton.mp hz]; exact (due_none hd).2)
      refine ⟨a, b, ?_⟩
      rw [List.length_append] at c
      rw [List.length_cons]
      simp only [List.length_cons, List.length_nil] at c
      omega
theorem gr_all {lim : Int} : ∀ (zs acc : List (Value × Wd)), NoC ((acc ++ zs).map Prod.snd) → (∀ z ∈ zs, z.2.e ≤ lim) → zs.foldl (grStep lim) acc = acc ++ zs
  | [], acc, _, _ => (List.append_nil acc).symm
  | y :: r, acc, h1, h2 => by
    rw [List.foldl_cons]
    have hd : dueC (acc.map Prod.snd) y.2 lim = none := due_is_none (fun u hu => h1 u (by rw [List.map_append]; exact List.mem_append_left _ hu) y.2 (by rw [List.map_append]; exact List.mem_append_right _ (.head _))) (h2 y (.head _))
    rw [gr_none hd, gr_all r (acc ++ [y]) (by rw [List.append_assoc]; exact h1) (fun z hz => h2 z (.tail _ hz)), List.append_assoc]
    rfl
-- the words taken, from behind, then all of them once more
noncomputable def again (tk : List (Value × Wd)) : List (Value × Wd) := tk.reverse ++ tk
theorem again_mem {tk : List (Value × Wd)} {z : Value × Wd} : z ∈ again tk ↔ z ∈ tk := by
  unfold again
  rw [List.mem_append, List.mem_reverse, or_self]
theorem again_mem2 {tk : List (Value × Wd)} {y : Wd} : y ∈ (again tk).map Prod.snd ↔ y ∈ tk.map Prod.snd := by
  rw [List.mem_map, List.mem_map]
  constructor
  · rintro ⟨z, hz, e⟩; exact ⟨z, again_mem.mp hz, e⟩
  · rintro ⟨z, hz, e⟩; exact ⟨z, again_mem.mpr hz, e⟩
theorem again_noC {tk : List (Value × Wd)} (h : NoC (tk.map Prod.snd)) : NoC ((again tk).map Prod.snd) := fun y hy z hz => h y (again_mem2.mp hy) z (again_mem2.mp hz)
theorem again_gr {lim : Int} {zs : List (Value × Wd)} : grL lim (again (grL lim zs)) = again (grL lim zs) := by
  obtain ⟨h1, h2, _⟩ := gr_good (lim := lim) zs [] (fun _ h => nomatch h) (fun _ h => nomatch h)
  have := gr_all (lim := lim) (again (grL lim zs)) [] (again_noC h1) (fun z hz => h2 z (again_mem.mp hz))
  exact this
theorem again_fin {tk : List (Value × Wd)} (h : NoC (tk.map Prod.snd)) : finR ((again tk).map Prod.snd) = finR (tk.map Prod.snd) := by
  cases hz : finR (tk.map Prod.snd) with
  | some z =>
    obtain ⟨y, hy, hf, rfl⟩ := finR_some hz
    exact finR_all (again_noC h) (again_mem2.mpr hy) hf
  | none =>
    cases hz2 : finR ((again tk).map Prod.snd) with
    | none => rfl
    | some z =>
      obtain ⟨y, hy, hf, rfl⟩ := finR_some hz2
      have := finR_none hz y (again_mem2.mp hy)
      rw [hf] at this
      cases this
theorem again_high {tk : List (Value × Wd)} : highR ((again tk).map Prod.snd) = highR (tk.map Prod.snd) := by
  have a := highR_ge (ws := (again tk).map Prod.snd)
  have b := highR_ge (ws := tk.map Prod.snd)
  rcases highR_in (ws := (again tk).map Prod.snd) with h | ⟨y, hy, h⟩
  · rcases highR_in (ws := tk.map Prod.snd) with k | ⟨u, hu, k⟩
    · rw [h, k]
    · have := a.2 u (again_mem2.mpr hu)
      have := b.1
      omega
  · have h1 := b.2 y (again_mem2.mp hy)
    rcases highR_in (ws := tk.map Prod.snd) with k | ⟨u, hu, k⟩
    · have := a.1
      omega
    · have := a.2 u (again_mem2.mpr hu)
      omega
noncomputable def TellsZ (σ : PSt) (ps : List Pc) (c : Nat) (tk : List Wd) : Prop := Tells σ ps c (slOf tk)
theorem hears_alone {w : World} {news : Led} {g : Obj → Led} {x dx pl : Addr} {o : Obj} {wl ml : Addr} {wn mn pn : Nat} {zs : List (Value × Wd)} {lim : Int} {u1 : Tok}
    (Up : UpdF dx o news g) (hx : (x, instObj 154 dx) ∈ news) (hP : PartAt w ⟨lim, "recv", pl, 0, 0, none, none⟩ o) (hpl : (pl, listOf #[] pn) ∈ news)
    (hwl : (wl, listOf (zs.map Prod.fst).toArray wn) ∈ news) (hws : AllAt news zs) (hlen : zs.length ≤ 20) (hwf : ∀ z ∈ zs, Wf z.2) (hml : (ml, listOf #[] mn) ∈ news) :
    FnS w 213 [.ref x, .ref wl, .int lim u1, .ref ml] news 200 3000 (fun r n => ∃ o' new, n = new ++ g o' ∧ Fresh new news ∧ KeepND news n ∧ HearsIs w TellsZ lim (grL lim zs) r o' n) := by
  have h := hears_ok (w := w) (u1 := u1) (ws := zs.map Prod.snd) (ms := []) (mvs := []) TellsZ Up hx (σ := ⟨lim, "recv", pl, 0, 0, none, none⟩) (ps := []) (c := 0) ⟨hP, ⟨[], pn, hpl, .nil⟩, trivial, rfl, Nat.zero_le _, .inl rfl⟩ rfl rfl rfl
    ⟨rfl, rfl, rfl, trivial, rfl, (fun _ h => nomatch h), .inl ⟨rfl, .inl rfl, fun f => ⟨(fun h => nomatch h), fun h => absurd h cov_nil⟩⟩⟩
    (fun σ ps c tk x pl' hx hw hl hf hh hn hT hd => Tells.step hx hw hn hf hh hT hd) (.inl rfl) hwl hws.wds (by rw [List.length_map]; exact hlen) (fun y hy => by
      obtain ⟨z, hz, rfl⟩ := List.mem_map.mp hy
      exact hwf z hz) hml .nil (fun _ h => nomatch h) (Nat.zero_le _)
  rw [zip_fs] at h
  exact h
theorem hears_moved {w : World} {news : Led} {g : Obj → Led} {x dx pl : Addr} {o : Obj} {wl ml : Addr} {wn mn pn : Nat} {zs : List (Value × Wd)} {mvs : List Value} {ms : List Int} {lim : Int} {u1 : Tok}
    (Up : UpdF dx o news g) (hx : (x, instObj 154 dx) ∈ news) (hP : PartAt w ⟨lim, "recv", pl, 0, 0, none, none⟩ o) (hpl : (pl, listOf #[] pn) ∈ news)
    (hwl : (wl, listOf (zs.map Prod.fst).toArray wn) ∈ news) (hws : AllAt news zs) (hlen : zs.length ≤ 20) (hwf : ∀ z ∈ zs, Wf z.2) (hml : (ml, listOf mvs.toArray mn) ∈ news) (hms : IntsAre mvs ms) (hm0 : ∀ m ∈ ms, 0 ≤ m) (hmn : ms.length ≤ 20) :
    FnS w 213 [.ref x, .ref wl, .int lim u1, .ref ml] news 200 3000 (fun r n => ∃ o' new, n = new ++ g o' ∧ Fresh new news ∧ KeepND news n ∧ HearsIs w (fun _ _ _ _ => True) lim (grL lim zs) r o' n) := by
  have h := hears_ok (w := w) (u1 := u1) (ws := zs.map Prod.snd) (fun _ _ _ _ => True) Up hx (σ := ⟨lim, "recv", pl, 0, 0, none, none⟩) (ps := []) (c := 0) ⟨hP, ⟨[], pn, hpl, .nil⟩, trivial, rfl, Nat.zero_le _, .inl rfl⟩ rfl rfl rfl
    trivial (fun _ _ _ _ _ _ _ _ _ _ _ _ _ _ => trivial) (.inr fun _ _ _ _ => trivial) hwl hws.wds (by rw [List.length_map]; exact hlen) (fun y hy => by
      obtain ⟨z, hz, rfl⟩ := List.mem_map.mp hy
      exact hwf z hz) hml hms hm0 hmn
  rw [zip_fs] at h
  exact h
section
variable {h₀ h : Heap} {L : Addr} {n : Led}
theorem uniq {a : Addr} {o o' : Obj} (N : News h₀ L h n) (h1 : (a, o) ∈ n) (h2 : (a, o') ∈ n) : o = o' := Option.some.inj ((N _ h1).1.symm.trans (N _ h2).1)
theorem one_split {d : Addr} {o : Obj} (N : News h₀ L h n) (h1 : (d, o) ∈ n) : ∃ R, News h₀ L h ((d, o) :: R) ∧ (∀ p ∈ n, p.1 ≠ d → p ∈ R) ∧ (∀ p ∈ R, p.1 ≠ d) := by
  refine ⟨n.filter (fun p => decide (p.1 ≠ d)), fun p hp => ?_, fun p hp hne => List.mem_filter.mpr ⟨hp, decide_eq_true hne⟩, fun p hp => of_decide_eq_true (List.mem_filter.mp hp).2⟩
  rcases List.mem_cons.mp hp with rfl | hp
  · exact N _ h1
  · exact N _ (List.mem_filter.mp hp).1
theorem two_split {d e : Addr} {o u : Obj} (N : News h₀ L h n) (h1 : (d, o) ∈ n) (h2 : (e, u) ∈ n) (c1 : o.cls = .type "dict") (c2 : u.cls = .type "dict") (hde : d ≠ e) :
    ∃ R, News h₀ L h ((d, o) :: (e, u) :: R) ∧ KeepND n R ∧ (∀ p ∈ R, p.1 ≠ d) ∧ (∀ p ∈ R, p.1 ≠ e) := by
  refine ⟨n.filter (fun p => decide (p.1 ≠ d ∧ p.1 ≠ e)), fun p hp => ?_, fun p hp hc => List.mem_filter.mpr ⟨hp, decide_eq_true ⟨fun q => ?_, fun q => ?_⟩⟩, fun p hp => (of_decide_eq_true (List.mem_filter.mp hp).2).1, fun p hp => (of_decide_eq_true (List.mem_filter.mp hp).2).2⟩
  · rcases List.mem_cons.mp hp with rfl | hp
    · exact N _ h1
    · rcases List.mem_cons.mp hp with rfl | hp
      · exact N _ h2
      · exact N _ (List.mem_filter.mp hp).1
  · obtain ⟨a, oa⟩ := p
    obtain rfl : a = d := q
    rw [uniq N hp h1] at hc
    exact hc c1
  · obtain ⟨a, oa⟩ := p
    obtain rfl : a = e := q
    rw [uniq N hp h2] at hc
    exact hc c2
end
theorem Ok.keepN {w : World} {n n' : Led} {σ : PSt} {ps : List Pc} {c : Nat} {o : Obj} (h : Ok w n σ ps c o) (hk : KeepND n n') : Ok w n' σ ps c o := ⟨h.part, h.pcs.keep hk, h.gap, h.rd, h.c8, h.st⟩
theorem KeepND.cons2 {n R : Led} {a b : Addr × Obj} (h : KeepND n R) : KeepND n (a :: b :: R) := fun p hp hc => .tail _ (.tail _ (h p hp hc))
end
end
-- part Law
section
example : True := by
  w_top off
  trivial
local macro_rules | `(tactic| k_qdec) => `(tactic| decide +kernel)
local macro_rules | `(tactic| walk_at "call ref") => `(tactic| (k_here; refine Stop.mk ?_))
local macro_rules | `(tactic| walk_at "compareOp NotEq ref ref") => `(tactic| (k_here; refine Stop.mk ?_))
theorem nd_inst {d : Addr} : (instObj 154 d).cls ≠ .type "dict" := show Value.ref 154 ≠ .type "dict" by decide
theorem nd_list {vs : Array Value} {n : Nat} : (listOf vs n).cls ≠ .type "dict" := show Value.type "list" ≠ .type "dict" by decide
local macro_rules | `(tactic| walk_at "MY len") => `(tactic| assumption)
local macro_rules | `(tactic| walk_at "subscriptTail Name Slice ref ref") => `(tactic| (k_here; (with_reducible show wpAny _ _ (subscriptTail _ (PySem.Expr.Slice none none (some _) _) (Value.ref _) (Value.ref _)) _ _ _); k_dflt (refine' krv_lit ?F ?N ?l ?k ?e ?_ ?s ?t ?z; (case F => k_asm); (case N => k_asm); (case l => exact News.isList (by k_asm) (by k_mem)); (case k => exact IsPart.int _ _); (case e => exact rfl); (case s => with_unfolding_all rfl); (case t => kmk_pure); (case z => assumption)); intro D' h' F' N' l1; (try k_lt l1); (try k_sweep)))
theorem off3_obj {I C D b : Addr} {o o' : Obj} {A R : Led} (h : LCg.Off3 I C D (A ++ (b, o) :: R)) : LCg.Off3 I C D (A ++ (b, o') :: R) := LCg.Off3.of fun p hp => by
  rcases List.mem_append.mp hp with hp | hp
  · exact h.mem p (List.mem_append_left _ hp)
  · rcases List.mem_cons.mp hp with rfl | hp
    · exact h.mem (b, o) (List.mem_append_right _ (.head _))
    · exact h.mem p (List.mem_append_right _ (.tail _ hp))
theorem hC44 {n m : Nat} (h : n = min 44 m) : n ≤ 44 := by omega
set_option maxHeartbeats 8000000 in
theorem law_holds : PySem.Challenge.rw_tk0094_01.Holds := by
  refine Mine.hd ?_
  k_go0
  all_goals try k_fold
  (rename Shared => s1)
  k_steps
  rename_i Da wv h3a hIw hCw hLw la Db cb h2a lb bx h1a lc hh oc FF NN dd _
  have hDb : Db ≠ bx := Nat.ne_of_lt lc.1
  refine Stop.to ?_
  k_dflt (refine' Fn.use ?Bz32 ?Fz32 ?Xz32 ?Nz32 ?Tz32 ?Kz32 (take_ok (vs := wv) ?h1z32 ?h2z32 ?h3z32 ?h4z32 ?h5z32 ?h6z32 ?h7z32 ?h8z32 ?h9z32) ?dz32 ?uz32 ?_; (case Bz32 => k_asm); (case Fz32 => k_asm); (case Xz32 => k_asm); (case Nz32 => k_asm); (case Tz32 => k_asm); (case Kz32 => exact rfl); (case h1z32 => k_updF); (case h2z32 => k_mem); (case h3z32 => exact hDb); (case h4z32 => exact hIw); (case h5z32 => exact hC44 hCw); (case h6z32 => decide); (case h7z32 => decide); (case h8z32 => decide); (case h9z32 => decide); (case dz32 => ktr_room); (case uz32 => ktr_units); k_whole)
  rintro r m8 h8 tk8 F8 N8 hp55g
  refine goalAside fun Xg kg => ?_
  obtain ⟨o8, new8, rfl, hf8, rfl, v1, tv1, tk1', c8, rfl, hv10, hv11, rfl⟩ := hp55g
  refine kg ?_
  clear kg Xg
  dsimp only [List.nil_append] at N8
  k_steps
  refine Stop.to ?_
  k_dflt (refine' Fn.use ?Bz33 ?Fz33 ?Xz33 ?Nz33 ?Tz33 ?Kz33 (take_ok (vs := wv) ?h1z33 ?h2z33 ?h3z33 ?h4z33 ?h5z33 ?h6z33 ?h7z33 ?h8z33 ?h9z33) ?dz33 ?uz33 ?_; (case Bz33 => k_asm); (case Fz33 => k_asm); (case Xz33 => k_asm); (case Nz33 => k_asm); (case Tz33 => k_asm); (case Kz33 => exact rfl); (case h1z33 => k_updF); (case h2z33 => k_mem); (case h3z33 => exact hDb); (case h4z33 => exact hIw); (case h5z33 => exact hC44 hCw); (case h6z33 => omega); (case h7z33 => omega); (case h8z33 => decide); (case h9z33 => decide); (case dz33 => ktr_room); (case uz33 => ktr_units); k_whole)
  rintro r m7 h7 tk7 F7 N7 hp56g
  refine goalAside fun Xg kg => ?_
  obtain ⟨o7, new7, rfl, hf7, rfl, v2, tv2, tk2', c7, rfl, hv20, hv21, rfl⟩ := hp56g
  refine kg ?_
  clear kg Xg
  dsimp only [List.nil_append] at N7
  k_steps
  obtain ⟨n5, hn5⟩ := Int.eq_ofNat_of_zero_le (show 0 ≤ 5 + v2 by omega)
  rw [hn5]
  refine Stop.to ?_
  k_dflt (refine' Fn.use ?Bz34 ?Fz34 ?Xz34 ?Nz34 ?Tz34 ?Kz34 (words_ok (n := n5) (vs := wv) ?h1z34 ?h2z34 ?h3z34 ?h4z34 ?h5z34 ?h6z34 ?h7z34 ?h8z34) ?dz34 ?uz34 ?_; (case Bz34 => k_asm); (case Fz34 => k_asm); (case Xz34 => k_asm); (case Nz34 => k_asm); (case Tz34 => k_asm); (case Kz34 => exact rfl); (case h1z34 => k_updF); (case h2z34 => k_mem); (case h3z34 => exact hDb); (case h4z34 => exact hIw); (case h5z34 => exact hC44 hCw); (case h6z34 => omega); (case h7z34 => omega); (case h8z34 => omega); (case dz34 => ktr_room); (case uz34 => ktr_units); k_whole)
  rintro r m6 h6 tk6 F6 N6 hp57g
  refine goalAside fun Xg kg => ?_
  obtain ⟨o6, new6, rfl, hf6, ⟨k6, tk6', c6, hk60, hk61, rfl⟩, wl, wn, wvs, ws, rfl, hwl, hwds, hwlen, hwwf⟩ := hp57g
  refine kg ?_
  clear kg Xg
  k_steps
  (refine Stop.to ?_; k_dflt (refine LCg.Assign_ListComp_U (F₀ := by k_asm) (by rfl) (by with_unfolding_all rfl) (by with_unfolding_all rfl) (by decide) (by rfl) (by decide) (by rfl) (by rfl) (by rfl) ?_))
  k_steps
  have hwvl : wvs.length = ws.length := hwds.length
  refine LCg.CompSrc.ledger rfl (by k_asm) (by k_asm) (List.mem_append_left _ hwl) (by rw [List.size_toArray]; exact Nat.le_trans (by omega : wvs.length ≤ 8) (by decide)) ?_
  intro gg
  rw [List.size_toArray]
  refine compU_run (fun i ys nx => ∃ k' t' c' ms, nx = new6 ++ [(bx, listOf #[.ref Db, .int k' t'] c'), (Db, listOf wv.toArray cb), (Da, listOf wv.toArray 0), (s1.heap.objs.size + 1, oc)] ∧ 0 ≤ k' ∧ k' < 40 + (i : Int) ∧ IntsAre ys ms ∧ ms.length = i ∧ ∀ m ∈ ms, 0 ≤ m) wvs.length ?_ ?_ _ _ _ _ (Nat.zero_add _) ⟨_, _, _, [], rfl, hk60, by omega, .nil, rfl, fun _ h => nomatch h⟩
  · rintro i ys nx v I oI C oC D9 m₂ h9 tk9 E' hi hp58g hv hC hx F9 N9 off ne
    refine goalAside fun Xg kg => ?_
    obtain ⟨k', t', c', ms, rfl, hk0, hk1, hI, hmsl, hm0⟩ := hp58g
    refine kg ?_
    clear kg Xg
    have hb := off.mem (bx, _) (List.mem_append_right _ (.head _))
    have hbI : @Ne Nat bx I := hb.1
    have hbC : @Ne Nat bx C := hb.2.1
    have hbD : @Ne Nat bx D9 := hb.2.2
    k_steps
    refine Stop.to ?_
    k_dflt (refine' Fn.use ?Bz35 ?Fz35 ?Xz35 ?Nz35 ?Tz35 ?Kz35 (take_ok (vs := wv) ?h1z35 ?h2z35 ?h3z35 ?h4z35 ?h5z35 ?h6z35 ?h7z35 ?h8z35 ?h9z35) ?dz35 ?uz35 ?_; (case Bz35 => k_asm); (case Fz35 => k_asm); (case Xz35 => k_asm); (case Nz35 => k_asm); (case Tz35 => k_asm); (case Kz35 => exact rfl); (case h1z35 => k_updF); (case h2z35 => k_mem); (case h3z35 => exact hDb); (case h4z35 => exact hIw); (case h5z35 => exact hC44 hCw); (case h6z35 => omega); (case h7z35 => omega); (case h8z35 => decide); (case h9z35 => decide); (case dz35 => ktr_room); (case uz35 => ktr_units); k_whole)
    rintro r m5 h5 tk5 F5 N5 hp59g
    refine goalAside fun Xg kg => ?_
    obtain ⟨o5, new5, rfl, hf5, rfl, v3, tv3, tk3', c5, rfl, hv30, hv31, rfl⟩ := hp59g
    refine kg ?_
    clear kg Xg
    dsimp only [List.nil_append] at N5
    k_steps
    refine compEnd_same (by k_asm) (by k_asm) (off3_obj off) (.inr ⟨_, List.mem_append_left _ hwl, rfl, _, rfl⟩) ⟨k' + 1, _, _, ms ++ [v3], rfl, by omega, by omega, hI.append (.cons _ _ .nil), by rw [List.length_append, hmsl]; rfl, fun m hm => ?_⟩
    rcases List.mem_append.mp hm with hm | hm
    · exact hm0 m hm
    · rw [List.mem_singleton.mp hm]; exact hv30
  · rintro ys nx hp60g
    refine goalAside fun Xg kg => ?_
    obtain ⟨k', t', c', ms, rfl, hk0, hk1, hI, hmsl, hm0⟩ := hp60g
    refine kg ?_
    clear kg Xg
    k_steps
    rename_i Dm hMm tkm Fm Nm om
    obtain ⟨LB, NB, hwlB, hwsB, hmvB⟩ : ∃ LB : Led, News _ _ _ LB ∧ (wl, listOf wvs.toArray wn) ∈ LB ∧ AllAt LB (wvs.zip ws) ∧ (Dm, LCg.lst ys) ∈ LB := ⟨_, Nm, .tail _ (List.mem_append_left _ hwl), allAt_of (hwds.mono (fun p hp => .tail _ (List.mem_append_left _ hp))), .head _⟩
    clear Nm
    have hzw : ∀ z ∈ wvs.zip ws, Wf z.2 := fun z hz => hwwf _ (List.of_mem_zip hz).2
    have hzl : (wvs.zip ws).length ≤ 8 := by rw [List.length_zip]; omega
    have hzl20 : (wvs.zip ws).length ≤ 20 := Nat.le_trans hzl (by decide)
    have hms20 : ms.length ≤ 20 := by rw [hmsl]; omega
    rw [← (fst_zip hwvl).1] at hwlB
    generalize wvs.zip ws = zs at *
    refine Stop.to ?_
    k_dflt (refine' Fn.use ?Bz36 ?Fz36 ?Xz36 ?Nz36 ?Tz36 ?Kz36 (part_make (lim := 5 + v1)) ?dz36 ?uz36 ?_; (case Bz36 => k_asm); (case Fz36 => k_asm); (case Xz36 => k_asm); (case Nz36 => k_asm); (case Tz36 => k_asm); (case Kz36 => exact rfl); (case dz36 => ktr_room); (case uz36 => ktr_units); k_whole)
    rintro r n h5 tk5 F5 N5 hp61g
    refine goalAside fun Xg kg => ?_
    obtain ⟨x1, dx1, pl1, o1, cc1, rfl, rfl, hlt1, hd1, hx1, hP1⟩ := hp61g
    refine kg ?_
    clear kg Xg
    k_steps
    refine Stop.to ?_
    k_dflt (refine' Fn.use ?Bz37 ?Fz37 ?Xz37 ?Nz37 ?Tz37 ?Kz37 (part_make (lim := 5 + v1)) ?dz37 ?uz37 ?_; (case Bz37 => k_asm); (case Fz37 => k_asm); (case Xz37 => k_asm); (case Nz37 => k_asm); (case Tz37 => k_asm); (case Kz37 => exact rfl); (case dz37 => ktr_room); (case uz37 => ktr_units); k_whole)
    rintro r n h4 tk4 F4 N4 hp62g
    refine goalAside fun Xg kg => ?_
    obtain ⟨x2, dx2, pl2, o2, cc2, rfl, rfl, hlt2, hd2, hx2, hP2⟩ := hp62g
    refine kg ?_
    clear kg Xg
    have hd12 : @Ne Nat dx1 dx2 := Nat.ne_of_lt (hlt2 (dx1, o1) (.head _)).1
    refine goalAside fun Xg kg => ?_
    obtain ⟨R, NR, hkR, hR1, hR2⟩ := two_split N4 (List.mem_append_right _ (.head _)) (.head _) hP1.dict hP2.dict hd12
    refine kg ?_
    clear kg Xg
    have mx1 : (x1, instObj 154 dx1) ∈ R := hkR _ (List.mem_append_right _ (.tail _ (.head _))) nd_inst
    have mp1 : (pl1, listOf #[] cc1) ∈ R := hkR _ (List.mem_append_right _ (.tail _ (.tail _ (.head _)))) nd_list
    have mx2 : (x2, instObj 154 dx2) ∈ R := hkR _ (.tail _ (.head _)) nd_inst
    have mp2 : (pl2, listOf #[] cc2) ∈ R := hkR _ (.tail _ (.tail _ (.head _))) nd_list
    have mwl : (wl, listOf (zs.map Prod.fst).toArray wn) ∈ R := hkR _ (List.mem_append_right _ (List.mem_append_right _ hwlB)) nd_list
    have mmv : (Dm, LCg.lst ys) ∈ R := hkR _ (List.mem_append_right _ (List.mem_append_right _ hmvB)) nd_list
    have mws : AllAt R zs := hwsB.mono (fun p hp hc => hkR _ (List.mem_append_right _ (List.mem_append_right _ hp)) hc)
    clear N4 N5 F5 NB
    k_steps
    refine Stop.to ?_
    k_dflt (refine' FnS.use0 ?Bz38 ?Fz38 ?Xz38 ?Nz38 ?Tz38 ?XBz38 ?TBz38 ?Kz38 (hears_alone (dx := dx1) (zs := zs) (lim := 5 + v1) (pl := pl1) (pn := cc1) (o := o1) ?h1z38 ?h2z38 ?h3z38 ?h4z38 ?h5z38 ?h6z38 ?h7z38 ?h8z38 ?h9z38) ?dz38 ?uz38 ?_; (case Bz38 => k_asm); (case Fz38 => k_asm); (case Xz38 => k_asm); (case Nz38 => k_asm); (case Tz38 => k_asm); (case Kz38 => exact rfl); (case XBz38 => k_asm); (case TBz38 => k_asm); (case h1z38 => k_updF); (case h2z38 => k_mem); (case h3z38 => exact hP1); (case h4z38 => k_mem); (case h5z38 => k_mem); (case h6z38 => exact mws.mono (by (intro p hp hc; k_mem))); (case h7z38 => exact hzl20); (case h8z38 => exact hzw); (case h9z38 => k_mem); (case dz38 => ktr_room); (case uz38 => ktr_units); k_whole)
    rintro r n h3 tk3 F3 N3 hp63g
    refine goalAside fun Xg kg => ?_
    obtain ⟨o3, new3, rfl, hf3, hk3, σ3, ps3, c3, tl3, tn3, rfl, htl3, hO3, hlim3, hfin3, hhi3, hT3⟩ := hp63g
    refine kg ?_
    clear kg Xg
    have hgood := gr_good (lim := 5 + v1) zs [] (fun _ h => nomatch h) (fun _ h => nomatch h)
    have hgsub := grL_sub (lim := 5 + v1) (zs := zs)
    have hggr := again_gr (lim := 5 + v1) (zs := zs)
    change NoC ((grL (5 + v1) zs).map Prod.snd) ∧ (∀ z ∈ grL (5 + v1) zs, z.2.e ≤ 5 + v1) ∧ (grL (5 + v1) zs).length ≤ 0 + zs.length at hgood
    generalize hgz : grL (5 + v1) zs = tz at *
    obtain ⟨hnc, _, htkl⟩ := hgood
    have htw : AllAt R tz := fun z hz => mws z (hgsub z hz)
    have htwf : ∀ z ∈ tz, Wf z.2 := fun z hz => hzw z (hgsub z hz)
    refine goalAside fun Xg kg => ?_
    obtain ⟨R3, NR3, hkR3, hR31, hR32⟩ := two_split (d := dx1) (e := dx2) (o := o3) (u := o2) N3 (by k_mem) (by k_mem) hO3.part.dict hP2.dict hd12
    refine kg ?_
    clear kg Xg
    replace mx1 := hkR3 _ (by k_mem : (x1, instObj 154 dx1) ∈ _) nd_inst
    replace mx2 := hkR3 _ (by k_mem : (x2, instObj 154 dx2) ∈ _) nd_inst
    replace mp2 := hkR3 _ (by k_mem : (pl2, listOf #[] cc2) ∈ _) nd_list
    replace mwl := hkR3 _ (by k_mem : (wl, listOf (zs.map Prod.fst).toArray wn) ∈ _) nd_list
    replace mmv := hkR3 _ (by k_mem : (Dm, LCg.lst ys) ∈ _) nd_list
    replace htl3 := hkR3 _ htl3 nd_list
    replace hO3 := hO3.keepN hkR3
    replace mws := mws.mono (n' := R3) (fun p hp hc => hkR3 p (by k_mem) hc)
    replace htw := htw.mono (n' := R3) (fun p hp hc => hkR3 p (by k_mem) hc)
    clear N3 hkR hkR3
    k_steps
    refine Stop.to ?_
    k_dflt (refine' Fn.use ?Bz39 ?Fz39 ?Xz39 ?Nz39 ?Tz39 ?Kz39 (part_make (lim := 5 + v1)) ?dz39 ?uz39 ?_; (case Bz39 => k_asm); (case Fz39 => k_asm); (case Xz39 => k_asm); (case Nz39 => k_asm); (case Tz39 => k_asm); (case Kz39 => exact rfl); (case dz39 => ktr_room); (case uz39 => ktr_units); k_whole)
    rintro r n h2 tk2 F2 N2 hp64g
    refine goalAside fun Xg kg => ?_
    obtain ⟨x3, dx3, pl3, o4, cc3, rfl, rfl, hlt3, hd3, hx3, hP3⟩ := hp64g
    refine kg ?_
    clear kg Xg
    refine goalAside fun Xg kg => ?_
    obtain ⟨R4, NR4, hkR4, hR43⟩ := one_split (d := dx3) (o := o4) N2 (.head _)
    refine kg ?_
    clear kg Xg
    have mdx1 : (dx1, o3) ∈ R4 := hkR4 _ (by k_mem) (Nat.ne_of_lt (hlt3 (dx1, o3) (by k_mem)).1)
    have mdx2 : (dx2, o2) ∈ R4 := hkR4 _ (by k_mem) (Nat.ne_of_lt (hlt3 (dx2, o2) (by k_mem)).1)
    have mx3 : (x3, instObj 154 dx3) ∈ R4 := hkR4 _ (by k_mem) (Nat.ne_of_gt hd3)
    have mp3 : (pl3, listOf #[] cc3) ∈ R4 := hkR4 _ (by k_mem) (Nat.ne_of_gt (Nat.lt_trans hd3 hx3))
    have sub4 : ∀ p ∈ R3, p ∈ R4 := fun p hp => hkR4 p (by k_mem) (Nat.ne_of_lt (hlt3 p (by k_mem)).1)
    clear N2
    k_steps
    refine Stop.to ?_
    k_dflt (refine' FnS.use0 ?Bz40 ?Fz40 ?Xz40 ?Nz40 ?Tz40 ?XBz40 ?TBz40 ?Kz40 (hears_moved (dx := dx3) (zs := zs) (ms := ms) (mvs := ys) (mn := ys.length) (lim := 5 + v1) (pl := pl3) (pn := cc3) (o := o4) ?h1z40 ?h2z40 ?h3z40 ?h4z40 ?h5z40 ?h6z40 ?h7z40 ?h8z40 ?h9z40 ?h10z40 ?h11z40 ?h12z40) ?dz40 ?uz40 ?_; (case Bz40 => k_asm); (case Fz40 => k_asm); (case Xz40 => k_asm); (case Nz40 => k_asm); (case Tz40 => k_asm); (case Kz40 => exact rfl); (case XBz40 => k_asm); (case TBz40 => k_asm); (case h1z40 => exact UpdF.head hR43); (case h2z40 => exact .tail _ mx3); (case h3z40 => exact hP3); (case h4z40 => exact .tail _ mp3); (case h5z40 => exact .tail _ (sub4 _ mwl)); (case h6z40 => exact mws.mono (fun p hp hc => .tail _ (sub4 p hp))); (case h7z40 => exact hzl20); (case h8z40 => exact hzw); (case h9z40 => exact .tail _ (sub4 _ mmv)); (case h10z40 => exact hI); (case h11z40 => exact hm0); (case h12z40 => exact hms20); (case dz40 => ktr_room); (case uz40 => ktr_units); k_whole)
    rintro r n h1b tk1 F1b N1b hp65g
    refine goalAside fun Xg kg => ?_
    obtain ⟨o5, new5, rfl, hf5, hk5, σ5, ps5, c5', tl5, tn5, rfl, htl5, hrest5⟩ := hp65g
    refine kg ?_
    clear kg Xg
    clear hrest5
    rw [hgz] at htl5
    refine goalAside fun Xg kg => ?_
    obtain ⟨R6, NR6, hkR6, hR61, hR62⟩ := two_split (d := dx1) (e := dx2) (o := o3) (u := o2) N1b (List.mem_append_right _ (.tail _ mdx1)) (List.mem_append_right _ (.tail _ mdx2)) hO3.part.dict hP2.dict hd12
    refine kg ?_
    clear kg Xg
    have hk36 : KeepND R3 R6 := fun p hp hc => hkR6 p (List.mem_append_right _ (.tail _ (sub4 p hp))) hc
    replace mx1 := hk36 _ mx1 nd_inst
    replace mx2 := hk36 _ mx2 nd_inst
    replace mp2 := hk36 _ mp2 nd_list
    replace htl3 := hk36 _ htl3 nd_list
    replace htl5 := hkR6 _ htl5 nd_list
    replace hO3 := hO3.keepN hk36
    replace htw := htw.mono hk36
    clear N1b
    k_steps
    refine Stop.to ?_
    k_dflt (refine ne_wds (vs := tz.map Prod.fst) (ws := tz.map Prod.snd) (n₁ := R6) (by k_asm) (.tail _ (.tail _ htl5)) (.tail _ (.tail _ htl3)) htw.wds (fun p hp => .tail _ (.tail _ hp)) (by units_room) ?_)
    have htz8 : tz.length ≤ 8 := by omega
    have hszA : (tz.map Prod.fst).toArray.size ≤ sizeLine := by rw [List.size_toArray, List.length_map]; exact Nat.le_trans htz8 (by decide)
    have hlenA : (tz.map Prod.fst).toArray.toList.reverse.length ≤ 1000 := by rw [List.length_reverse]; exact (by rw [show (tz.map Prod.fst).toArray.toList = tz.map Prod.fst from rfl, List.length_map]; omega)
    have hlenB : (tz.map Prod.fst).length ≤ 1000 := by rw [List.length_map]; omega
    have hag : (again tz).map Prod.fst = (tz.map Prod.fst).toArray.toList.reverse ++ tz.map Prod.fst := by
      show (tz.reverse ++ tz).map Prod.fst = (tz.map Prod.fst).reverse ++ tz.map Prod.fst
      rw [List.map_append, List.map_reverse]
    have hagl : (again tz).length ≤ 20 := by
      show (tz.reverse ++ tz).length ≤ 20
      rw [List.length_append, List.length_reverse]; omega
    have hl1 : (tz.map Prod.snd).length ≤ 40 := by rw [List.length_map]; omega
    have hl2 : ((again tz).map Prod.snd).length ≤ 40 := by rw [List.length_map]; omega
    have hw1 : ∀ y ∈ tz.map Prod.snd, Wf y := fun y hy => by
      obtain ⟨z, hz, rfl⟩ := List.mem_map.mp hy
      exact htwf z hz
    have hw2 : ∀ y ∈ (again tz).map Prod.snd, Wf y := fun y hy => hw1 y (again_mem2.mp hy)
    have htwa : AllAt R6 (again tz) := fun z hz => htw z (again_mem.mp hz)
    have htwfa : ∀ z ∈ again tz, Wf z.2 := fun z hz => htwf z (again_mem.mp hz)
    k_steps
    (rename News _ _ _ _ => Nq)
    rw [← hag] at Nq
    refine Stop.to ?_
    k_dflt (refine' FnS.use0 ?Bz41 ?Fz41 ?Xz41 ?Nz41 ?Tz41 ?XBz41 ?TBz41 ?Kz41 (hears_alone (dx := dx2) (zs := again tz) (lim := 5 + v1) (pl := pl2) (pn := cc2) (o := o2) ?h1z41 ?h2z41 ?h3z41 ?h4z41 ?h5z41 ?h6z41 ?h7z41 ?h8z41 ?h9z41) ?dz41 ?uz41 ?_; (case Bz41 => k_asm); (case Fz41 => k_asm); (case Xz41 => k_asm); (case Nz41 => k_asm); (case Tz41 => k_asm); (case Kz41 => exact rfl); (case XBz41 => k_asm); (case TBz41 => k_asm); (case h1z41 => k_updF); (case h2z41 => k_mem); (case h3z41 => exact hP2); (case h4z41 => k_mem); (case h5z41 => k_mem); (case h6z41 => exact htwa.mono (by (intro p hp hc; k_mem))); (case h7z41 => exact hagl); (case h8z41 => exact htwfa); (case h9z41 => k_mem); (case dz41 => ktr_room); (case uz41 => ktr_units); k_whole)
    rintro r n h7a tk7a F7a N7a hp66g
    refine goalAside fun Xg kg => ?_
    obtain ⟨o7, new7, rfl, hf7a, hk7a, σ7, ps7, c7, tl7, tn7, rfl, htl7, hO7, hlim7, hfin7, hhi7, hT7⟩ := hp66g
    refine kg ?_
    clear kg Xg
    rw [hggr] at htl7 hfin7 hhi7 hT7
    refine goalAside fun Xg kg => ?_
    obtain ⟨R8, NR8, hkR8, hR81, hR82⟩ := two_split (d := dx1) (e := dx2) (o := o3) (u := o7) N7a (by k_mem) (by k_mem) hO3.part.dict hO7.part.dict hd12
    refine kg ?_
    clear kg Xg
    have hk68 : KeepND R6 R8 := fun p hp hc => hkR8 p (by k_mem) hc
    replace mx1 := hk68 _ mx1 nd_inst
    replace mx2 := hk68 _ mx2 nd_inst
    replace htl3 := hk68 _ htl3 nd_list
    replace htl7 := hkR8 _ htl7 nd_list
    replace hO3 := hO3.keepN hk68
    replace hO7 := hO7.keepN hkR8
    replace htw := htw.mono hk68
    replace htwa := htwa.mono hk68
    have hkag := hkR8 _ (List.mem_append_right _ (.tail _ (.head _))) nd_list
    clear N7a Nq
    k_steps
    refine Stop.to ?_
    k_dflt (refine ne_wds (vs := (again tz).map Prod.fst) (ws := (again tz).map Prod.snd) (n₁ := R8) (by k_asm) (.tail _ (.tail _ htl7)) (.tail _ (.tail _ hkag)) htwa.wds (fun p hp => .tail _ (.tail _ hp)) (by units_room) ?_)
    have hHI : HaltIf := trivial
    k_steps
    obtain rfl : c3 = 0 := hT3.c0
    obtain rfl : c7 = 0 := hT7.c0
    refine Stop.to ?_
    (rename Fr _ _ _ _ => Fq)
    refine join_ifM Fq (fun nx => nx = (dx1, o3) :: (dx2, o7) :: R8) ?_ ?_
    · clear hHI
      have e1 : σ7.fin = finR (tz.map Prod.snd) := hfin7.trans (again_fin hnc)
      have e2 : σ7.hi = σ3.hi := (hhi7.trans again_high).trans hhi3.symm
      obtain ⟨p1, p2, p3, p4, p5, p6, p7, p8, q3, q4, q5, q6, fv3, rv3, sv3, rfl, hfv3, hsv3⟩ := id hO3.part
      obtain ⟨p1', p2', p3', p4', p5', p6', p7', p8', q3', q4', q5', q6', fv7, rv7, sv7, rfl, hfv7, hsv7⟩ := id hO7.part
      rw [hfin3] at hfv3
      rw [e1] at hfv7
      rcases hfz : finR (tz.map Prod.snd) with _ | z
      · rw [hfz] at hfv3 hfv7
        obtain rfl : fv3 = .none := hfv3
        obtain rfl : fv7 = .none := hfv7
        k_steps
        · (rename σ7.hi ≠ σ3.hi => hq)
          exact absurd e2 hq
        · show JnEnd _ _ _ _ _
          exact JnEnd.intro (by k_asm) (by k_asm) ⟨rfl, rfl⟩
      · rw [hfz] at hfv3 hfv7
        obtain ⟨uz3, rfl⟩ := hfv3
        obtain ⟨uz7, rfl⟩ := hfv7
        k_steps
        · (rename z ≠ z => hq)
          exact absurd rfl hq
        · (rename σ7.hi ≠ σ3.hi => hq)
          exact absurd e2 hq
        · show JnEnd _ _ _ _ _
          exact JnEnd.intro (by k_asm) (by k_asm) ⟨rfl, rfl⟩
    · rintro h1c tk1c n1c F1c N1c rfl
      clear hHI
      k_steps
      refine Stop.to ?_
      k_dflt (refine' Fn.use ?Bz42 ?Fz42 ?Xz42 ?Nz42 ?Tz42 ?Kz42 (isread_ok (dx := dx1) (o := o3) (σ := σ3) (ps := ps3) (tvs := tz.map Prod.fst) (ws := tz.map Prod.snd) ?h1z42 ?h2z42 ?h3z42 ?h4z42 ?h5z42 ?h6z42 ?h7z42 ?h8z42) ?dz42 ?uz42 ?_; (case Bz42 => k_asm); (case Fz42 => k_asm); (case Xz42 => k_asm); (case Nz42 => k_asm); (case Tz42 => k_asm); (case Kz42 => exact rfl); (case h1z42 => k_updF); (case h2z42 => k_mem); (case h3z42 => exact hO3.mono (by (intro p hp; k_mem))); (case h4z42 => k_mem); (case h5z42 => exact htw.wds.mono (by (intro p hp; k_mem))); (case h6z42 => exact hl1); (case h7z42 => exact hw1); (case h8z42 => exact hT3.read); (case dz42 => ktr_room); (case uz42 => ktr_units); k_whole)
      rintro r n h2c tk2c F2c N2c hp67g
      refine goalAside fun Xg kg => ?_
      obtain ⟨o8, new8', rfl, hf8', hk8', rfl⟩ := hp67g
      refine kg ?_
      clear kg Xg
      have hd8 := hf8'.ne (d := dx2) (o := o7) (by k_mem)
      k_steps
      refine Stop.to ?_
      k_dflt (refine' Fn.use ?Bz43 ?Fz43 ?Xz43 ?Nz43 ?Tz43 ?Kz43 (isread_ok (dx := dx2) (o := o7) (σ := σ7) (ps := ps7) (tvs := (again tz).map Prod.fst) (ws := (again tz).map Prod.snd) ?h1z43 ?h2z43 ?h3z43 ?h4z43 ?h5z43 ?h6z43 ?h7z43 ?h8z43) ?dz43 ?uz43 ?_; (case Bz43 => k_asm); (case Fz43 => k_asm); (case Xz43 => k_asm); (case Nz43 => k_asm); (case Tz43 => k_asm); (case Kz43 => exact rfl); (case h1z43 => k_updF); (case h2z43 => k_mem); (case h3z43 => exact hO7.mono (by (intro p hp; k_mem))); (case h4z43 => k_mem); (case h5z43 => exact htwa.wds.mono (by (intro p hp; k_mem))); (case h6z43 => exact hl2); (case h7z43 => exact hw2); (case h8z43 => exact hT7.read); (case dz43 => ktr_room); (case uz43 => ktr_units); k_whole)
      rintro r n h3c tk3c F3c N3c hp68g
      refine goalAside fun Xg kg => ?_
      obtain ⟨o9, new9', rfl, hf9', hk9', rfl⟩ := hp68g
      refine kg ?_
      clear kg Xg
      k_steps
end
end Mine
set_option maxRecDepth 100000 in
theorem PySem.Challenge.cw_tk0094_01_holds : PySem.Challenge.rw_tk0094_01.Holds := by
  exact Mine.law_holds
