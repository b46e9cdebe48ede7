import PyProof.Rows.All
import Wide.All
import OpenK.AllK
import Wide.FinOn
import Lean
import PySem.Challenge.RW_pq0172_01
set_option Elab.async false
set_option rowWalk.seconds 0
set_option compiler.extract_closed false
open PySem PySem.W PyProof.Rows PySem.Spec PySem.Calls
namespace Mine
/-! HdC -/
section
set_option maxRecDepth 100000 in
theorem ws : OpenLaw.wellSaid PySem.Challenge.rw_pq0172_01 = true := by
  unfold OpenLaw.wellSaid
  repeat' (with_reducible refine look_both ?_ ?_)
  · show OpenRow.wellSaid _ = true
    unfold OpenRow.wellSaid OpenRow.partSaid looksOpen
    repeat' (with_reducible refine look_both ?_ ?_)
    all_goals decide +kernel
  all_goals decide +kernel
/-- the library's opening, then the text -/
theorem left_boot {p q : Program} {loose : List Str} {Xt : Shared → Bool} {α : Type} {Yf : Shared → α} {Ya : World → α} {N : Nat} {g0 : Bool} (e : opening p = plainProg p.main.scope.names) (hN : Nat.ble 600 N = true) (f : ∀ s, fenceModules? p s = some s)
    (h : ∀ (w : World) (os : OsState), Option.map (fun s => (openSeen q loose (importedModules p.main.body) Xt g0 s, Yf s)) (topFrom treeTable p w N { heap := boot_heap w.params, gens := #[], drawn := boot_drawn, toks := boot_toks, os := os }) = some (openGood q loose, Ya w)) : LeftO p q loose Xt Yf Ya N g0 := by
  intro w
  have b := boot_open e hN f w
  cases hs : fencedOpening treeTable p w N with
  | none => rw [hs] at b; cases b
  | some s =>
    rw [hs] at b
    obtain ⟨hp, gs, dr, tk, os⟩ := s
    simp only [Option.map_some, Option.some.injEq, Prod.mk.injEq] at b
    obtain ⟨rfl, rfl, rfl, rfl⟩ := b
    rw [openEnds, hs]
    exact h w os
/-- the text's statements that the view keeps -/
def view : Program := { PySem.Challenge.pw_pq0172_01 with main := { PySem.Challenge.pw_pq0172_01.main with body := [1, 3, 4, 5, 6, 7, 8, 9, 10, 11, 12, 13, 14, 15, 16, 17, 18, 19, 20, 21, 22, 24, 26, 27, 28, 29, 30, 31, 32, 33, 34].filterMap fun i => PySem.Challenge.pw_pq0172_01.main.body[i]? } }
end
local macro_rules
  | `(tactic| o_head $H) => do
    let (hl, hw, hc) := (Lean.mkIdent `hl, Lean.mkIdent `hw, Lean.mkIdent `hc)
    `(tactic| (refine holds_open (q := Mine.view) (loose := [PySem.Str.ofString "BasicError"]) (Xt := fun s => xlAt Mine.view [] s && recOk (RowW.records (OpenRow.toRowW (OpenLaw.row PySem.Challenge.rw_pq0172_01))) s) (XP := XL Mine.view []) (Yf := Hook.obs $H) (Ya := Hook.val $H) (YP := Hook.says $H) (N := 2810) ?$hl (Hook.of $H) (Hook.keeps $H) (fun s e => xl_of s (Bool.and_eq_true_iff.mp e).1) XL.keeps (by rfl) (by rfl) (by rfl) (fun s e => recFacts_of (Bool.and_eq_true_iff.mp e).2) (by rfl) (by first | assumption | decide +kernel) (by decide +kernel) ⟨rfl, rfl, rfl, rfl, rfl, by decide +kernel⟩ ?$hw ?$hc; focus (refine Mine.left_boot (by rfl) (by rfl) (fun s => rfl) ?_; intro w os; unfold topFrom; first | (rw [PySem.W.Fast.te14082659384304107361, PySem.W.Fast.te14364793385576792824, PySem.W.Fast.te4187177175401517315]; kernel_rfl) | kernel_rfl)))
local macro_rules | `(tactic| o_law) => `(tactic| refine holds_law Mine.ws fun said => ?_)
section
set_option maxRecDepth 100000 in
set_option maxHeartbeats 8000000 in
open_top hd for PySem.Challenge.rw_pq0172_01

end
/-! Bs -/
section
/-! room: a depth, a count of units -/
theorem room0 {a b lim : Nat} (h : a + b < lim) : a < lim := Nat.lt_of_le_of_lt (Nat.le_add_right a b) h
theorem room1 {a b c lim : Nat} (h : a + b < lim) (hc : Nat.ble c b = true) : a + c < lim := Nat.lt_of_le_of_lt (Nat.add_le_add_left (Nat.le_of_ble_eq_true hc) a) h
theorem room2 {a b c d lim : Nat} (h : a + b < lim) (hc : Nat.ble (d + c) b = true) : a + d + c < lim := by rw [Nat.add_assoc]; exact room1 h hc
end
local macro_rules | `(tactic| walk_at "mine room") => `(tactic| first | exact room2 (by assumption) (by exact rfl) | exact room1 (by assumption) (by exact rfl) | exact room0 (by assumption))
local macro_rules | `(tactic| ktr_room) => `(tactic| walk_at "mine room")
local macro_rules | `(tactic| ktr_units) => `(tactic| walk_at "mine room")
local macro_rules | `(tactic| units_room) => `(tactic| first | exact room2 (d := 3) (by assumption) (by exact rfl) | exact room1 (by assumption) (by exact rfl))

section
/-! the ledger, one entry turned -/
def Keep (D : Addr) (news news' : List (Addr × Obj)) : Prop := ∀ p ∈ news, p.1 ≠ D → p ∈ news'
theorem Keep.mem {D b : Addr} {ob : Obj} {news news' : List (Addr × Obj)} (k : Keep D news news') (h : (b, ob) ∈ news) (hb : b ≠ D) : (b, ob) ∈ news' := k _ h hb
section
variable {h₀ h h' : Heap} {L D : Addr} {m : Str → Option Value} {news : List (Addr × Obj)} {o o' : Obj}
theorem chg (F : Fr h₀ L h m) (N : News h₀ L h news) (hm : (D, o) ∈ news) (hs : Heap.SameBut D h h') (ho' : h'.get? D = some o') : ∃ news', Fr h₀ L h' m ∧ News h₀ L h' news' ∧ (D, o') ∈ news' ∧ Keep D news news' := by
  have n := N _ hm
  refine ⟨(D, o') :: news.filter (fun p => p.1 != D), F.change hs n.2.1 n.2.2, fun p hp => ?_, .head _, fun p hp hne => .tail _ (List.mem_filter.mpr ⟨hp, by simpa using hne⟩)⟩
  rcases List.mem_cons.mp hp with rfl | hp
  · exact ⟨ho', n.2.1, n.2.2⟩
  · obtain ⟨hp, hne⟩ := List.mem_filter.mp hp
    have q := N p hp
    exact ⟨(hs.2 p.1 (by simpa using hne)).trans q.1, q.2⟩
theorem same_obj (N : News h₀ L h news) (h1 : (D, o) ∈ news) (h2 : (D, o') ∈ news) : o = o' := by
  have a := (N _ h1).1
  have b := (N _ h2).1
  simp only at a b
  rw [a] at b
  exact Option.some.inj b
theorem ne_of_obj {b : Addr} (N : News h₀ L h news) (h1 : (D, o) ∈ news) (h2 : (b, o') ∈ news) (hne : o ≠ o') : D ≠ b := fun q => by
  subst q
  exact hne (same_obj N h1 h2)
end

section
variable {prog : Program} {w : World} {A : Around} {E : Value → Shared → Prop} {s : Shared} {h₀ : Heap} {L D : Addr} {m : Str → Option Value} {news : List (Addr × Obj)} {its : Array Value} {n : Nat}
theorem setL {k : Int} {t : Tok} {v : Value} {Q : Unit → Shared → Prop} (F : Fr h₀ L s.heap m) (N : News h₀ L s.heap news) (hm : (D, listOf its n) ∈ news) (h0 : 0 ≤ k) (hfit : k < 2 ^ 63) (hn : k < its.size)
    (h : ∀ h' news' n', Fr h₀ L h' m → News h₀ L h' news' → (D, listOf (its.setIfInBounds k.toNat v) n') ∈ news' → Keep D news news' → Q () { s with heap := h' }) : wpAny (model prog w) A (setItem (.ref D) (.int k t) v) Q E s := by
  have ho := (N _ hm).1
  refine ki_setAt ho h0 hfit hn ?_
  have q := PySem.IsL.update ho (·.setIfInBounds k.toNat v)
  obtain ⟨news', a, b, c, d⟩ := chg F N hm (Heap.SameBut.update ..) q
  exact h _ _ _ a b c d

variable {K : Type} [DecidableEq K] {knd : KeyKind prog w K} {o : Obj} {kvs : List (K × Value)} {k : K} {key v : Value}
theorem setD {Q : Unit → Shared → Prop} (F : Fr h₀ L s.heap m) (N : News h₀ L s.heap news) (hm : (D, o) ∈ news) (hd : o.IsDictOf knd kvs) (hkey : knd.is k key = true) (hsz : kvs.length ≤ 1000)
    (h : ∀ h' news' o', Fr h₀ L h' m → News h₀ L h' news' → (D, o') ∈ news' → Keep D news news' → o'.IsDictOf knd (stored kvs k v) → Q () { s with heap := h', toks := s.toks + 1 }) : wpAny (model prog w) A (setItem (.ref D) key v) Q E s := by
  refine wpAny_setItem_pairs (hsz := by rw [sizeLine_eq]; omega) hkey (kda_dict N hm hd) fun h' hmm hs => ?_
  obtain ⟨o', ho', hd'⟩ := Heap.dictOf_iff.mp hmm
  obtain ⟨news', a, b, c, d⟩ := chg F N hm hs ho'
  exact h h' news' o' a b c d hd'
theorem popD {Q : Value → Shared → Prop} (F : Fr h₀ L s.heap m) (N : News h₀ L s.heap news) (hm : (D, o) ∈ news) (hd : o.IsDictOf knd kvs) (hkey : knd.is k key = true) (hpart : (keyPart key).isSome = true)
    (hargs : argsOk "dict.pop" ⟨.ref D :: key :: [], []⟩) (hl : valueAt kvs k = some v) (hsz : kvs.length ≤ 1000)
    (h : ∀ h' news' o', Fr h₀ L h' m → News h₀ L h' news' → (D, o') ∈ news' → Keep D news news' → o'.IsDictOf knd (without kvs k) → Q v { s with heap := h', toks := s.toks + 1 }) :
    wpAny (model prog w) A (call (.builtin "dict.pop") [.ref D, key]) Q E s := by
  have hD := kda_dict N hm hd
  refine call_meetsIn PySem.F.slot_dict_pop hD.typeIs PySem.F.entry_dict_pop hargs (meets_dict_pop_there knd D hkey [] (.inl rfl) hpart) ⟨kvs, v, hD, by rw [sizeLine_eq]; omega, hl, fun h' hmm hs => ?_⟩
  obtain ⟨o', ho', hd'⟩ := Heap.dictOf_iff.mp hmm
  obtain ⟨news', a, b, c, d⟩ := chg F N hm hs ho'
  exact h h' news' o' a b c d hd'
theorem appendL {x : Value} {Q : Value → Shared → Prop} (F : Fr h₀ L s.heap m) (N : News h₀ L s.heap news) (hm : (D, listOf its n) ∈ news) (hsz : its.size ≤ 1000000)
    (h : ∀ h' news' n', Fr h₀ L h' m → News h₀ L h' news' → (D, listOf (its.push x) n') ∈ news' → Keep D news news' → Q .none { s with heap := h' }) : wpAny (model prog w) A (call (.builtin "list.append") [.ref D, x]) Q E s := by
  refine append_at (hsz := by rw [sizeLine_eq]; omega) (N _ hm).1 fun h' hs ho' => ?_
  obtain ⟨news', a, b, c, d⟩ := chg F N hm hs ho'
  exact h h' news' _ a b c d
end
end
local macro_rules | `(tactic| is_list) => `(tactic| exact News.isList (by assumption) (by assumption))
local macro_rules | `(tactic| walk_at "call builtin:len") => `(tactic| (k_here; (with_reducible show wpAny _ _ (call (Value.builtin "len") [Value.ref _]) _ _ _); k_dflt (refine' len_list ?l ?f ?_; (case l => is_list); (case f => first | (simp; omega) | (have zz := IntsAre.length (by assumption); simp; omega)))))

/-! Ex1 -/
section
abbrev tupOf (vs : List Value) : Obj := { cls := .type "tuple", data := .seq vs.toArray }
abbrev excNew (C tp : Addr) : Obj := { cls := .ref C, data := .fields #[.ref tp, .none, .none, .none, .bool false, .none] }

section
variable {prog : Program} {w : World} {A : Around} {K : Frag} {R : Result → Shared → Prop} {h : Heap} {g : Array GenState} {d : Drawn} {t : Nat} {os : OsState}
variable {nm q : Str} {C N : Addr} {bs bm : List Value} {hdct : Bool} {sn : List Str} {sub : List Value} {ab : Bool} {col : Option Bool} {dd : Option Addr} {k0 k1 k2 k3 k5 : Option Value} {B newId initId : String}
set_option maxRecDepth 100000 in
set_option maxHeartbeats 4000000 in
theorem exc_core {rest : List Value} {fI : Addr} (FB : ExcBaseFacts B newId initId bm) (X : K.In h) (hC : h.get? C = some (excClassObj nm q C N bs bm hdct sn sub ab col dd k0 k1 k2 k3 k5 newId))
    (hi : findIn K (.ref C) "__init__" = some (some (.ref fI))) (hf : typeIn K (.ref fI) = some (.type "function")) (hrest : rest.length ≤ sizeLine)
    (hq : codeAny (model prog w) (A.under (.builtin "type.__call__" ⟨.ref C :: rest, []⟩)) (.call (.ref fI) ⟨.ref (h.objs.size + 1) :: rest, []⟩) (InitBack (h.objs.size + 1) R) ⟨(h.push (tupOf rest)).push (excNew C h.objs.size), g, d, t, os⟩) :
    codeAny (model prog w) A (.call (.ref C) ⟨rest, []⟩) R ⟨h, g, d, t, os⟩ := by
  have f1 := tc_lookup
  have f2 := tc_bind (.ref C)
  have hT : (⟨h, g, d, t, os⟩ : Shared).TypeIs (.ref C) "type" := ⟨_, hC, rfl⟩
  have T : OwnTail h bm bm := .base
  refine codeAny_of_tree ?_
  show wpAny _ _ (callAny (.ref C) _) _ _ _
  repeat (any_goals (first | assumption | with_reducible refine wpAny_loadPart_at hC ?_ | wp_step))
  refine ⟨rfl, ?_⟩
  refine codeAny_call_builtin_at (Code.quiet_builtin _ (by decide +kernel)) entry_typeCall (wpAny_check_type_call_sub hC ?_)
  repeat (first | with_reducible refine wpAny_loadPart_at hC ?_ | with_reducible refine wpAny_madeBy_exc hC ?_ | wp_step)
  refine codeAny_call_builtin_code (Code.quiet_builtin _ FB.quiet) (wpAny_check_new_subT FB T hC ?_)
  refine codeAny_exc_new_subT FB T hC ?_ hrest
  show wpAny _ _ _ _ _ (⟨(h.push (tupOf rest)).push (excNew C h.objs.size), g, d, t, os⟩ : Shared)
  have k : ∀ b o, h.get? b = some o → ((h.push (tupOf rest)).push (excNew C h.objs.size)).get? b = some o := fun b o e => Heap.get?_push_of_some _ (Heap.get?_push_of_some _ e)
  have hx : ((h.push (tupOf rest)).push (excNew C h.objs.size)).get? (h.objs.size + 1) = some (excNew C h.objs.size) := by heap_get
  have t1 : Looks (model prog w) ((h.push (tupOf rest)).push (excNew C h.objs.size)) (typeOf (.ref (h.objs.size + 1))) (.ref C) := (Looks.ld hx).andThen .now
  have s1 : Looks (model prog w) ((h.push (tupOf rest)).push (excNew C h.objs.size)) (isSubtype (.ref C) (.ref C)) true := by
    intro A Q E s kk q
    obtain ⟨hh, g', d', t', os'⟩ := s
    refine wpAny_isSubtype_exc (kk _ _ (k _ _ hC)) ?_
    have : (Value.ref C :: bm).contains (.ref C) = true := by simp
    rw [this]; exact q
  have i1 := (looks_findIn (M := model prog w) X hi).keeps k
  have b1 := (bind_fn (M := model prog w) X (.ref (h.objs.size + 1)) hf).keeps k
  have l1 : Looks (model prog w) ((h.push (tupOf rest)).push (excNew C h.objs.size)) (isInstance (.ref (h.objs.size + 1)) (.ref C)) true := t1.andThen s1
  refine wpAny_bind (l1.here ?_)
  unfold callSpecial? specialOf
  repeat (first | with_reducible refine wpAny_call ?_ | lk)
  refine codeAny_mono hq fun r s' z => ?_
  rcases r with e | (v | _ | _ | _) <;> first | exact z | exact z.elim | skip
  obtain ⟨rfl, z⟩ := z
  exact wpAny_pure (wpAny_pure z)
end

section
variable {prog : Program} {w : World} {A : Around} {E : Value → Shared → Prop} {s : Shared} {K : Frag} {L : Addr} {h₀ : Heap} {m : Str → Option Value} {news : List (Addr × Obj)} {Q : Value → Shared → Prop}
variable {nm q : Str} {C N : Addr} {bs bm : List Value} {hdct : Bool} {sn : List Str} {sub : List Value} {ab : Bool} {col : Option Bool} {dd : Option Addr} {k0 k1 k2 k3 k5 : Option Value} {B newId initId : String}
theorem exc_call {rest : List Value} {fI : Addr} (FB : ExcBaseFacts B newId initId bm) (F : Fr h₀ L s.heap m) (X₀ : K.In h₀) (N' : News h₀ L s.heap news) (hC : K.lookup C = some (excClassObj nm q C N bs bm hdct sn sub ab col dd k0 k1 k2 k3 k5 newId))
    (hi : findIn K (.ref C) "__init__" = some (some (.ref fI))) (hf : isFn K (.ref fI) = true) (hrest : rest.length ≤ 1000)
    (h : ∀ e tp h' news', Fr h₀ L h' m → News h₀ L h' news' → (e, excNew C tp) ∈ news' → (∀ p ∈ news, p ∈ news') → (∀ p ∈ news, p.1 < e) →
      codeAny (model prog w) (A.under (.builtin "type.__call__" ⟨.ref C :: rest, []⟩)) (.call (.ref fI) ⟨.ref e :: rest, []⟩) (InitBack e fun r s' => match r with | .ok (.ret v) => Q v s' | .ok _ => False | .error e => E e s') { s with heap := h' }) :
    wpAny (model prog w) A (call (.ref C) rest) Q E s := by
  obtain ⟨hh, g, d, t, os⟩ := s
  have X := X₀.keeps F.keep
  refine wpAny_call (exc_core FB X (X _ _ hC) hi (beq_iff_eq.mp hf) (by rw [sizeLine_eq]; omega) ?_)
  have N2 := (N'.push F (tupOf rest)).push (F.push _) (excNew C hh.objs.size)
  rw [Heap.size_push] at N2
  exact h _ hh.objs.size _ _ ((F.push _).push _) N2 (.head _) (fun p hp => .tail _ (.tail _ hp)) (fun p hp => Nat.lt_succ_of_lt (Heap.lt_size (N' p hp).1))
end

end
/-! Ex3 -/
section
set_option maxRecDepth 100000
abbrev EI : Value := .builtin "Exception.__init__"
abbrev wrapObj (f x : Value) : Obj := { cls := .type "method-wrapper", data := .fields #[f, x] }
theorem slot_wget : Slot "wrapper_descriptor" "__get__" "wrapper_descriptor.__get__" := .of (owner := "wrapper_descriptor") (n := "__get__") (by rw [typeLookup_type, builtinLookup_eq_fast]; kernel_rfl) (by decide +kernel) (by decide +kernel) (by decide +kernel)
  (by first | exact .inl (by decide +kernel) | exact .inr (by decide +kernel)) (by rw [isSubtype_type]; kernel_rfl)
theorem entry_wget : entryFor table "wrapper_descriptor.__get__" = some Builtin.«wrapper_descriptor.__get__» := entryFor_of_tree (by kernel_rfl)
theorem args_wget (a b c : Value) : argsOk "wrapper_descriptor.__get__" ⟨[a, b, c], []⟩ := by unfold argsOk; kernel_rfl
theorem type_EI : typeOf EI = pure (.type "wrapper_descriptor") := by kernel_rfl

section
variable {prog : Program} {w : World} {A : Around} {E : Value → Shared → Prop} {h : Heap} {g : Array GenState} {d : Drawn} {t : Nat} {os : OsState} {K : Frag} {x C D so : Addr} {l₀ l : List Value} {name : Str}
theorem own_EI : ".".intercalate ("Exception.__init__".cutAt '.').dropLast = "Exception" := by decide +kernel
theorem wget_run {c : Addr} {ox : Obj} {Q : Fin → Shared → Prop} (hx : h.get? x = some ox) (hc : ox.cls = .ref C) (hsub : Looks (model prog w) h (isSubtype (.ref C) (.type "Exception")) true)
    (hq : Q (.done (.ret (.ref h.objs.size))) ⟨h.push (wrapObj EI (.ref x)), g, d, t, os⟩) :
    wpAny (model prog w) A (Builtin.«wrapper_descriptor.__get__» ⟨[EI, .ref x, .ref c], []⟩) Q E ⟨h, g, d, t, os⟩ := by
  unfold Builtin.«wrapper_descriptor.__get__»
  repeat (first | (with_reducible refine wpAny_loadPart_at hx ?_) | (with_reducible refine Looks.at hsub ?_) | simp only [hc, own_EI] | wp_step)
  exact hq

set_option maxHeartbeats 4000000 in
theorem superB_ga {ox : Obj} {tk : Tok} {Q : Fin → Shared → Prop} (hx : h.get? x = some ox) (hc : ox.cls = .ref C) (hsub : Looks (model prog w) h (isSubtype (.ref C) (.type "Exception")) true)
    (hso : h.get? so = some (ks_superObj D x C)) (hno : Looks (model prog w) h (opaqueClassAbove (.ref C)) none)
    (hC : Looks (model prog w) h (mroOf (.ref C)) l₀) (hl : (l₀.dropWhile (· != .ref D)).drop 1 = l) (X : K.In h)
    (hf : alongIn K name l = some (some EI)) (hxC : x ≠ C) (hn : (name == ("__class__" : Str)) = false)
    (hq : Q (.done (.ret (.ref h.objs.size))) ⟨h.push (wrapObj EI (.ref x)), g, d, t, os⟩) :
    wpAny (model prog w) A (Builtin.«super.__getattribute__» ⟨[.ref so, .str name tk], []⟩) Q E ⟨h, g, d, t, os⟩ := by
  have hlk := slot_wget.lookup
  have hne : (Value.ref x == Value.ref C) = false := by simp [hxC]
  have hTf : (⟨h, g, d, t, os⟩ : Shared).TypeIs EI "wrapper_descriptor" := type_EI
  have hdt : (ks_superObj D x C).data = .fields #[.ref D, .ref x, .ref C] := rfl
  have f0 : (#[.ref D, .ref x, .ref C] : Array Value)[0]? = some (.ref D) := rfl
  have f1 : (#[.ref D, .ref x, .ref C] : Array Value)[1]? = some (.ref x) := rfl
  have f2 : (#[.ref D, .ref x, .ref C] : Array Value)[2]? = some (.ref C) := rfl
  unfold Builtin.«super.__getattribute__»
  repeat (first
    | (with_reducible refine wpAny_field hso hdt f0 ?_) | (with_reducible refine wpAny_field hso hdt f1 ?_) | (with_reducible refine wpAny_field hso hdt f2 ?_)
    | (with_reducible refine ks_wpAny_notOpaque hno ?_)
    | (with_reducible refine Looks.at hC ?_; rw [hl])
    | (refine ks_forIn_along X (fun _ _ => rfl) rfl ?_ hf)
    | (with_reducible refine wpAny_typeOf hTf ?_)
    | (with_reducible refine wpAny_call_entry slot_wget hTf entry_wget ?_ (args_wget _ _ _))
    | (refine wget_run hx hc hsub ?_)
    | (with_reducible refine ⟨_, rfl, ?_⟩)
    | (simp only [hn, hne, Bool.or_false, Bool.false_eq_true, if_false])
    | wp_step
    | dsimp only)
  all_goals exact hq
end

end
/-! Ex4 -/
section
set_option maxRecDepth 100000
section
variable {prog : Program} {w : World} {A : Around} {E : Value → Shared → Prop} {h : Heap} {g : Array GenState} {d : Drawn} {t : Nat} {os : OsState} {K : Frag} {x C D so : Addr} {l₀ l : List Value} {name : Str}
theorem superB_getMethod {ox : Obj} {pl : Sem Bool} {Q : Value × List Value → Shared → Prop} (hx : h.get? x = some ox) (hc : ox.cls = .ref C) (hsub : Looks (model prog w) h (isSubtype (.ref C) (.type "Exception")) true)
    (hso : h.get? so = some (ks_superObj D x C)) (hno : Looks (model prog w) h (opaqueClassAbove (.ref C)) none)
    (hC : Looks (model prog w) h (mroOf (.ref C)) l₀) (hl : (l₀.dropWhile (· != .ref D)).drop 1 = l) (X : K.In h)
    (hf : alongIn K name l = some (some EI)) (hxC : x ≠ C) (hn : (name == ("__class__" : Str)) = false)
    (hq : Q (.ref h.objs.size, []) ⟨h.push (wrapObj EI (.ref x)), g, d, t + 1, os⟩) :
    wpAny (model prog w) A (getMethod (.ref so) name pl) Q E ⟨h, g, d, t, os⟩ := by
  have hlk := PySem.F.ks_slot_super_ga.lookup
  have hcan := PySem.F.ks_canon_super_ga
  have hT : ∀ t', (⟨h, g, d, t', os⟩ : Shared).TypeIs (.ref so) "super" := fun _ => ⟨_, hso, rfl⟩
  unfold getMethod
  refine wpAny_bind (wpAny_specialOf (hT _) hlk ?_)
  show wpAny _ _ (if (Manifest.canonical "super.__getattribute__" != "object.__getattribute__") = true then _ else _) _ _ _
  rw [if_pos hcan]
  unfold getAttr getAttrBy
  refine wpAny_bind (wpAny_bind (wpAny_mkText (wpAny_holding (wpAny_bind (wpAny_typeOf (hT _) (wpAny_bind (wpAny_of_eq hlk ?_)))))))
  show wpAny _ _ (getAttrByItsOwn (.ref so) (.str name t) (.type "super") (.builtin "super.__getattribute__") true false) _ _ _
  unfold getAttrByItsOwn hookBefore callGetattribute boundAndCalled
  refine wpAny_bind (wpAny_of_eq (show (if onTheHeap (.type "super") then typeLookup (.type "super") "__getattr__" else pure none) = pure none from rfl) ?_)
  refine wpAny_bind (wpAny_attempt (wpAny_holding ?_))
  show wpAny _ _ (bindSpecial (.builtin "super.__getattribute__") (.ref so) >>= _) _ _ _
  refine wpAny_bind (wpAny_of_eq (PySem.F.ks_slot_super_ga.bind _) ?_)
  refine wpAny_mono (Q := fun v s' => v = .ref h.objs.size ∧ s' = ⟨h.push (wrapObj EI (.ref x)), g, d, t + 1, os⟩) (E := fun _ _ => False)
    (wpAny_call_entry PySem.F.ks_slot_super_ga (hT _) PySem.F.ks_entry_super_ga (superB_ga hx hc hsub hso hno hC hl X hf hxC hn ⟨_, rfl, rfl, rfl⟩) (PySem.F.ks_gaArgs_super _ _)) (fun v s' hv => ?_) fun _ _ z => z.elim
  obtain ⟨rfl, rfl⟩ := hv
  exact wpAny_pure (wpAny_pure hq)

/-- the method-wrapper called -/
theorem call_wrap {b : Addr} {t0 : Addr} {a : List Value} {ox : Obj} {vs : Array Value} {bm : List Value} {bs : List Value} {N : Addr} {nm q : Str} {hdct : Bool} {sn : List Str} {sub : List Value} {ab : Bool} {col : Option Bool} {dd : Option Addr} {k0 k1 k2 k3 k5 : Option Value} {newI : String}
    {Q : Value → Shared → Prop} (FB : ExcBaseFacts "Exception" newI "Exception.__init__" bm) (hC : h.get? C = some (excClassObj nm q C N bs bm hdct sn sub ab col dd k0 k1 k2 k3 k5 newI))
    (hb : h.get? b = some (wrapObj EI (.ref x))) (hx : h.get? x = some ox) (hcls : ox.cls = .ref C) (hd : ox.data = .fields vs) (h0 : vs[0]? = some (.ref t0)) (hr : a.length ≤ sizeLine)
    (hq : Q .none ⟨(h.push (tupOf a)).update x (Obj.mapFields (·.setIfInBounds 0 (.ref h.objs.size))), g, d, t, os⟩) :
    wpAny (model prog w) A (call (.ref b) a) Q E ⟨h, g, d, t, os⟩ := by
  refine wpAny_call (codeAny_of_tree ?_)
  show wpAny _ _ (callAny (.ref b) _) _ _ _
  unfold callAny
  refine wpAny_bind (wpAny_load hb ?_)
  show wpAny _ _ (checkBoundCall "Exception.__init__" ⟨.ref x :: a, []⟩ >>= fun _ => again (.builtin "Exception.__init__" ⟨.ref x :: a, []⟩)) _ _ _
  have hshort := FB.noStar
  refine wpAny_bind (?_ : wpAny _ _ (checkBoundCall "Exception.__init__" ⟨.ref x :: a, []⟩) _ _ _)
  simp only [checkBoundCall, FB.initKind, FB.initRow]
  repeat (first | (with_reducible refine wpAny_loadPart_at hx ?_; rw [hcls]) | with_reducible refine wpAny_loadPart_at hC ?_ | wp_step)
  refine wpAny_onRaise ?_
  rw [show ∀ (a' b : String) (n : Nat), Bind.check ⟨.positional, "*", "Exception", .self, [⟨"args", .varPos, false⟩]⟩ a' b n (List.map (fun x => x.fst) ({ pos := Value.ref x :: a } : Args).kw) = pure () from
    fun a b n => check_star_args _ _ _ _ _ _]
  refine wpAny_pure ?_
  refine wpAny_pure ⟨Code.quiet_builtin _ (by decide +kernel), codeAny_builtin FB.initEntry ?_⟩
  unfold Builtin.«BaseException.__init__»
  dsimp only
  rw [if_neg (by simp)]
  unfold newTuple Builtin.BaseException.bexcPut
  have hsz : 0 < vs.size := (Array.getElem?_eq_some_iff.mp h0).1
  have he1 := Heap.get?_push_of_some (h := h) (tupOf a) hx
  refine wpAny_bind (wpAny_newObj_type (wpAny_bind (wpAny_bind (wpAny_field he1 hd h0 (wpAny_bind (wpAny_setField he1 hd hsz ?_))))) (by show a.toArray.size ≤ sizeLine; rw [List.size_toArray]; exact hr))
  exact wpAny_letGo (wpAny_pure hq)
end

section
variable {prog : Program} {w : World} {A : Around} {E : Value → Shared → Prop} {s : Shared} {K : Frag} {L : Addr} {h₀ : Heap} {m : Str → Option Value} {news : List (Addr × Obj)} {x C so tp : Addr} {name : Str} {cd : ClassData}
theorem superB_N {pl : Sem Bool} {Q : Value × List Value → Shared → Prop} (F : Fr h₀ L s.heap m) (X₀ : K.In h₀) (N : News h₀ L s.heap news) (hx : (x, excNew C tp) ∈ news) (hso : (so, ks_superObj C x C) ∈ news)
    (hc : clsIn K C = some cd) (hsub : mroIn K C (.type "Exception") = some true) (ho : nsIn K cStatics "thirdparty.any" = some none) (hf : alongIn K name ((cd.mro.dropWhile (· != .ref C)).drop 1) = some (some EI)) (hn : (name == ("__class__" : Str)) = false)
    (h : ∀ b h' news', Fr h₀ L h' m → News h₀ L h' news' → (b, wrapObj EI (.ref x)) ∈ news' → (∀ p ∈ news, p ∈ news') → Q (.ref b, []) { s with heap := h', toks := s.toks + 1 }) :
    wpAny (model prog w) A (getMethod (.ref so) name pl) Q E s := by
  obtain ⟨hh, g, d, t, os⟩ := s
  have X := X₀.keeps F.keep
  have hm := (N _ hx).1
  refine superB_getMethod hm rfl (looks_mroIn X hsub) (N _ hso).1 (looks_opaque X ho) (l₀ := cd.mro) (fun A Q E s k q => wpAny_bind ((looks_clsIn X hc) A _ E s k (wpAny_pure q))) rfl X hf (ks_ne X (InstAt.mk (od := none) hm rfl rfl trivial) hc) hn ?_
  exact h _ _ _ (F.push _) (N.push F (wrapObj EI (.ref x))) (.head _) fun p hp => .tail _ hp

theorem call_wrapN {b : Addr} {a : List Value} {bm bs : List Value} {N' : Addr} {nm q : Str} {hdct : Bool} {sn : List Str} {sub : List Value} {ab : Bool} {col : Option Bool} {dd : Option Addr} {k0 k1 k2 k3 k5 : Option Value} {newI : String}
    {Q : Value → Shared → Prop} (FB : ExcBaseFacts "Exception" newI "Exception.__init__" bm) (F : Fr h₀ L s.heap m) (X₀ : K.In h₀) (N : News h₀ L s.heap news) (hC : K.lookup C = some (excClassObj nm q C N' bs bm hdct sn sub ab col dd k0 k1 k2 k3 k5 newI))
    (hb : (b, wrapObj EI (.ref x)) ∈ news) (hx : (x, excNew C tp) ∈ news) (hr : a.length ≤ 1000)
    (h : ∀ tp' h' news', Fr h₀ L h' m → News h₀ L h' news' → (x, excNew C tp') ∈ news' → Keep x news news' → Q .none { s with heap := h' }) :
    wpAny (model prog w) A (call (.ref b) a) Q E s := by
  obtain ⟨hh, g, d, t, os⟩ := s
  have X := X₀.keeps F.keep
  refine call_wrap FB (X _ _ hC) (N _ hb).1 (N _ hx).1 rfl rfl rfl (by rw [sizeLine_eq]; omega) ?_
  have F4 := F.push (tupOf a)
  have N4 := N.push F (tupOf a)
  have he4 : (x, excNew C tp) ∈ (hh.objs.size, tupOf a) :: news := .tail _ hx
  have u4 := Heap.get?_update_self (Obj.mapFields (·.setIfInBounds 0 (.ref hh.objs.size))) (N4 _ he4).1 rfl
  obtain ⟨news5, F5, N5, a5, k5⟩ := chg F4 N4 he4 (Heap.SameBut.update _ x _) u4
  exact h _ _ _ F5 N5 a5 fun p hp hne => k5 p (.tail _ hp) hne
end

end
/-! Ex5 -/
section
open PySem.Builtin PySem.Builtin.ObjectAttr
set_option maxRecDepth 100000
theorem putL_len (name : Str) (hsh : Int) (key v : Value) : ∀ es : List DictEntry, (putL name hsh key v es).length ≤ es.length + 1
  | [] => Nat.le_refl _
  | e :: r => by
    unfold putL
    split
    · exact Nat.le_succ _
    · have := putL_len name hsh key v r
      simp only [List.length_cons]; omega
abbrev excTail : List Value := [.type "Exception", .type "BaseException", .type "object"]
theorem refuse_exc (self : Value) : refuseLoop self "__setattr__" excTail = pure () := by kernel_rfl
abbrev excDict (C d tp : Addr) : Obj := { cls := .ref C, dict := some d, data := .fields #[.ref tp, .none, .none, .none, .bool false, .none] }

section
variable {prog : Program} {w : World} {A : Around} {E : Value → Shared → Prop} {s : Shared} {K : Frag} {L : Addr} {h₀ : Heap} {m : Str → Option Value} {news : List (Addr × Obj)} {R : Result → Shared → Prop} {x C dx : Addr} {name : Str}
theorem osaE_open {ox : Obj} {tk : Tok} {v : Value} {cd : ClassData} (X : K.In s.heap) (hx : s.heap.get? x = some ox) (hcl : ox.cls = .ref C) (hc : clsIn K C = some cd) (hm : cd.mro = .ref C :: excTail) (ht : takerIn K C name = some none)
    (h : ∀ b, wpAny (model prog w) A.in1 (storeInOwnDict (.ref x) (.ref C) (.str name tk) name v b)
      (fun fin s' => match fin with | .done f => R (.ok f) s' | .again c' => c'.quiet = true ∧ codeAny (model prog w) A c' R s') (fun e s' => R (.error e) s') s) :
    codeAny (model prog w) A (.call (.builtin "object.__setattr__") ⟨[.ref x, .str name tk, v], []⟩) R s := by
  have SF := PySem.F.store_object
  have ty : Looks (model prog w) s.heap (typeOf (.ref x)) (.ref C) := by
    have z : Looks (model prog w) s.heap (typeOf (.ref x)) ox.cls := (Looks.ld hx).andThen .now
    rwa [hcl] at z
  have sub : Looks (model prog w) s.heap (isInstance (.ref x) (.type "object")) true := ty.andThen (looks_mroIn X (by unfold mroIn; rw [hc, Option.bind_some, hm, if_neg (by simp)]; rfl))
  refine codeAny_call_builtin SF.slot.plain SF.entry (@check_slot (model prog w) _ _ s "object.__setattr__" "object" "__setattr__" (.ref x) [.str name tk, v] [] _ SF.kind SF.split sub (SF.args (.ref x) (.str name tk) v) ?_)
  obtain ⟨attr, ha, hr⟩ := Option.bind_eq_some_iff.mp ht
  have hm' : Looks (model prog w) s.heap (mroOf (.ref C)) cd.mro := (looks_clsIn X hc).andThen .now
  have L3 : Looks (model prog w) s.heap (storeTaker? attr) none := by
    cases attr with
    | none => exact .now
    | some a =>
      obtain ⟨b, hb, q⟩ := Option.map_eq_some_iff.mp hr
      refine (looks_takesIn X hb).andThen ?_
      cases b
      · exact .now
      · cases q
  rw [osa_eq, refuse_eq]
  refine wpAny_bind (wpAny_bind (ty.here (wpAny_bind (hm'.here ?_))))
  rw [hm, refuseLoop_ref, refuse_exc]
  refine wpAny_pure (wpAny_bind (ty.here (wpAny_bind ((looks_findIn X ha).here (wpAny_bind (L3.here ?_))))))
  exact h _

/-- the first attribute of an exception: its dict is made -/
theorem osaE_first {tp : Addr} {tk : Tok} {v : Value} {cd : ClassData} (F : Fr h₀ L s.heap m) (N : News h₀ L s.heap news) (X : K.In s.heap) (hx : (x, excNew C tp) ∈ news) (hc : clsIn K C = some cd) (hm : cd.mro = .ref C :: excTail) (hdc : cd.hasDict = true) (ht : takerIn K C name = some none)
    (h : ∀ d u h' news', Fr h₀ L h' m → News h₀ L h' news' → (x, excDict C d tp) ∈ news' → (d, dictOf [⟨PyData.keyHash w.params name, .str name u, v⟩] 1) ∈ news' → Keep x news news' → (∀ p ∈ news, p.1 < d) → R (.ok (.ret .none)) { s with heap := h', toks := s.toks + 1 }) :
    codeAny (model prog w) A (.call (.builtin "object.__setattr__") ⟨[.ref x, .str name tk, v], []⟩) R s := by
  have ho := (N _ hx).1
  refine osaE_open X ho rfl hc hm ht fun b => ?_
  have F1 := F.push emptyDict
  have N1 := N.push F emptyDict
  have hne : x ≠ s.heap.objs.size := Nat.ne_of_lt (Heap.lt_size ho)
  have hx1 : (x, excNew C tp) ∈ (s.heap.objs.size, emptyDict) :: news := .tail _ hx
  have ho1 := (N1 _ hx1).1
  have u1 := Heap.get?_update_self (fun o => { o with dict := some s.heap.objs.size }) ho1 rfl
  obtain ⟨news2, F2, N2, a2, k2⟩ := chg F1 N1 hx1 (Heap.SameBut.update _ x (fun o => { o with dict := some s.heap.objs.size })) u1
  have d2 : (s.heap.objs.size, emptyDict) ∈ news2 := k2.mem (.head _) (Ne.symm hne)
  have D := (N2 _ d2).1
  have u2 := Heap.get?_update_self (Obj.putName name (PyData.keyHash w.params name) (.str name s.toks) v) D (by rw [show emptyDict = dictOf [] 0 from rfl, putName_dict]; rfl)
  rw [show emptyDict = dictOf [] 0 from rfl, putName_dict] at u2
  obtain ⟨news3, F3, N3, a3, k3⟩ := chg F2 N2 d2 (Heap.SameBut.update _ s.heap.objs.size (Obj.putName name (PyData.keyHash w.params name) (.str name s.toks) v)) u2
  refine wpAny_bind (wpAny_pure (wpAny_bind (wpAny_bind (wpAny_loadPart ho (wpAny_bind ((looks_clsIn X hc).here ?_))))))
  rw [hdc]
  refine wpAny_bind (wpAny_alloc (wpAny_bind (wpAny_update ho1 (wpAny_pure (a := some s.heap.objs.size) (wpAny_bind (wpAny_pure (wpAny_bind ?_)))))))
  unfold nsSet
  refine wpAny_bind (wpAny_bind (wpAny_askSetting (wpAny_pure (wpAny_bind (wpAny_mkText (wpAny_bind (wpAny_loadPart D ?_)))))))
  refine wpAny_updatePart D ?_
  refine wpAny_bind (wpAny_lookBehind (N3 _ a3).1 (pastItsLine_dict (by simp [putL])) ?_)
  exact wpAny_pure (h s.heap.objs.size _ _ news3 F3 N3 (k3.mem a2 hne) a3 (fun p hp hne' => k3.mem (k2.mem (.tail _ hp) hne') (Nat.ne_of_lt (Heap.lt_size (N _ hp).1))) fun p hp => Heap.lt_size (N _ hp).1)

/-- a further attribute -/
theorem osaE_next {ox : Obj} {es : List DictEntry} {n : Nat} {tk : Tok} {v : Value} {cd : ClassData} (F : Fr h₀ L s.heap m) (N : News h₀ L s.heap news) (X : K.In s.heap) (hx : (x, ox) ∈ news) (hcl : ox.cls = .ref C) (hox : ox.dict = some dx) (hd : (dx, dictOf es n) ∈ news)
    (hc : clsIn K C = some cd) (hm : cd.mro = .ref C :: excTail) (hdc : cd.hasDict = true) (ht : takerIn K C name = some none) (hl : (getL name es).isSome = true) (hz : (putL name (PyData.keyHash w.params name) (.str name s.toks) v es).length ≤ 1000)
    (h : ∀ u h' news', Fr h₀ L h' m → News h₀ L h' news' → (dx, dictOf (putL name (PyData.keyHash w.params name) (.str name u) v es) (putN name es n)) ∈ news' → Keep dx news news' → R (.ok (.ret .none)) { s with heap := h', toks := s.toks + 1 }) :
    codeAny (model prog w) A (.call (.builtin "object.__setattr__") ⟨[.ref x, .str name tk, v], []⟩) R s := by
  have ho := (N _ hx).1
  refine osaE_open X ho hcl hc hm ht fun b => ?_
  unfold storeInOwnDict
  have D := (N _ hd).1
  have u2 := Heap.get?_update_self (Obj.putName name (PyData.keyHash w.params name) (.str name s.toks) v) D (by rw [putName_dict]; rfl)
  rw [putName_dict] at u2
  obtain ⟨news3, F3, N3, a3, k3⟩ := chg F N hd (Heap.SameBut.update _ dx (Obj.putName name (PyData.keyHash w.params name) (.str name s.toks) v)) u2
  obtain ⟨oc, odi, oda, osl⟩ := ox
  dsimp only at hcl hox
  subst hcl hox
  refine wpAny_bind (wpAny_pure (wpAny_bind (wpAny_bind (wpAny_loadPart ho (wpAny_bind ((looks_clsIn X hc).here ?_))))))
  rw [hdc]
  refine wpAny_pure (a := some dx) (wpAny_bind (wpAny_pure (wpAny_bind ?_)))
  unfold nsSet
  refine wpAny_bind (wpAny_bind (wpAny_askSetting (wpAny_pure (wpAny_bind (wpAny_mkText (wpAny_bind (wpAny_loadPart D ?_)))))))
  have c : (!(es.toArray).any (·.key.isStr name) && (es.toArray).any (·.refKey)) = false := by
    rw [← Array.any_toList, ← Array.any_toList]
    unfold getL at hl
    split at hl
    · rename_i en he
      rw [List.any_eq_true.mpr ⟨en, List.mem_of_find?_eq_some he, List.find?_some he⟩]; rfl
    · split at hl
      · cases hl
      · rename_i z; rw [Bool.not_eq_true] at z; rw [z, Bool.and_false]
  dsimp only
  rw [aRefKeyMayBeTheName_at, c]
  refine wpAny_updatePart D ?_
  refine wpAny_bind (wpAny_lookBehind (N3 _ a3).1 (pastItsLine_dict (by rw [List.size_toArray, sizeLine_eq]; omega)) ?_)
  exact wpAny_pure (h _ _ news3 F3 N3 a3 k3)
end

end
/-! Ex2 -/
local macro_rules | `(tactic| k_room) => `(tactic| ktr_room)

section
section
variable {M : Model} {A : Around} {E : Value → Shared → Prop} {s : Shared} {env : Env} {pos : Pos} {f : Value} {first : List Value} {Q : Value → Shared → Prop}
theorem callWith_P {P : Heap → Prop} {e : PySem.Expr} {rest : List PySem.Expr} (hk : ∀ h, P h → ∃ k, (k = Keeper.frame ∨ k = Keeper.machine ∨ k = Keeper.boundFrame) ∧ Looks M h (keeperOf f) k)
    (h : wpAny M A (spliced (backTo pos (starEach (e :: rest) env))) (fun vs s₁ => P s₁.heap ∧ wpAny M A (call f (first ++ vs)) Q E s₁) E s)
    (he : starEach (e :: rest) env = (false, eval e env) :: starEach rest env := by rfl) (hplain : (backTo pos (starEach rest env)).any (·.1) = false := by rfl) :
    wpAny M A (callWith pos f first (backTo pos (starEach (e :: rest) env)) []) Q E s := by
  rw [he] at h ⊢
  exact callWith_of (by show ((false || (backTo pos (starEach rest env)).any (·.1)) || false) = false; rw [hplain]; rfl) hk (evalArgs_plain h)
end
set_option maxRecDepth 100000 in
set_option maxHeartbeats 8000000 in
theorem basic_made {w : World} {A : Around} {cn : Str} {cs : Scope} {a : Addr} {ccd : Value} {cl : List (Str × Addr)} {outer : List Env} {A₀ : Around} {base h₀ : Heap} {L : Addr} {m mg mb : Str → Option Value}
    {news : List (Addr × Obj)} {s : Shared} {Q E : Value → Shared → Prop} {loose : List Str} {mean : ExcName → Option Value}
    (B : Below A₀ base outer h₀) (F : Fr h₀ L s.heap m) (X : (hd.heap_1 w.params).In h₀) (N : News h₀ L s.heap news) (T : Top topProg loose mean mg mb h₀)
    (hk : cs.kind = .function) {dp un : Nat} {gd : Option (List Code)} (hA : A = ktrTop dp un gd cn cs L a ccd cl outer) (hdp : dp + 3 < recursionLimit) (hu : un + 30 < cLine)
    {code : Str} {tc : Tok}
    (ret : ∀ e d tp es n h' tk' news', Fr h₀ L h' m → News h₀ L h' news' → (e, excDict 34 d tp) ∈ news' → (d, dictOf es n) ∈ news' → getL "code" es = some (some (.str code tc)) → (∀ p ∈ news, p ∈ news') → (∀ p ∈ news, p.1 < e) →
      Q (.ref e) { s with heap := h', toks := tk' }) :
    wpAny (model PySem.Challenge.rw_pq0172_01.row.prog w) A (call (.ref 34) [.str code tc]) Q E s := by
  revert X; k_fill; intro X
  subst hA
  k_dflt (refine' exc_call PySem.F.excBase_Exception ?F ?X ?N ?hC ?hi ?hf ?hr ?_; (case F => k_asm); (case X => k_asm); (case N => k_asm); (case hC => k_is); (case hi => k_is); (case hf => k_is); (case hr => (simp; done)); k_whole)
  intro e tp h' n1 F' N' a1 c1 l1
  k_dflt (refine' ks_code_super ?k1 ?k2 ?k3 ?k4 ?k5 ?kA ?kF ?kK ?k6 ?k7 ?k8 ?k9 ?kB ?_ ?c1 ?c2 ?c3 ?c4; (case kA => exact rfl); (case kF => exact rfl); (case kK => exact hk); (case k1 => k_asm); (case k2 => k_asm); (case k3 => k_asm); (case k4 => k_asm); (case k5 => k_asm); (case k6 => k_is); (case k7 => k_is); (case k8 => k_room); (case k9 => exact binds_K (by k_in) rfl (by k_is) rfl rfl rfl); (case kB => exact locs rfl); (case c1 => decide); (case c2 => exact rfl); (case c3 => exact rfl); (case c4 => exact rfl))
  intro g' L' h1' FG' F1' N1' B' X' T' l3
  dsimp only
  have hm1 := (N1' _ a1).1
  refine ks_wpAt_execs_cons ?_
  refine ks_wpAt_Expr_any ?_
  refine ks_wpAt_MethodCall ?_
  k_dflt (refine ks_node F1' X' N1' T' (by k_is) (by rfl) (by rfl) (InstAt.mk (od := none) hm1 rfl rfl trivial) (by k_is) (by rfl) (by first | rfl | decide +kernel) (by k_is) (by k_is) (by k_is) (by k_is) (by decide) (by rfl) (by rfl) (by rfl) (by rfl) (by decide +kernel) (by first | boot_by_name | rfl | kernel_rfl) ?_)
  intro so h2' F2' N2' l4
  obtain ⟨cd, hc, hmro, hdc⟩ : ∃ cd, clsIn (hd.heap_1 w.params) 34 = some cd ∧ cd.mro = .ref 34 :: excTail ∧ cd.hasDict = true := ⟨_, by k_is, rfl, rfl⟩
  refine superB_N F2' X' N2' (.tail _ a1) (.head _) hc (by k_is) (by k_is) (by rw [hmro]; kernel_rfl) (by decide) ?_
  intro b h3 n3 F3 N3 b3 c3
  dsimp only
  have a3 := c3 _ (.tail _ a1)
  have c4 : ∀ p ∈ n1, p ∈ n3 := fun p hp => c3 p (.tail _ hp)
  clear c3 F2' N2' l4
  k_dflt (refine callWith_P (P := fun h => h.get? b = some (wrapObj EI (.ref e))) (fun h hp => ⟨.machine, .inr (.inl rfl), (Looks.ld (part := none) hp).andThen .now⟩) ?_)
  have hb3 := (N3 _ b3).1
  k_steps
  k_dflt (refine' call_wrapN PySem.F.excBase_Exception F3 X' N3 ?hC b3 a3 ?hr ?_; (case hC => k_is); (case hr => (simp; done)))
  intro tp5 h5 n5 F5 N5 a5 k5
  clear F3 N3
  k_steps
  refine set_plain (C := 34) (X'.keeps F5.keep) (InstAt.mk (od := none) (N5 _ a5).1 rfl rfl trivial) (by k_dflt k_is) ?_
  refine osaE_first F5 N5 (X'.keeps F5.keep) a5 hc hmro hdc (by k_dflt k_is) ?_
  intro d u6 h6 n6 F6 N6 a6 d6 k6 l6
  clear F5 N5
  k_steps
  refine set_plain (C := 34) (X'.keeps F6.keep) (InstAt.mk (od := some _) (N6 _ a6).1 rfl rfl (N6 _ d6).1) (by k_dflt k_is) ?_
  refine osaE_next F6 N6 (X'.keeps F6.keep) a6 rfl rfl d6 hc hmro hdc (by k_dflt k_is) (by rfl) (Nat.le_trans (putL_len ..) (Nat.le_of_ble_eq_true rfl)) ?_
  intro u7 h7 n7 F7 N7 d7 k7
  clear F6 N6
  k_steps
  have e5 : ∀ p ∈ news, p ∈ n5 := fun p hp => k5 p (c4 p (c1 p hp)) (Nat.ne_of_lt (l1 p hp))
  exact ret e d tp5 _ _ _ _ n7 (by k_asm) (by k_asm) (k7.mem a6 (Nat.ne_of_lt (l6 _ a5))) d7 (by rfl) (fun p hp => k7 p (k6 p (e5 p hp) (Nat.ne_of_lt (l1 p hp))) (Nat.ne_of_lt (l6 p (e5 p hp)))) l1

end
/-! Ex6 -/
section
set_option maxRecDepth 100000
/-! an exception in flight, as entries of the ledger; the ground under it turns its frames' slots -/
section
variable {A₀ : Around} {base g h h' : Heap} {outer : List Env} {L : Addr} {m : Str → Option Value} {news : List (Addr × Obj)} {env : Env}
theorem frames_cons {b : Addr} (hf : env.frame = some L) (hb : b ∈ (env :: outer).filterMap (·.frame)) : b = L ∨ b ∈ outer.filterMap (·.frame) := by
  obtain ⟨e', he, hf'⟩ := List.mem_filterMap.mp hb
  rcases List.mem_cons.mp he with rfl | he
  · exact .inl (Option.some.inj (hf'.symm.trans hf))
  · exact .inr (List.mem_filterMap.mpr ⟨e', he, hf'⟩)
theorem off_frames (B : Below A₀ base outer g) (N : News g L h news) (hf : env.frame = some L) {p : Addr × Obj} (hp : p ∈ news) : p.1 ∉ (env :: outer).filterMap (·.frame) := fun q => by
  rcases frames_cons hf q with z | z
  · exact (N p hp).2.1 z
  · obtain ⟨_, o, ho, _⟩ := B.frames.mem z
    rw [(N p hp).2.2] at ho
    cases ho
theorem turnG (B : Below A₀ base outer g) (F : Fr g L h m) (N : News g L h news) (hf : env.frame = some L) (X : List Addr) (hX : ∀ x ∈ X, g.get? x = none)
    (h1 : ∀ b o, b ∉ (env :: outer).filterMap (·.frame) → b ∉ X → h.get? b = some o → h'.get? b = some o) (h2 : ∀ b o, b ∈ (env :: outer).filterMap (·.frame) → h.get? b = some o → ∃ sl, h'.get? b = some { o with slots := sl }) :
    ∃ g', KtsTurn (outer.filterMap (·.frame)) g g' ∧ Fr g' L h' m ∧ Below A₀ base outer g' ∧ ∀ p ∈ news, p.1 ∉ X → h'.get? p.1 = some p.2 := by
  have nL : g.get? L = none := kts_self F
  have nX : ∀ b o, g.get? b = some o → b ∉ X := fun b o e q => by rw [hX b q] at e; cases e
  obtain ⟨T, S⟩ := kts_turn_at (h := h') (fs := outer.filterMap (·.frame)) (g := g)
    (fun b hb => by
      obtain ⟨_, o, ho, _⟩ := B.frames.mem hb
      exact ⟨o, ho⟩)
    (fun b o e nm => h1 b o (fun q => by
      rcases frames_cons hf q with z | z
      · rw [z, nL] at e
        cases e
      · exact nm z) (nX b o e) (F.keep b o e))
    (fun b o e hm => h2 b o (by
      obtain ⟨e', he, hf'⟩ := List.mem_filterMap.mp hm
      exact List.mem_filterMap.mpr ⟨e', .tail _ he, hf'⟩) (F.keep b o e))
  refine ⟨_, T, ⟨?_, S, by rw [T.size]; exact F.above⟩, ⟨B.stack, fun b o e => T.other b o (B.stays b o e) (fun hm => by
    rw [(B.frames.mem hm).1] at e
    cases e), B.frames.of_keeps fun b o e _ => ?_⟩, fun p hp hx => h1 p.1 p.2 (off_frames B N hf hp) hx (N p hp).1⟩
  · obtain ⟨oL, es, ep, hL, hd, r⟩ := F.ns
    obtain ⟨sl, hs⟩ := h2 L oL (List.mem_filterMap.mpr ⟨env, .head _, hf⟩) hL
    exact ⟨_, es, ep, hs, hd, r⟩
  · obtain ⟨sl, hs⟩ := T.up e
    exact ⟨_, hs, rfl⟩
theorem turn_news {g' : Heap} {fs : List Addr} {news' : List (Addr × Obj)} (T : KtsTurn fs g g') (k : ∀ p ∈ news', h'.get? p.1 = some p.2 ∧ p.1 ≠ L ∧ g.get? p.1 = none) : News g' L h' news' :=
  fun p hp => ⟨(k p hp).1, (k p hp).2.1, T.none_ _ (k p hp).2.2⟩

/-- out of a frame: the caller's ground turns with the callee's -/
theorem exitX {h₀ g g' s' : Heap} {L' : Addr} {m' : Str → Option Value} (B : Below A₀ base outer h₀) (FG : Fr h₀ L g m) (hf : env.frame = some L) (T : KtsTurn ((env :: outer).filterMap (·.frame)) g g') (F : Fr g' L' s' m') (N : News g' L' s' news) :
    ∃ h₀', KtsTurn (outer.filterMap (·.frame)) h₀ h₀' ∧ Fr h₀' L s' m ∧ News h₀' L s' news ∧ Below A₀ base outer h₀' := by
  have nL : h₀.get? L = none := kts_self FG
  obtain ⟨oL, es, ep, hL, hd, r⟩ := FG.ns
  obtain ⟨sl, hs⟩ := T.up hL
  obtain ⟨T₁, S₁⟩ := kts_turn_at (h := s') (fs := outer.filterMap (·.frame)) (g := h₀)
    (fun b hb => by
      obtain ⟨_, o, ho, _⟩ := B.frames.mem hb
      exact ⟨o, ho⟩)
    (fun b o e nm => F.keep b o (T.other b o (FG.keep b o e) (fun q => by
      rcases frames_cons hf q with z | z
      · rw [z, nL] at e
        cases e
      · exact nm z)))
    (fun b o e hm => by
      obtain ⟨sl', hs'⟩ := T.up (FG.keep b o e)
      exact ⟨sl', F.keep _ _ hs'⟩)
  refine ⟨_, T₁, ⟨⟨_, es, ep, F.keep _ _ hs, hd, r⟩, S₁, by rw [T₁.size]; exact FG.above⟩, fun p hp => ⟨(N p hp).1, fun q => ?_, T₁.none_ _ ?_⟩, ⟨B.stack, fun b o e => T₁.other b o (B.stays b o e) (fun hm => by
    rw [(B.frames.mem hm).1] at e
    cases e), B.frames.of_keeps fun b o e _ => ?_⟩⟩
  · have := (N p hp).2.2; rw [q, hs] at this; cases this
  · cases q : h₀.get? p.1 with
    | none => rfl
    | some o =>
      obtain ⟨sl', hs'⟩ := T.up (FG.keep _ _ q)
      have := (N p hp).2.2
      rw [hs'] at this
      cases this
  · obtain ⟨sl', hs'⟩ := T₁.up e
    exact ⟨_, hs', rfl⟩
end

def KeepLo (lo : Addr) (news news' : List (Addr × Obj)) : Prop := ∀ p ∈ news, p.1 < lo → p ∈ news'
def Exc (news : List (Addr × Obj)) (e : Addr) (code : Str) (fl : Value) (lo : Addr) : Prop :=
  ∃ oe vs T oT ts d es n tc, (e, oe) ∈ news ∧ oe.cls = .ref 34 ∧ oe.dict = some d ∧ oe.data = .fields vs ∧ vs[1]? = some (.ref T) ∧ T ≠ e ∧ (T, oT) ∈ news ∧ oT.data = .fields ts ∧ ts[3]? = some fl ∧
    (d, dictOf es n) ∈ news ∧ getL "code" es = some (some (.str code tc)) ∧ d ≠ e ∧ d ≠ T ∧ lo ≤ e ∧ lo ≤ T
def ExcNew (news : List (Addr × Obj)) (e : Addr) (code : Str) (lo : Addr) : Prop :=
  ∃ oe vs d es n tc, (e, oe) ∈ news ∧ oe.cls = .ref 34 ∧ oe.dict = some d ∧ oe.data = .fields vs ∧ vs[1]? = some .none ∧ (d, dictOf es n) ∈ news ∧ getL "code" es = some (some (.str code tc)) ∧ d ≠ e ∧ lo ≤ e
abbrev tbObj (head : Value) (L : Addr) (pl : List Value) : Obj := { cls := .type "traceback", dict := none, data := .fields ([head, .ref L, .none, rawInt L, .none] ++ (if pl.isEmpty then List.replicate 6 Value.none else pl)).toArray }
theorem dict_mapFields (o : Obj) (f) : (o.mapFields f).dict = o.dict := by
  obtain ⟨c, d, dt, sl⟩ := o; cases dt <;> rfl

section
variable {M : Model} {A A₀ : Around} {E : Value → Shared → Prop} {s : Shared} {base g : Heap} {outer : List Env} {env : Env} {L e : Addr} {m : Str → Option Value} {news : List (Addr × Obj)} {oe : Obj} {vs : Array Value} {code : Str}
theorem entryG {head : Value} {hadNext : Bool} {Q : Unit → Shared → Prop} (hfr : A.frames = some (env :: outer)) (B : Below A₀ base outer g) (F : Fr g L s.heap m) (N : News g L s.heap news) (hf : env.frame = some L) (hke : env.scope.kind = .function)
    (he : (e, oe) ∈ news) (hd : oe.data = .fields vs) (hsz : 1 < vs.size)
    (h : ∀ h' g' news' T oT ts, KtsTurn (outer.filterMap (·.frame)) g g' → Fr g' L h' m → News g' L h' news' → Below A₀ base outer g' → (e, oe.mapFields (·.setIfInBounds 1 (.ref T))) ∈ news' → (T, oT) ∈ news' → oT.data = .fields ts → ts[3]? = some (rawInt L) → T ≠ e →
      Keep e news news' → (∀ p ∈ news, p.1 < T) → Q () { s with heap := h' }) :
    wpAny M A (do let a ← frameOf env; let pl ← entryPlaceOf L hadNext; let b ← EntryCells.newEntry head a .none (rawInt L) .none pl; setField (.ref e) 1 b) Q E s := by
  have hl := (pushX B F hf hke).frames
  have heg := (N _ he).1
  have hene : e ∉ (env :: outer).filterMap (·.frame) := off_frames B N hf he
  refine wpAny_bind (wpAny_frameOf_fun hfr hl hf fun h₁ hs₁ => ?_)
  refine wpAny_bind (wpAny_entryPlaceOf fun pl hpl => ?_)
  unfold EntryCells.newEntry newFields
  refine wpAny_bind (wpAny_newObj_type ?_ (hpl.sizeOk5 _ _ _ _ _))
  have he₁ : h₁.get? e = some oe := (hs₁.2.1 e hene).trans heg
  have he₂ := Heap.get?_push_of_some (h := h₁) (tbObj head L pl) he₁
  refine wpAny_setField he₂ hd hsz ?_
  have hTe : h₁.objs.size ≠ e := Nat.ne_of_gt (Heap.lt_size he₁)
  have hd₃ := Obj.data_mapFields hd (·.setIfInBounds 1 (Value.ref h₁.objs.size))
  have he₃ := Heap.get?_update_self (Obj.mapFields (·.setIfInBounds 1 (Value.ref h₁.objs.size))) he₂ (Obj.isFreed_of_fields hd₃)
  have hT₃ := (Heap.get?_update_other (h₁.push (tbObj head L pl))
    (Obj.mapFields (·.setIfInBounds 1 (Value.ref h₁.objs.size))) (Ne.symm hTe)).trans (Heap.get?_push_size h₁ rfl)
  have keep : ∀ b o, b ≠ e → h₁.get? b = some o →
      ((h₁.push (tbObj head L pl)).update e (Obj.mapFields (·.setIfInBounds 1 (Value.ref h₁.objs.size)))).get? b = some o := fun b o hbe hb => by
    rw [Heap.get?_update_other _ _ (Ne.symm hbe)]
    exact Heap.get?_push_of_some _ hb
  have heg0 : g.get? e = none := (N _ he).2.2
  have hLs := F.ns.lt
  have hTL : h₁.objs.size ≠ L := Nat.ne_of_gt (by rw [hs₁.1]; exact hLs)
  have hTg : g.get? h₁.objs.size = none := Heap.get?_none_of_le (Nat.le_trans F.above (by rw [hs₁.1]; exact Nat.le_of_lt hLs))
  obtain ⟨g', T', F', B', K'⟩ := turnG (h' := (h₁.push (tbObj head L pl)).update e (Obj.mapFields (·.setIfInBounds 1 (Value.ref h₁.objs.size)))) B F N hf [e] (fun x hx => by rw [List.mem_singleton.mp hx]; exact heg0)
    (fun b o hb hx e' => keep b o (fun q => hx (List.mem_singleton.mpr q)) ((hs₁.2.1 b hb).trans e'))
    (fun b o hb e' => by
      obtain ⟨sl, hs⟩ := hs₁.2.2 b o e'
      exact ⟨sl, keep b _ (fun q => hene (q ▸ hb)) hs⟩)
  refine h _ g' ((e, oe.mapFields (·.setIfInBounds 1 (.ref h₁.objs.size))) :: (h₁.objs.size, tbObj head L pl) :: news.filter fun p => p.1 != e) h₁.objs.size (tbObj head L pl) _ T' F' (fun p hp => ?_) B' (.head _) (.tail _ (.head _)) rfl (by simp) hTe
    (fun p hp hne => .tail _ (.tail _ (List.mem_filter.mpr ⟨hp, by simpa using hne⟩))) (fun p hp => by rw [hs₁.1]; exact Heap.lt_size (N p hp).1)
  rcases List.mem_cons.mp hp with rfl | hp
  · exact ⟨he₃, (N _ he).2.1, T'.none_ _ heg0⟩
  · rcases List.mem_cons.mp hp with rfl | hp
    · exact ⟨hT₃, hTL, T'.none_ _ hTg⟩
    · obtain ⟨hp, hne⟩ := List.mem_filter.mp hp
      exact ⟨K' p hp (fun q => (by simpa using hne : p.1 ≠ e) (List.mem_singleton.mp q)), (N p hp).2.1, T'.none_ _ (N p hp).2.2⟩

/-- the frame is noted on a fresh exception -/
theorem noteG_new {lo : Addr} {Q : Unit → Shared → Prop} (hfr : A.frames = some (env :: outer)) (B : Below A₀ base outer g) (F : Fr g L s.heap m) (N : News g L s.heap news) (hf : env.frame = some L) (hke : env.scope.kind = .function) (hx : ExcNew news e code lo)
    (h : ∀ h' g' news', KtsTurn (outer.filterMap (·.frame)) g g' → Fr g' L h' m → News g' L h' news' → Below A₀ base outer g' → Exc news' e code (rawInt L) lo → KeepLo lo news news' → Q () { s with heap := h' }) :
    wpAny M A (noteFrame (.ref e) env) Q E s := by
  obtain ⟨oe, vs, d, es, n, tc, he, hc, hdi, hd, h1, hdd, hg, hde, hlo⟩ := hx
  have heg := (N _ he).1
  unfold noteFrame
  simp only [hf]
  refine wpAny_bind (wpAny_field heg hd h1 ?_)
  rw [if_neg (by decide)]
  have hsz := (Array.getElem?_eq_some_iff.mp h1).1
  refine entryG hfr B F N hf hke he hd hsz fun h' g' news' T oT ts k1 k2 k3 k4 k5 k6 k7 k8 k9 k10 k11 => h h' g' news' k1 k2 k3 k4 ?_ fun p hp hl => k10 p hp (Nat.ne_of_lt (Nat.lt_of_lt_of_le hl hlo))
  exact ⟨_, _, T, oT, ts, d, es, n, tc, k5, (Obj.cls_mapFields _ _).trans hc, (dict_mapFields _ _).trans hdi, Obj.data_mapFields hd _, by simp [hsz], k9, k6, k7, k8, k10 _ hdd hde, hg, hde, Nat.ne_of_lt (k11 _ hdd), hlo, Nat.le_trans hlo (Nat.le_of_lt (k11 _ he))⟩
/-- .. on one in flight -/
theorem noteG_next {lo : Addr} {Q : Unit → Shared → Prop} (hfr : A.frames = some (env :: outer)) (B : Below A₀ base outer g) (F : Fr g L s.heap m) (N : News g L s.heap news) (hf : env.frame = some L) (hke : env.scope.kind = .function) (hx : Exc news e code .none lo)
    (h : ∀ h' g' news', KtsTurn (outer.filterMap (·.frame)) g g' → Fr g' L h' m → News g' L h' news' → Below A₀ base outer g' → Exc news' e code (rawInt L) lo → KeepLo lo news news' → Q () { s with heap := h' }) :
    wpAny M A (noteFrame (.ref e) env) Q E s := by
  obtain ⟨oe, vs, T₀, oT₀, ts₀, d, es, n, tc, he, hc, hdi, hd, h1, hTe, hT, hdT, h3, hdd, hg, hde, hdT', hlo, hlT⟩ := hx
  have heg := (N _ he).1
  have hTg := (N _ hT).1
  unfold noteFrame
  simp only [hf]
  refine wpAny_bind (wpAny_field heg hd h1 ?_)
  rw [if_pos (show (Value.ref T₀ != Value.none) = true from by simp)]
  refine wpAny_bind (wpAny_field hTg hdT h3 ?_)
  rw [if_neg (show ¬ ((Value.none == rawInt L) = true) from by simp [rawInt])]
  refine wpAny_bind (wpAny_setField hTg hdT (Array.getElem?_eq_some_iff.mp h3).1 ?_)
  have hsz := (Array.getElem?_eq_some_iff.mp h1).1
  obtain ⟨n2, F2, N2, a2, k2⟩ := chg F N hT (Heap.SameBut.update _ T₀ _) (Heap.get?_update_self (Obj.mapFields (·.setIfInBounds 3 Value.none)) hTg (Obj.isFreed_of_fields (Obj.data_mapFields hdT _)))
  refine entryG (s := { s with heap := s.heap.update T₀ (Obj.mapFields (·.setIfInBounds 3 Value.none)) }) hfr B F2 N2 hf hke (k2.mem he (Ne.symm hTe)) hd hsz fun h' g' news' T oT ts k1 k2' k3 k4 k5 k6 k7 k8 k9 k10 k11 => h h' g' news' k1 k2' k3 k4 ?_
    fun p hp hl => k10 p (k2 p hp (Nat.ne_of_lt (Nat.lt_of_lt_of_le hl hlT))) (Nat.ne_of_lt (Nat.lt_of_lt_of_le hl hlo))
  exact ⟨_, _, T, oT, ts, d, es, n, tc, k5, (Obj.cls_mapFields _ _).trans hc, (dict_mapFields _ _).trans hdi, Obj.data_mapFields hd _, by simp [hsz], k9, k6, k7, k8, k10 _ (k2.mem hdd hdT') hde, hg, hde, Nat.ne_of_lt (k11 _ (k2.mem hdd hdT')), hlo, Nat.le_trans hlo (Nat.le_of_lt (k11 _ (k2.mem he (Ne.symm hTe))))⟩
/-- its flight ends -/
theorem flightG {lo : Addr} {fl : Value} {Q : Unit → Shared → Prop} (F : Fr g L s.heap m) (N : News g L s.heap news) (hx : Exc news e code fl lo)
    (h : ∀ h' news', Fr g L h' m → News g L h' news' → Exc news' e code .none lo → KeepLo lo news news' → Q () { s with heap := h' }) :
    wpAny M A (setFlight (.ref e) none) Q E s := by
  obtain ⟨oe, vs, T₀, oT₀, ts₀, d, es, n, tc, he, hc, hdi, hd, h1, hTe, hT, hdT, h3, hdd, hg, hde, hdT', hlo, hlT⟩ := hx
  have heg := (N _ he).1
  have hTg := (N _ hT).1
  have hsz3 := (Array.getElem?_eq_some_iff.mp h3).1
  unfold setFlight
  refine wpAny_bind (wpAny_field heg hd h1 ?_)
  rw [if_pos (show (Value.ref T₀ != Value.none) = true from by simp)]
  obtain ⟨n2, F2, N2, a2, k2⟩ := chg F N hT (Heap.SameBut.update _ T₀ _) (Heap.get?_update_self (Obj.mapFields (·.setIfInBounds 3 ((none : Option Addr).elim Value.none fun f => rawInt f))) hTg (Obj.isFreed_of_fields (Obj.data_mapFields hdT _)))
  refine wpAny_setField hTg hdT hsz3 (h _ n2 F2 N2 ?_ fun p hp hl => k2 p hp (Nat.ne_of_lt (Nat.lt_of_lt_of_le hl hlT)))
  exact ⟨oe, vs, T₀, _, _, d, es, n, tc, k2.mem he (Ne.symm hTe), hc, hdi, hd, h1, hTe, a2, Obj.data_mapFields hdT _, by simp [hsz3], k2.mem hdd hdT', hg, hde, hdT', hlo, hlT⟩
/-- a frame is left by a fresh exception -/
theorem leaveG_new {lo : Addr} {Q : Unit → Shared → Prop} (hfr : A.frames = some (env :: outer)) (B : Below A₀ base outer g) (F : Fr g L s.heap m) (N : News g L s.heap news) (hf : env.frame = some L) (hke : env.scope.kind = .function) (hx : ExcNew news e code lo)
    (h : ∀ h' g' news', KtsTurn (outer.filterMap (·.frame)) g g' → Fr g' L h' m → News g' L h' news' → Below A₀ base outer g' → Exc news' e code .none lo → KeepLo lo news news' → Q () { s with heap := h' }) :
    wpAny M A (leaving env (.ref e)) Q E s := by
  unfold leaving
  refine wpAny_bind (noteG_new hfr B F N hf hke hx fun h' g' n' k1 k2 k3 k4 k5 k6 => flightG (s := { s with heap := h' }) k2 k3 k5 fun h2 n2 j1 j2 j3 j4 => h h2 g' n2 k1 j1 j2 k4 j3 fun p hp hl => j4 p (k6 p hp hl) hl)
theorem leaveG_next {lo : Addr} {Q : Unit → Shared → Prop} (hfr : A.frames = some (env :: outer)) (B : Below A₀ base outer g) (F : Fr g L s.heap m) (N : News g L s.heap news) (hf : env.frame = some L) (hke : env.scope.kind = .function) (hx : Exc news e code .none lo)
    (h : ∀ h' g' news', KtsTurn (outer.filterMap (·.frame)) g g' → Fr g' L h' m → News g' L h' news' → Below A₀ base outer g' → Exc news' e code .none lo → KeepLo lo news news' → Q () { s with heap := h' }) :
    wpAny M A (leaving env (.ref e)) Q E s := by
  unfold leaving
  refine wpAny_bind (noteG_next hfr B F N hf hke hx fun h' g' n' k1 k2 k3 k4 k5 k6 => flightG (s := { s with heap := h' }) k2 k3 k5 fun h2 n2 j1 j2 j3 j4 => h h2 g' n2 k1 j1 j2 k4 j3 fun p hp hl => j4 p (k6 p hp hl) hl)
end

end
/-! Ex7 -/
section
set_option maxRecDepth 100000
section
variable {prog : Program} {w : World} {A : Around} {E : Value → Shared → Prop} {s : Shared} {env : Env}
variable {nm q : Str} {C N : Addr} {bs bm : List Value} {hdct : Bool} {sn : List Str} {sub : List Value} {ab : Bool} {col : Option Bool} {dd : Option Addr} {k0 k1 k2 k3 k5 : Option Value} {newId : String}
theorem raise_dict {x : Sem Value} {Q : Flow → Shared → Prop} (hbase : bm.contains (.type "BaseException") = true) (hh : A.handled = none)
    (h : wpAny (model prog w) A x (fun v s₁ => ∃ e d t, v = .ref e ∧ s₁.heap.get? C = some (excClassObj nm q C N bs bm hdct sn sub ab col dd k0 k1 k2 k3 k5 newId) ∧ s₁.heap.get? e = some (excDict C d t) ∧ E (.ref e) s₁) E s) :
    wpAny (model prog w) A (raiseStmt env (some x) none) Q E s := by
  have hcB : (Value.ref C :: bm).contains (.type "BaseException") = true := by rw [List.contains_cons, hbase, Bool.or_true]
  unfold raiseStmt
  refine wpAny_bind (wpAny_mono h (fun v s₁ h₁ => ?_) fun _ _ x => x)
  obtain ⟨e, d, t, rfl, hC, he, hE⟩ := h₁
  obtain ⟨hp, g, d, tk, os⟩ := s₁
  repeat (first | with_reducible refine wpAny_loadPart_at he ?_ | with_reducible refine wpAny_loadPart_at hC ?_ | (with_reducible refine wpAny_isSubtype_exc hC ?_; rw [hcB]) | wp_step)
  exact wpAny_raiseNew_none hh hE
theorem Raise_dict {ce : PySem.Expr} {pos : Pos} {Q : Flow → Shared → Prop} (hbase : bm.contains (.type "BaseException") = true) (hh : A.handled = none)
    (h : wpAny (model prog w) A (eval ce env) (fun v s₁ => ∃ e d t, v = .ref e ∧ s₁.heap.get? C = some (excClassObj nm q C N bs bm hdct sn sub ab col dd k0 k1 k2 k3 k5 newId) ∧ s₁.heap.get? e = some (excDict C d t) ∧ E (.ref e) s₁) E s) :
    wpAny (model prog w) A (exec (.Raise (some ce) none pos) env) Q E s := by
  rw [arm_exec_Raise]
  simp only [evalOpt, Option.map]
  refine wpAny_bind (wpAny_standAt (raise_dict (C := C) (nm := nm) (q := q) (N := N) (bs := bs) (bm := bm) (hdct := hdct) (sn := sn) (sub := sub) (ab := ab) (col := col) (dd := dd) (k0 := k0) (k1 := k1) (k2 := k2) (k3 := k3) (k5 := k5) (newId := newId) hbase hh ?_))
  exact wpAny_bind (wpAny_mono h (fun v s₃ h₃ => wpAny_bind (wpAny_standAt (wpAny_pure h₃))) fun _ _ x => x)
end

section
variable {prog : Program} {w : World} {A₀ : Around} {E : Value → Shared → Prop} {s : Shared} {base g : Heap} {outer : List Env} {L a e : Addr} {m : Str → Option Value} {name : Str} {scope : Scope} {cd : Value}
  {n : Str} {b₀ : Stmt} {suite : List Stmt} {pos np : Pos} {rest : List ExceptHandler} {Q : Flow → Shared → Prop} {news : List (Addr × Obj)} {KF : Frag}
  {p : Program} {loose : List Str} {mean : ExcName → Option Value} {mg mb : Str → Option Value} {x code : Str} {lo : Addr}
theorem catchG (B : Below A₀ base outer g) (F : Fr g L s.heap m) (N : News g L s.heap news) (XB : KF.In base) (TB : Top p loose mean mg mb base) (hx : Exc news e code .none lo)
    (ex : nsIn KF mainGlobals x = some (some (.ref 34))) (q : ktsIn KF 34 "BaseException" = true)
    (k : ∀ h' g' news' tk, KtsTurn (outer.filterMap (·.frame)) g g' → Fr g' L h' (fun y => if y = n then some (.ref e) else m y) → News g' L h' news' → Exc news' e code .none lo → KeepLo lo news news' → Below A₀ base outer g' → KF.In g' → Top p loose mean mg mb g' →
      wpAny (model prog w) ((A₀.deeper (envOf name scope L a cd)).mark (some (.ref e))) (execs (b₀ :: suite) (envOf name scope L a cd))
        (fun f s₄ => wpAny (model prog w) (A₀.deeper (envOf name scope L a cd)) (do bindName (envOf name scope L a cd) n .none; unbindBehindTheSuite (envOf name scope L a cd) n pos) (fun _ s₅ => Q f s₅) E s₄)
        (AsSuiteRaised (model prog w) ((A₀.deeper (envOf name scope L a cd)).mark (some (.ref e))) (envOf name scope L a cd) n pos (notedBy (model prog w) ((A₀.deeper (envOf name scope L a cd)).mark (some (.ref e))) (envOf name scope L a cd) (cameBackBy (model prog w) (A₀.deeper (envOf name scope L a cd)) (envOf name scope L a cd) E)))
        { s with heap := h', toks := tk })
    (hk : scope.kind = .function := by rfl) (hlo : (envOf name scope L a cd).kindOf n = some .local := by rfl) (hxk : (envOf name scope L a cd).kindOf x = some .globalImplicit := by rfl) (hd : (x == ("__debug__" : Str)) = false := by decide) :
    wpAny (model prog w) (A₀.deeper (envOf name scope L a cd)) (noteFrame (.ref e) (envOf name scope L a cd))
      (fun _ s₂ => wpAny (model prog w) (A₀.deeper (envOf name scope L a cd)) (setFlight (.ref e) none) (fun _ s₃ =>
        wpAny (model prog w) (A₀.deeper (envOf name scope L a cd)) (handleBy (.ref e) (envOf name scope L a cd) (.ExceptHandler (some (.Name x np)) (some n) (b₀ :: suite) pos :: rest)) Q E s₃) E s₂) E s := by
  refine noteG_next (Around.frames_deeper B.stack) B F N rfl hk hx fun h2 g2 n2 T2 F2 N2 B2 x2 K2 => ?_
  refine flightG (s := { s with heap := h2 }) F2 N2 x2 fun h3 n3 F3 N3 x3 K3 => ?_
  have X2 : KF.In g2 := XB.keeps B2.stays
  have P2 : TopRead p loose mg mb g2 := topRead_of (TB.keeps B2.stays)
  obtain ⟨oe, vs, T, oT, ts, d, es, nn, tc, he, hc, r⟩ := id x3
  obtain ⟨nm, q', N', bs, bm, hdct, sn, sub, ab, col, dd, k0, k1, k2, k3, k5, newId, hC, hbase, hbT⟩ := kts_cls X2 q
  refine wpAny_handleBy_cons (codeAny_handlers_test (name_K F3 X2 P2 ex ?_ hk hxk hd)) (by intro q; cases q)
  refine wpAny_excMatches_sub_self (F3.keep _ _ hC) (N3 _ he).1 hc hbase (codeAny_handlers_suite_as ?_)
  refine flightG (s := { s with heap := h3 }) F3 N3 x3 fun h4 n4 F4 N4 x4 K4 => ?_
  refine stN F4 N4 (fun h5 F5 N5 => ?_) hk hlo
  exact k h5 g2 n4 _ T2 F5 N5 x4 (fun p hp hl => K4 p (K3 p (K2 p hp hl) hl) hl) B2 X2 (TB.keeps B2.stays)
end

set_option maxRecDepth 100000 in
set_option maxHeartbeats 8000000 in
theorem Raise_basic {w : World} {dp un : Nat} {gd : Option (List Code)} {cn : Str} {cs : Scope} {a : Addr} {ccd : Value} {cl : List (Str × Addr)} {outer : List Env} {A₀ : Around} {base h₀ : Heap} {L : Addr} {m mg mb : Str → Option Value}
    {news : List (Addr × Obj)} {s : Shared} {Q : Flow → Shared → Prop} {E : Value → Shared → Prop} {loose : List Str} {mean : ExcName → Option Value} {code : Str} {np cp cpos pos : Pos}
    (B : Below A₀ base outer h₀) (F : Fr h₀ L s.heap m) (X : (hd.heap_1 w.params).In h₀) (N : News h₀ L s.heap news) (T : Top topProg loose mean mg mb h₀)
    (hk : cs.kind = .function) (hx : (envX cn cs L a ccd cl).kindOf "BasicError" = some .globalImplicit) (hdp : dp + 3 < recursionLimit) (hu : un + 30 < cLine)
    (k : ∀ e h' tk' news' lo, Fr h₀ L h' m → News h₀ L h' news' → ExcNew news' e code lo → (∀ p ∈ news, p ∈ news') → (∀ p ∈ news, p.1 < lo) → E (.ref e) { s with heap := h', toks := tk' }) :
    wpAny (model PySem.Challenge.rw_pq0172_01.row.prog w) (ktrTop dp un gd cn cs L a ccd cl outer)
      (exec (.Raise (some (.Call (.Name "BasicError" np) [.Constant (.str code) 0 cp] [] cpos)) none pos) (envX cn cs L a ccd cl)) Q E s := by
  revert X; k_fill; intro X
  have qc : ktsIn (hd.heap_1 w.params) 34 "BaseException" = true := by kernel_rfl
  obtain ⟨nm, q', NN, bs, bm, hdct, sn, sub, ab, col, dd, k0, k1, k2, k3, k5, newId, hC, hbase, -⟩ := kts_cls X qc
  refine Raise_dict (C := 34) (nm := nm) (q := q') (N := NN) (bs := bs) (bm := bm) (hdct := hdct) (sn := sn) (sub := sub) (ab := ab) (col := col) (dd := dd) (k0 := k0) (k1 := k1) (k2 := k2) (k3 := k3) (k5 := k5) (newId := newId) hbase rfl ?_
  refine wpAny_Call_ofName ?_
  refine nameX_K F X (topRead_of T) (by k_dflt k_is) ?_ hk hx
  k_dflt (refine' callWith_K ?k1 ?k2 ?_; (case k1 => k_asm); (case k2 => k_is))
  k_steps
  refine basic_made (s := { s with toks := s.toks + 1 }) B F X N T hk rfl hdp hu fun e d tp es n h' tk' n' F' N' a1 a2 a3 a4 a5 => ?_
  refine ⟨e, d, tp, rfl, F'.keep _ _ hC, (N' _ a1).1, ?_⟩
  exact k e h' tk' n' e F' N' ⟨_, _, d, es, n, _, a1, rfl, rfl, rfl, rfl, a2, a3, ne_of_obj N' a2 a1 (by intro q; cases q), Nat.le_refl _⟩ a4 a5

end
/-! Ex8 -/
section
open PySem.Builtin PySem.Builtin.ObjectAttr
set_option maxRecDepth 100000
theorem bga_kind : builtinKind "BaseException.__getattribute__" = some .slot := by decide +kernel
theorem bga_split : splitId "BaseException.__getattribute__" = some ("BaseException", "__getattribute__") := by decide +kernel
theorem bga_plain : plainId "BaseException.__getattribute__" = true := by decide +kernel
theorem bga_bind (self : Value) : bindSpecial (.builtin "BaseException.__getattribute__") self = pure (.builtin "BaseException.__getattribute__", [self]) := by kernel_rfl
section
variable {prog : Program} {w : World} {A : Around} {E : Value → Shared → Prop} {K : Frag} {x C : Addr} {s : Shared} {ox : Obj} {od : Option Obj} {name : Str} {v : Value} {expr : Bool} {Q : Value → Shared → Prop}
theorem exc_attr (X : K.In s.heap) (I : InstAt s.heap x ox C od) (hga : findIn K (.ref C) "__getattribute__" = some (some (.builtin "BaseException.__getattribute__"))) (hgt : findIn K (.ref C) "__getattr__" = some none) (hsub : mroIn K C (.type "BaseException") = some true)
    (hf : findObj K C od name = some (.value v)) (hh : handedIn v = true) (h : Q v { s with toks := s.toks + 1 }) : wpAny (model prog w) A (getAttr (.ref x) name expr) Q E s := by
  obtain ⟨hh', g, d, t, os⟩ := s
  have L0 := I.type (M := model prog w)
  have L1 := looks_findIn (M := model prog w) X hga
  have L3 := looks_findIn (M := model prog w) X hgt
  have L4 := looks_find (M := model prog w) X I hf
  have sub : Looks (model prog w) hh' (isInstance (.ref x) (.type "BaseException")) true := L0.andThen (looks_mroIn X hsub)
  unfold getAttr getAttrBy
  refine wpAny_bind (wpAny_mkText (wpAny_holding (wpAny_bind (L0.at (wpAny_bind (L1.at ?_))))))
  show wpAny _ _ (getAttrByItsOwn (.ref x) (.str name t) (.ref C) (.builtin "BaseException.__getattribute__") true expr) _ _ _
  unfold getAttrByItsOwn hookBefore callGetattribute boundAndCalled
  refine wpAny_bind (L3.at ?_)
  refine wpAny_bind (wpAny_attempt (wpAny_holding ?_))
  have hx0 : (expr && onTheHeap (Value.builtin "BaseException.__getattribute__")) = false := by cases expr <;> rfl
  rw [hx0]
  rw [if_neg (by decide)]
  refine wpAny_bind (wpAny_of_eq (bga_bind _) ?_)
  show wpAny _ _ (call (.builtin "BaseException.__getattribute__") [.ref x, .str name t]) _ _ _
  refine wpAny_call (codeAny_call_builtin bga_plain PySem.F.entry_bexc_ga (@check_slot (model prog w) _ _ _ "BaseException.__getattribute__" "BaseException" "__getattribute__" (.ref x) [.str name t] [] _ bga_kind bga_split sub (PySem.F.args_bexc_ga _ _) ?_))
  unfold Builtin.«object.__getattribute__»
  refine wpAny_bind (wpAny_of_eq (a := (Value.ref x, [Value.str name t])) (by kernel_rfl) ?_)
  refine wpAny_bind (wpAny_pure (wpAny_bind (L0.at (wpAny_bind (L4.at ?_)))))
  refine wpAny_pure ?_
  show wpAny _ _ (handedOut v) _ _ _
  rw [handedOut_of hh]
  exact wpAny_pure h
end

end
/-! St -/
section
set_option maxRecDepth 100000
abbrev PG : Program := PySem.Challenge.rw_pq0172_01.row.prog

/-! what is kept: files by name, channels by number -/
structure Ch where
  mode : Str
  name : Str
  at_ : Nat
structure St where
  files : List (Str × Str)
  chans : List (Int × Ch)

section
variable {K α : Type} [DecidableEq K]
def vat (l : List (K × α)) (k : K) : Option α := (l.find? fun x => x.1 = k).map (·.2)
def sset (l : List (K × α)) (k : K) (a : α) : List (K × α) := if k ∈ l.map (·.1) then l.map fun x => if x.1 = k then (x.1, a) else x else l ++ [(k, a)]
def sdel (l : List (K × α)) (k : K) : List (K × α) := l.filter fun x => decide (x.1 ≠ k)
end

/-! how the ledger bears the world -/
structure WL where
  wi : Addr
  wd : Addr
  wx : Addr
  wf : Addr
  wo : Addr
  ch : Int → Addr
def WL.all (l : WL) (σ : St) : List Addr := l.wi :: l.wd :: l.wx :: l.wf :: l.wo :: σ.chans.map fun c => l.ch c.1
def IsChan (w : World) (o : Obj) (c : Ch) : Prop :=
  ∃ t1 t2 t3 t4 t5 t6, o.IsDictOf (strKind PG w) [("mode", .str c.mode t1), ("name", .str c.name t2), ("at", .int c.at_ t3), ("size", .int 0 t4), ("buffer", .str "" t5), ("record", .int 0 t6)]
structure WRep (w : World) (news : List (Addr × Obj)) (l : WL) (σ : St) : Prop where
  inst : (l.wi, instObj 161 l.wd) ∈ news
  dict : ∃ es n, (l.wd, dictOf es n) ∈ news ∧ getL "files" es = some (some (.ref l.wf)) ∧ getL "open" es = some (some (.ref l.wo)) ∧ getL "fields" es = some (some (.ref l.wx))
  fields : ∃ o, (l.wx, o) ∈ news ∧ o.IsDictOf (strKind PG w) []
  files : ∃ (o : Obj) (tk : Str → Tok), (l.wf, o) ∈ news ∧ o.IsDictOf (strKind PG w) (σ.files.map fun f => (f.1, .str f.2 (tk f.1)))
  opens : ∃ o, (l.wo, o) ∈ news ∧ o.IsDictOf (intKind PG w) (σ.chans.map fun c => (c.1, .ref (l.ch c.1)))
  chans : ∀ c ∈ σ.chans, ∃ o, (l.ch c.1, o) ∈ news ∧ IsChan w o c.2
  nodup : (l.all σ).Nodup
  low : ∀ a ∈ l.all σ, (a == sysModules) = false

section
variable {w : World} {news : List (Addr × Obj)} {l : WL} {σ : St} {G : Prop}
theorem WRep.goDict (H : WRep w news l σ) (k : ∀ es n, (l.wd, dictOf es n) ∈ news → getL "files" es = some (some (.ref l.wf)) → getL "open" es = some (some (.ref l.wo)) → getL "fields" es = some (some (.ref l.wx)) → G) : G :=
  let ⟨es, n, a, b, c, d⟩ := H.dict; k es n a b c d
theorem WRep.goFields (H : WRep w news l σ) (k : ∀ o, (l.wx, o) ∈ news → o.IsDictOf (strKind PG w) [] → G) : G := let ⟨o, a, b⟩ := H.fields; k o a b
theorem WRep.goFiles (H : WRep w news l σ) (k : ∀ (o : Obj) (tk : Str → Tok), (l.wf, o) ∈ news → o.IsDictOf (strKind PG w) (σ.files.map fun f => (f.1, .str f.2 (tk f.1))) → G) : G := let ⟨o, tk, a, b⟩ := H.files; k o tk a b
theorem WRep.goOpens (H : WRep w news l σ) (k : ∀ o, (l.wo, o) ∈ news → o.IsDictOf (intKind PG w) (σ.chans.map fun c => (c.1, .ref (l.ch c.1))) → G) : G := let ⟨o, a, b⟩ := H.opens; k o a b
end
/-- a call's error: the state as it was -/
def Err (A₀ : Around) (base : Heap) (outer : List Env) (h₀ : Heap) (L : Addr) (m : Str → Option Value) (news : List (Addr × Obj)) (code : Str) (s : Shared) (E : Value → Shared → Prop) : Prop :=
  ∀ e h' tk' g' news' lo, KtsTurn (outer.filterMap (·.frame)) h₀ g' → Fr g' L h' m → News g' L h' news' → Below A₀ base outer g' → Exc news' e code .none lo → (∀ p ∈ news, p ∈ news') → (∀ p ∈ news, p.1 < lo) → E (.ref e) { s with heap := h', toks := tk' }

end
/-! Ru -/
local macro_rules | `(tactic| k_room) => `(tactic| ktr_room)
local macro_rules | `(tactic| k_get) => `(tactic| assumption)
section
set_option maxRecDepth 100000
theorem mem_up {n1 n2 : List (Addr × Obj)} {p : Addr × Obj} (c : ∀ p ∈ n1, p ∈ n2) (h : p ∈ n1) : p ∈ n2 := c p h
end
local macro_rules | `(tactic| walk_at "mine mem") => `(tactic| first | with_reducible assumption | assumption | exact .head _ | exact mem_up (by assumption) (by assumption) | exact mem_up (by assumption) (mem_up (by assumption) (by assumption)) | (refine .tail _ ?_; walk_at "mine mem"))
local macro_rules | `(tactic| k_mem) => `(tactic| walk_at "mine mem")
section
set_option maxRecDepth 100000
theorem fold_stmt {M : Model} {A : Around} {E : Value → Shared → Prop} {s : Shared} {st : Stmt} {env : Env} {Q : Flow → Shared → Prop} (h : let Q' := Q; wpAny M A (exec st env) Q' E s) : wpAny M A (exec st env) Q E s := h
theorem fold_test {M : Model} {A : Around} {E : Value → Shared → Prop} {s : Shared} {t : Expr} {env : Env} {e : Sem Value} {Q : Bool → Shared → Prop} (h : let Q' := Q; wpAny M A (PySem.isTrue t env e) Q' E s) : wpAny M A (PySem.isTrue t env e) Q E s := h
theorem ex4 {α β γ δ : Type} {p : α → β → γ → δ → Prop} (a : α) (b : β) (c : γ) (d : δ) (h : p a b c d) : ∃ a b c d, p a b c d := ⟨a, b, c, d, h⟩
end
local macro_rules | `(tactic| k_steps) => `(tactic| repeat' (first | (k_unfold; (try dsimp only)) | (k_end; kc_close) | (walk1; (all_goals try (with_reducible first | refine fold_stmt ?_ | refine fold_test ?_); intro qk)) | (dsimp only; walk1; (all_goals try (with_reducible first | refine fold_stmt ?_ | refine fold_test ?_); intro qk)) | (leave1; (try dsimp only)) | fail "no step"))
section
set_option maxRecDepth 100000
theorem fold_exec {M : Model} {A : Around} {E : Value → Shared → Prop} {s : Shared} {st : Stmt} {env : Env} {Q : Flow → Shared → Prop} (h : let M' := M; let env' := env; let A' := A; let Q' := Q; wpAny M' A' (exec st env') Q' E s) : wpAny M A (exec st env) Q E s := h
theorem fold_execs {M : Model} {A : Around} {E : Value → Shared → Prop} {s : Shared} {st : List Stmt} {env : Env} {Q : Flow → Shared → Prop} (h : let M' := M; let env' := env; let A' := A; wpAny M' A' (execs st env') Q E s) : wpAny M A (execs st env) Q E s := h
theorem fold_m {g h : Heap} {L : Addr} {m : Str → Option Value} {G : Prop} (F : Fr g L h m) (k : let m' := m; Fr g L h m' → G) : G := k F
end
local macro_rules | `(tactic| walk_at "mine fold") => `(tactic| ((try (refine fold_execs ?_; intro M' env' A')); (with_reducible rename Fr _ _ _ _ => kF9); refine fold_m kF9 ?_; clear kF9; intro m9 kF9))
section
set_option maxRecDepth 100000
def Here (P : Prop) : Prop := P
theorem here {P : Prop} (h : Here P) : P := h
theorem unhere {P : Prop} (h : P) : Here P := h
end
local macro_rules | `(tactic| walk_at "callWith ref") => `(tactic| (k_here; k_dflt (refine' callWith_K ?k1 ?k2 ?_; (case k1 => k_asm); (case k2 => k_is))))
local macro_rules | `(tactic| walk_at "mine look") => `(tactic| first | exact if_pos rfl | (refine (if_neg (by decide)).trans ?_; walk_at "mine look") | with_reducible assumption | exact rfl | assumption)
local macro_rules | `(tactic| walk_at "eval Name") => `(tactic| (k_here; k_dflt (first
  | (refine' nameX_L ?F ?v ?_ ?a ?b; (case b => exact rfl); (case a => exact rfl); (case F => k_asm); (case v => walk_at "mine look"))
  | (refine' nameX_K ?F ?X ?T ?e ?_ ?a ?b; (case b => exact rfl); (case a => exact rfl); (case F => k_asm); (case X => k_asm); (case T => k_asm); (case e => k_is))
  | (refine' nameX_C ?N ?c ?m ?d ?_ ?a ?b; (case b => exact rfl); (case a => exact rfl); (case N => k_asm); (case c => exact rfl); (case m => k_mem); (case d => k_asm)))))
local macro_rules | `(tactic| walk_at "getAttr ref") => `(tactic| (k_here; k_dflt (refine' get_own ?k1 ?k2 ?k3 ?k4 ?k5 ?k6 ?k7 ?k8 ?k9 ?_; (case k1 => k_asm); (case k2 => k_asm); (case k3 => k_inst); (case k4 => k_is); (case k5 => k_is); (case k6 => k_is); (case k7 => k_is); (case k8 => assumption); (case k9 => k_handed); k_whole)))
local macro_rules | `(tactic| walk_at "compareOp NotIn int ref") => `(tactic| (k_here; k_dflt (first
  | refine kdg_notin (knd := PySem.intKind _ _) (by k_asm) (by k_mem) (by assumption) (by assumption) (intKind_is _ _ _ _) true (by assumption) ?_
  | refine kdg_notin (knd := PySem.intKind _ _) (by k_asm) (by k_mem) (by assumption) (by assumption) (intKind_is _ _ _ _) false (by assumption) ?_); (try dsimp only [Bool.not_true, Bool.not_false])))
local macro_rules | `(tactic| walk_at "compareOp NotIn str ref") => `(tactic| (k_here; k_dflt (first
  | refine kdg_notin (knd := PySem.strKind _ _) (by k_asm) (by k_mem) (by assumption) (by assumption) (strKind_is _ _ _ _) true (by assumption) ?_
  | refine kdg_notin (knd := PySem.strKind _ _) (by k_asm) (by k_mem) (by assumption) (by assumption) (strKind_is _ _ _ _) false (by assumption) ?_); (try dsimp only [Bool.not_true, Bool.not_false])))
local macro_rules | `(tactic| walk_at "compareOp In int ref") => `(tactic| (k_here; k_dflt (first
  | refine kda_in (knd := PySem.intKind _ _) (by k_asm) (by k_mem) (by assumption) (by assumption) (intKind_is _ _ _ _) true (by assumption) ?_
  | refine kda_in (knd := PySem.intKind _ _) (by k_asm) (by k_mem) (by assumption) (by assumption) (intKind_is _ _ _ _) false (by assumption) ?_)))
local macro_rules | `(tactic| walk_at "compareOp In str ref") => `(tactic| (k_here; k_dflt (first
  | refine kda_in (knd := PySem.strKind _ _) (by k_asm) (by k_mem) (by assumption) (by assumption) (strKind_is _ _ _ _) true (by assumption) ?_
  | refine kda_in (knd := PySem.strKind _ _) (by k_asm) (by k_mem) (by assumption) (by assumption) (strKind_is _ _ _ _) false (by assumption) ?_)))
section
set_option maxRecDepth 100000
section
variable {prog : Program} {w : World} {A : Around} {E : Value → Shared → Prop} {s : Shared} {h₀ : Heap} {L d : Addr} {news : List (Addr × Obj)} {o : Obj} {K : Type} [DecidableEq K] {knd : KeyKind prog w K} {kvs : List (K × Value)} {k : K} {key v : Value}
theorem dict_item {value slice : PySem.Expr} {Q : Value → Shared → Prop} (hkey : knd.is k key = true) (N : News h₀ L s.heap news) (hp : (d, o) ∈ news) (hd : o.IsDictOf knd kvs) (hl : valueAt kvs k = some v) (h : Q v { s with toks := s.toks + 1 })
    (hs : subscripted slice false (.ref d) key = operate [.ref d, key] (getItem (.ref d) key) := by with_unfolding_all rfl) : wpAny (model prog w) A (subscriptTail value slice (.ref d) key) Q E s :=
  kba_turn (value' := PySem.Expr.Name (PySem.Str.ofString "_") ⟨0, 0, 0, 0⟩) (fun _ => rfl) (kda_item N hp hd hkey hl h hs (by intro _; rfl))
end
end
local macro_rules | `(tactic| walk_at "mine item") => `(tactic| (k_here; k_dflt (first
  | refine dict_item (knd := PySem.strKind _ _) (strKind_is _ _ _ _) (by k_asm) (by k_mem) (by assumption) (by first | with_reducible assumption | rfl | assumption) ?_
  | refine dict_item (knd := PySem.intKind _ _) (intKind_is _ _ _ _) (by k_asm) (by k_mem) (by assumption) (by first | with_reducible assumption | rfl | assumption) ?_); (try dsimp only)))
local macro_rules | `(tactic| walk_at "subscriptTail") => `(tactic| walk_at "mine item")
local macro_rules | `(tactic| walk_at "subscriptTail Name Constant ref str") => `(tactic| walk_at "mine item")
local macro_rules | `(tactic| walk_at "subscriptTail Name Name ref int") => `(tactic| walk_at "mine item")
local macro_rules | `(tactic| walk_at "subscriptTail Name Name ref str") => `(tactic| walk_at "mine item")
local macro_rules | `(tactic| walk_at "subscriptTail Subscript Name Constant Name ref int") => `(tactic| walk_at "mine item")
local macro_rules | `(tactic| walk_at "subscriptTail Subscript Name Constant Name ref str") => `(tactic| walk_at "mine item")
local macro_rules | `(tactic| walk_at "subscriptTail Subscript Name Constant Subscript ref str") => `(tactic| walk_at "mine item")
local macro_rules | `(tactic| walk_at "subscriptTail Subscript Attribute Name Constant ref str") => `(tactic| walk_at "mine item")
local macro_rules | `(tactic| walk_at "subscriptTail Attribute Name Subscript ref str") => `(tactic| walk_at "mine item")
local macro_rules | `(tactic| walk_at "subscriptTail Attribute Name Name ref int") => `(tactic| walk_at "mine item")
local macro_rules | `(tactic| walk_at "subscriptTail Attribute Name Name ref str") => `(tactic| walk_at "mine item")
local macro_rules | `(tactic| walk_at "exec Raise some none") => `(tactic| (k_here; k_dflt (refine' Raise_basic ?B ?F ?X ?N ?T ?k ?x ?d ?u ?_; (case B => k_asm); (case F => k_asm); (case X => k_asm); (case N => k_asm); (case T => k_asm); (case k => first | exact rfl | k_asm); (case x => exact rfl); (case d => ktr_room); (case u => ktr_units)); intro e' h' tk' n' lo' F' N' x' c' l'))
local macro_rules | `(tactic| walk_at "leaving ref") => `(tactic| (k_here; k_dflt (first
  | (refine' leaveG_new ?a ?B ?F ?N ?f ?k ?x ?_; (case x => assumption); (case a => exact rfl); (case B => k_asm); (case F => k_asm); (case N => k_asm); (case f => exact rfl); (case k => first | exact rfl | k_asm))
  | (refine' leaveG_next ?a ?B ?F ?N ?f ?k ?x ?_; (case x => assumption); (case a => exact rfl); (case B => k_asm); (case F => k_asm); (case N => k_asm); (case f => exact rfl); (case k => first | exact rfl | k_asm))); intro h' g' n' T' F' N' B' x' c'))
section
set_option maxRecDepth 100000
section
variable {A₀ : Around} {base h₀ g g' : Heap} {outer : List Env} {L L' e lo : Addr} {m m' : Str → Option Value} {news nr n' : List (Addr × Obj)} {code : Str} {s s' : Shared} {E : Value → Shared → Prop} {env : Env}
theorem Err.close (he : Err A₀ base outer h₀ L m news code s E) (B : Below A₀ base outer h₀) (FG : Fr h₀ L g m) (hf : env.frame = some L) (T : KtsTurn ((env :: outer).filterMap (·.frame)) g g') (F : Fr g' L' s'.heap m') (N : News g' L' s'.heap n') (x : Exc n' e code .none lo)
    (c : KeepLo lo nr n') (l : ∀ p ∈ news, p.1 < lo) (cr : ∀ p ∈ news, p ∈ nr) (hs : s' = { s with heap := s'.heap, toks := s'.toks }) : E (.ref e) s' := by
  obtain ⟨h', T1, F1, N1, B1⟩ := exitX B FG hf T F N
  rw [hs]
  exact he e _ _ h' n' lo T1 F1 N1 B1 x (fun p hp => c p (cr p hp) (l p hp)) l
end
theorem sub_tail {α : Type} {P : α → Prop} {a : α} {l : List α} (h : ∀ q ∈ a :: l, P q) : ∀ q ∈ l, P q := fun q hq => h q (.tail _ hq)
theorem sub_l {n1 n2 : List (Addr × Obj)} {lo : Addr} (a : ∀ p ∈ n2, p.1 < lo) (b : ∀ p ∈ n1, p ∈ n2) : ∀ p ∈ n1, p.1 < lo := fun p hp => a p (b p hp)
theorem sub_c {n1 n2 n3 : List (Addr × Obj)} (a : ∀ p ∈ n2, p ∈ n3) (b : ∀ p ∈ n1, p ∈ n2) : ∀ p ∈ n1, p ∈ n3 := fun p hp => a p (b p hp)
end
local macro_rules | `(tactic| walk_at "mine sub") => `(tactic| first | with_reducible assumption | assumption | exact fun _ h => h | exact sub_tail (by assumption) | exact sub_tail (sub_tail (by assumption)) | exact sub_tail (sub_tail (sub_tail (by assumption))) | exact sub_l (by assumption) (by assumption) | exact sub_c (by assumption) (by assumption) | exact sub_l (by assumption) (sub_tail (by assumption)) | exact sub_c (by assumption) (sub_tail (by assumption)) | exact sub_l (sub_tail (by assumption)) (by assumption) | exact sub_c (sub_tail (by assumption)) (by assumption) | exact sub_l (by assumption) (sub_c (by assumption) (by assumption)) | exact sub_c (by assumption) (sub_c (by assumption) (by assumption)) | exact sub_l (by assumption) (sub_c (by assumption) (sub_c (by assumption) (by assumption))) | exact sub_c (by assumption) (sub_c (by assumption) (sub_c (by assumption) (by assumption))))
local macro_rules | `(tactic| walk_at "mine err") => `(tactic| (refine' Err.close ?he ?B ?FG ?hf ?T ?F ?N ?x ?c ?l ?cr ?hs; (case he => assumption); (case FG => assumption); (case F => assumption); (case T => first | assumption | exact KtsTurn.trans (by assumption) (by assumption)); (case hf => exact rfl); (case B => assumption); (case N => assumption); (case x => assumption); (case c => assumption); (case l => walk_at "mine sub"); (case cr => walk_at "mine sub"); (case hs => exact rfl)))
section
set_option maxRecDepth 100000
section
variable {prog : Program} {w : World} {A : Around} {E : Value → Shared → Prop} {s : Shared} {h₀ : Heap} {L t : Addr} {news : List (Addr × Obj)} {ms : List Value} {ys : List Str} {x : Str} {u : Tok} {b : Bool}
theorem notin_tup {Q : Value → Shared → Prop} (N : News h₀ L s.heap news) (hm : (t, tupOf ms) ∈ news) (hi : StrsAre ms ys) (hb : (ys.any (· == x)) = b) (h : Q (.bool (!b)) s) : wpAny (model prog w) A (compareOp .NotIn (.str x u) (.ref t)) Q E s :=
  notin_tuple_strs (N.isTup hm) (by simpa using hi) (by rw [hb]; exact h)
theorem in_tup {Q : Value → Shared → Prop} (N : News h₀ L s.heap news) (hm : (t, tupOf ms) ∈ news) (hi : StrsAre ms ys) (hb : (ys.any (· == x)) = b) (h : Q (.bool b) s) : wpAny (model prog w) A (compareOp .In (.str x u) (.ref t)) Q E s :=
  in_tuple_strs (N.isTup hm) (by simpa using hi) (by rw [hb]; exact h)
end
end
local macro_rules | `(tactic| walk_at "compareOp NotIn str ref") => `(tactic| (k_here; k_dflt (refine notin_tup (by k_asm) (by k_mem) (by assumption) (by assumption) ?_); (try dsimp only [Bool.not_true, Bool.not_false])))
section
set_option maxRecDepth 100000
section
variable {K α : Type} [DecidableEq K]
theorem valueAt_map {l : List (K × α)} {f : K × α → Value} {k : K} : valueAt (l.map fun x => (x.1, f x)) k = (l.find? fun x => x.1 = k).map f := by
  unfold valueAt
  induction l with
  | nil => rfl
  | cons x r ih =>
    simp only [List.map_cons, List.find?_cons]
    by_cases h : x.1 = k
    · simp [h]
    · simpa [h] using ih
theorem vat_find {l : List (K × α)} {k : K} {c : α} (h : vat l k = some c) : (l.find? fun x => x.1 = k) = some (k, c) := by
  unfold vat at h
  obtain ⟨x, hx, rfl⟩ := Option.map_eq_some_iff.mp h
  have := List.find?_some hx
  simp only [decide_eq_true_eq] at this
  rw [hx, ← this]
theorem vat_mem {l : List (K × α)} {k : K} {c : α} (h : vat l k = some c) : (k, c) ∈ l := List.mem_of_find?_eq_some (vat_find h)
theorem vat_none_find {l : List (K × α)} {k : K} (h : vat l k = none) : (l.find? fun x => x.1 = k) = none := by
  unfold vat at h
  cases q : l.find? fun x => x.1 = k with
  | none => rfl
  | some x => rw [q] at h; cases h
end
section
variable {w : World} {news : List (Addr × Obj)} {l : WL} {σ : St} {k : Int} {c : Ch}
theorem chan_none (h : vat σ.chans k = none) : (valueAt (σ.chans.map fun c => (c.1, Value.ref (l.ch c.1))) k).isSome = false := by
  rw [valueAt_map, vat_none_find h]; rfl
theorem chan_some (h : vat σ.chans k = some c) : valueAt (σ.chans.map fun c => (c.1, Value.ref (l.ch c.1))) k = some (.ref (l.ch k)) := by
  rw [valueAt_map, vat_find h]; rfl
theorem chan_some' (h : vat σ.chans k = some c) : (valueAt (σ.chans.map fun c => (c.1, Value.ref (l.ch c.1))) k).isSome = true := by
  rw [chan_some h]; rfl
theorem WRep.chan (H : WRep w news l σ) (h : vat σ.chans k = some c) : ∃ o, (l.ch k, o) ∈ news ∧ IsChan w o c := H.chans _ (vat_mem h)
theorem WRep.goChan (H : WRep w news l σ) (h : vat σ.chans k = some c) {G : Prop} (kk : ∀ o, (l.ch k, o) ∈ news → ∀ t1 t2 t3 t4 t5 t6, o.IsDictOf (strKind PG w) [("mode", .str c.mode t1), ("name", .str c.name t2), ("at", .int c.at_ t3), ("size", .int 0 t4), ("buffer", .str "" t5), ("record", .int 0 t6)] → G) : G :=
  let ⟨o, a, t1, t2, t3, t4, t5, t6, b⟩ := H.chan h; kk o a t1 t2 t3 t4 t5 t6 b
theorem WRep.lowo (H : WRep w news l σ) : (l.wo == sysModules) = false := H.low _ (by simp [WL.all])
theorem WRep.lowx (H : WRep w news l σ) : (l.wx == sysModules) = false := H.low _ (by simp [WL.all])
theorem WRep.lowf (H : WRep w news l σ) : (l.wf == sysModules) = false := H.low _ (by simp [WL.all])
theorem WRep.lowc (H : WRep w news l σ) (h : vat σ.chans k = some c) : (l.ch k == sysModules) = false := H.low _ (by
  simp only [WL.all, List.mem_cons, List.mem_map]
  exact .inr (.inr (.inr (.inr (.inr ⟨_, vat_mem h, rfl⟩)))))
end

section
variable {w : World} {news news' : List (Addr × Obj)} {l : WL} {σ : St}
theorem WRep.mono (H : WRep w news l σ) (k : ∀ p ∈ news, p ∈ news') : WRep w news' l σ where
  inst := k _ H.inst
  dict := let ⟨es, n, a, r⟩ := H.dict; ⟨es, n, k _ a, r⟩
  fields := let ⟨o, a, r⟩ := H.fields; ⟨o, k _ a, r⟩
  files := let ⟨o, tk, a, r⟩ := H.files; ⟨o, tk, k _ a, r⟩
  opens := let ⟨o, a, r⟩ := H.opens; ⟨o, k _ a, r⟩
  chans := fun c hc => let ⟨o, a, r⟩ := H.chans c hc; ⟨o, k _ a, r⟩
  nodup := H.nodup
  low := H.low
end
end
local macro_rules | `(tactic| walk_at "mine rep") => `(tactic| first | assumption | exact WRep.mono (by assumption) (by assumption) | exact WRep.mono (by assumption) (fun _ h => .tail _ h) | exact WRep.mono (by assumption) (fun _ h => .tail _ (.tail _ h)) | exact WRep.mono (by assumption) (sub_c (by assumption) (by assumption)) | exact WRep.mono (by assumption) (sub_c (by assumption) (sub_c (by assumption) (by assumption))))


section
set_option maxRecDepth 100000
/-! what holds of the state -/
def IsName (x : Str) : Prop := x = "A" ∨ x = "B" ∨ x = "C"
structure WF (σ : St) (b : Nat) : Prop where
  keys : (σ.chans.map (·.1)).Nodup
  names : (σ.files.map (·.1)).Nodup
  ksub : ∀ c ∈ σ.chans, c.1 = 1 ∨ c.1 = 2 ∨ c.1 = 3
  nsub : ∀ f ∈ σ.files, IsName f.1 ∨ f.1 = "D"
  mode : ∀ c ∈ σ.chans, c.2.mode = "I" ∨ c.2.mode = "O" ∨ c.2.mode = "A"
  cname : ∀ c ∈ σ.chans, IsName c.2.name
  has : ∀ c ∈ σ.chans, ∃ t, vat σ.files c.2.name = some t ∧ (c.2.mode = "I" → c.2.at_ ≤ t.length)
  size : ∀ f ∈ σ.files, f.2.length ≤ b
  ats : ∀ c ∈ σ.chans, c.2.at_ ≤ b
  excl : ∀ c ∈ σ.chans, ∀ c' ∈ σ.chans, c.1 ≠ c'.1 → c.2.name = c'.2.name → c.2.mode = "I" ∧ c'.2.mode = "I"
  bound : b ≤ 1000
section
variable {σ : St} {b : Nat} {nm t : Str} {tk : Str → Tok}
theorem file_some (h : vat σ.files nm = some t) : valueAt (σ.files.map fun f => (f.1, Value.str f.2 (tk f.1))) nm = some (.str t (tk nm)) := by
  rw [valueAt_map, vat_find h]; rfl
theorem file_some' (h : vat σ.files nm = some t) : (valueAt (σ.files.map fun f => (f.1, Value.str f.2 (tk f.1))) nm).isSome = true := by
  rw [file_some h]; rfl
theorem file_none (h : vat σ.files nm = none) : (valueAt (σ.files.map fun f => (f.1, Value.str f.2 (tk f.1))) nm).isSome = false := by
  rw [valueAt_map, vat_none_find h]; rfl
end

end
/-! C2 -/
section
set_option maxRecDepth 100000 in
set_option maxHeartbeats 8000000 in
theorem channel_of_none {w : World} {dp un : Nat} {gd : Option (List Code)} {cn : Str} {cs : Scope} {a : Addr} {ccd : Value} {cl : List (Str × Addr)} {outer : List Env} {A₀ : Around} {base h₀ : Heap} {L : Addr} {m mg mb : Str → Option Value}
    {news : List (Addr × Obj)} {s : Shared} {Q E : Value → Shared → Prop} {loose : List Str} {mean : ExcName → Option Value}
    (B : Below A₀ base outer h₀) (F : Fr h₀ L s.heap m) (N : News h₀ L s.heap news) (XB : (hd.heap_1 w.params).In base) (TB : Top topProg loose mean mg mb base) (hk : cs.kind = .function) (hdp : dp + 6 < recursionLimit) (hu : un + 60 < cLine)
    {l : WL} {σ : St} (H : WRep w news l σ) {k : Int} {tk : Tok} {mt : Addr} (hv : vat σ.chans k = none) (he : Err A₀ base outer h₀ L m news "BN" s E) :
    wpAny (model PySem.Challenge.rw_pq0172_01.row.prog w) (ktrTop dp un gd cn cs L a ccd cl outer) (call (.ref 63) [.ref l.wi, .int k tk, .ref mt]) Q E s := by
  revert XB; k_fill; intro XB
  have X := XB.keeps B.stays
  have T := TB.keeps B.stays
  have i1 := H.inst
  refine H.goDict fun es n i2 g1 g2 g3 => ?_
  refine H.goOpens fun oO i3 d3 => ?_
  have z3 := H.lowo
  have b1 := chan_none (l := l) hv
  refine wpAny_call ?_
  k_dflt ktr_enter
  walk_at "mine fold"
  k_steps
  walk_at "mine err"

set_option maxRecDepth 100000 in
set_option maxHeartbeats 8000000 in
theorem channel_of_bad {w : World} {dp un : Nat} {gd : Option (List Code)} {cn : Str} {cs : Scope} {a : Addr} {ccd : Value} {cl : List (Str × Addr)} {outer : List Env} {A₀ : Around} {base h₀ : Heap} {L : Addr} {m mg mb : Str → Option Value}
    {news : List (Addr × Obj)} {s : Shared} {Q E : Value → Shared → Prop} {loose : List Str} {mean : ExcName → Option Value}
    (B : Below A₀ base outer h₀) (F : Fr h₀ L s.heap m) (N : News h₀ L s.heap news) (XB : (hd.heap_1 w.params).In base) (TB : Top topProg loose mean mg mb base) (hk : cs.kind = .function) (hdp : dp + 6 < recursionLimit) (hu : un + 60 < cLine)
    {l : WL} {σ : St} (H : WRep w news l σ) {k : Int} {tk : Tok} {mt : Addr} {ms : List Value} {ys : List Str} (hm : (mt, tupOf ms) ∈ news) (hms : StrsAre ms ys) {c : Ch} (hv : vat σ.chans k = some c) (hb : (ys.any (· == c.mode)) = false) (he : Err A₀ base outer h₀ L m news "BM" s E) :
    wpAny (model PySem.Challenge.rw_pq0172_01.row.prog w) (ktrTop dp un gd cn cs L a ccd cl outer) (call (.ref 63) [.ref l.wi, .int k tk, .ref mt]) Q E s := by
  revert XB; k_fill; intro XB
  have X := XB.keeps B.stays
  have T := TB.keeps B.stays
  have i1 := H.inst
  refine H.goDict fun es n i2 g1 g2 g3 => ?_
  refine H.goOpens fun oO i3 d3 => ?_
  have z3 := H.lowo
  have b1 := chan_some' (l := l) hv
  have b2 := chan_some (l := l) hv
  refine H.goChan hv fun oC i4 t1 t2 t3 t4 t5 t6 d4 => ?_
  have z4 := H.lowc hv
  refine wpAny_call ?_
  k_dflt ktr_enter
  walk_at "mine fold"
  k_steps
  walk_at "mine err"

set_option maxRecDepth 100000 in
set_option maxHeartbeats 8000000 in
theorem channel_of_ok {w : World} {dp un : Nat} {gd : Option (List Code)} {cn : Str} {cs : Scope} {a : Addr} {ccd : Value} {cl : List (Str × Addr)} {outer : List Env} {A₀ : Around} {base h₀ : Heap} {L : Addr} {m mg mb : Str → Option Value}
    {news : List (Addr × Obj)} {s : Shared} {Q E : Value → Shared → Prop} {loose : List Str} {mean : ExcName → Option Value}
    (B : Below A₀ base outer h₀) (F : Fr h₀ L s.heap m) (N : News h₀ L s.heap news) (XB : (hd.heap_1 w.params).In base) (TB : Top topProg loose mean mg mb base) (hk : cs.kind = .function) (hdp : dp + 6 < recursionLimit) (hu : un + 60 < cLine)
    {l : WL} {σ : St} (H : WRep w news l σ) {k : Int} {tk : Tok} {mt : Addr} {ms : List Value} {ys : List Str} (hm : (mt, tupOf ms) ∈ news) (hms : StrsAre ms ys) {c : Ch} (hv : vat σ.chans k = some c) (hb : (ys.any (· == c.mode)) = true)
    (ret : ∀ h' tk', Fr h₀ L h' m → News h₀ L h' news → Q (.ref (l.ch k)) { s with heap := h', toks := tk' }) :
    wpAny (model PySem.Challenge.rw_pq0172_01.row.prog w) (ktrTop dp un gd cn cs L a ccd cl outer) (call (.ref 63) [.ref l.wi, .int k tk, .ref mt]) Q E s := by
  revert XB; k_fill; intro XB
  have X := XB.keeps B.stays
  have T := TB.keeps B.stays
  have i1 := H.inst
  refine H.goDict fun es n i2 g1 g2 g3 => ?_
  refine H.goOpens fun oO i3 d3 => ?_
  have z3 := H.lowo
  have b1 := chan_some' (l := l) hv
  have b2 := chan_some (l := l) hv
  refine H.goChan hv fun oC i4 t1 t2 t3 t4 t5 t6 d4 => ?_
  have z4 := H.lowc hv
  refine wpAny_call ?_
  k_dflt ktr_enter
  walk_at "mine fold"
  k_steps
  exact ret _ _ (by k_asm) (by k_asm)

def ChErr (σ : St) (k : Int) (ys : List Str) (code : Str) : Prop := (vat σ.chans k = none ∧ code = "BN") ∨ (∃ c, vat σ.chans k = some c ∧ (ys.any (· == c.mode)) = false ∧ code = "BM")
theorem channel_of_err {w : World} {dp un : Nat} {gd : Option (List Code)} {cn : Str} {cs : Scope} {a : Addr} {ccd : Value} {cl : List (Str × Addr)} {outer : List Env} {A₀ : Around} {base h₀ : Heap} {L : Addr} {m mg mb : Str → Option Value}
    {news : List (Addr × Obj)} {s : Shared} {Q E : Value → Shared → Prop} {loose : List Str} {mean : ExcName → Option Value}
    (B : Below A₀ base outer h₀) (F : Fr h₀ L s.heap m) (N : News h₀ L s.heap news) (XB : (hd.heap_1 w.params).In base) (TB : Top topProg loose mean mg mb base) (hk : cs.kind = .function) (hdp : dp + 6 < recursionLimit) (hu : un + 60 < cLine)
    {l : WL} {σ : St} (H : WRep w news l σ) {k : Int} {tk : Tok} {mt : Addr} {ms : List Value} {ys : List Str} (hm : (mt, tupOf ms) ∈ news) (hms : StrsAre ms ys) {code : Str} (hc : ChErr σ k ys code) (he : Err A₀ base outer h₀ L m news code s E) :
    wpAny (model PySem.Challenge.rw_pq0172_01.row.prog w) (ktrTop dp un gd cn cs L a ccd cl outer) (call (.ref 63) [.ref l.wi, .int k tk, .ref mt]) Q E s := by
  rcases hc with ⟨hv, rfl⟩ | ⟨c, hv, hb, rfl⟩
  · exact channel_of_none B F N XB TB hk hdp hu H hv he
  · exact channel_of_bad B F N XB TB hk hdp hu H hm hms hv hb he

end
local macro_rules | `(tactic| walk_at "call ref") => `(tactic| (k_here; (with_reducible show wpAny _ _ (call (Value.ref 63) [Value.ref _, Value.int _ _, Value.ref _]) _ _ _); k_dflt (first
  | (refine channel_of_ok (by k_asm) (by k_asm) (by k_asm) (by k_asm) (by k_asm) (by first | exact rfl | k_asm) (by ktr_room) (by ktr_units) (by walk_at "mine rep") (by k_mem) (by repeat constructor) (by assumption) (by assumption) ?_; intro h' tk' F' N')
  | (refine channel_of_err (by k_asm) (by k_asm) (by k_asm) (by k_asm) (by k_asm) (by first | exact rfl | k_asm) (by ktr_room) (by ktr_units) (by walk_at "mine rep") (by k_mem) (by repeat constructor) (by assumption) ?_; intro e' h' tk' g' n' lo' T' F' N' B' x' c' l'))))


/-! Wl -/
section
set_option maxRecDepth 100000
section
variable {K α : Type} [DecidableEq K]
theorem stored_map {l : List (K × α)} {f g : K × α → Value} {k : K} {a : α} {v : Value} (hv : g (k, a) = v) (hg : ∀ x ∈ l, x.1 ≠ k → g x = f x) :
    stored (l.map fun x => (x.1, f x)) k v = (sset l k a).map fun x => (x.1, g x) := by
  unfold stored sset
  have e : (((l.map fun x => (x.1, f x)).any fun kv => decide (kv.1 = k)) = true) ↔ k ∈ l.map (·.1) := by
    rw [List.any_eq_true]
    constructor
    · rintro ⟨y, hy, hk⟩
      obtain ⟨x, hx, rfl⟩ := List.mem_map.mp hy
      exact List.mem_map.mpr ⟨x, hx, by simpa using hk⟩
    · intro h
      obtain ⟨x, hx, rfl⟩ := List.mem_map.mp h
      exact ⟨_, List.mem_map_of_mem hx, by simp⟩
  by_cases hn : k ∈ l.map (·.1)
  · rw [if_pos (e.mpr hn), if_pos hn, List.map_map, List.map_map]
    refine List.map_congr_left fun x hx => ?_
    simp only [Function.comp]
    by_cases h : x.1 = k
    · rw [if_pos h, if_pos h]
      simp only [h, hv]
    · rw [if_neg h, if_neg h, hg x hx h]
  · rw [if_neg (fun q => hn (e.mp q)), if_neg hn, List.map_append, List.map_cons, List.map_nil, hv]
    congr 1
    refine List.map_congr_left fun x hx => ?_
    rw [hg x hx fun q => hn (q ▸ List.mem_map_of_mem hx)]
theorem without_map {l : List (K × α)} {f : K × α → Value} {k : K} : without (l.map fun x => (x.1, f x)) k = (sdel l k).map fun x => (x.1, f x) := by
  unfold without sdel
  rw [List.filter_map]
  rfl
theorem sset_keys_in {l : List (K × α)} {k : K} {a : α} (h : k ∈ l.map (·.1)) : (sset l k a).map (·.1) = l.map (·.1) := by
  unfold sset
  rw [if_pos h, List.map_map]
  refine List.map_congr_left fun x _ => ?_
  simp only [Function.comp]
  split <;> rfl
theorem sset_new {l : List (K × α)} {k : K} {a : α} (h : k ∉ l.map (·.1)) : sset l k a = l ++ [(k, a)] := by
  unfold sset
  rw [if_neg h]
theorem vat_some_key {l : List (K × α)} {k : K} {a : α} (h : vat l k = some a) : k ∈ l.map (·.1) := List.mem_map.mpr ⟨_, vat_mem h, rfl⟩
theorem vat_none_key {l : List (K × α)} {k : K} (h : vat l k = none) : k ∉ l.map (·.1) := fun q => by
  obtain ⟨x, hx, rfl⟩ := List.mem_map.mp q
  have := vat_none_find h
  rw [List.find?_eq_none] at this
  exact absurd (this x hx) (by simp)
theorem mem_sset {l : List (K × α)} {k : K} {a : α} {x : K × α} (h : x ∈ sset l k a) : x = (k, a) ∨ (x ∈ l ∧ x.1 ≠ k) := by
  unfold sset at h
  split at h
  · obtain ⟨y, hy, rfl⟩ := List.mem_map.mp h
    by_cases q : y.1 = k
    · rw [if_pos q, ← q]; exact .inl rfl
    · rw [if_neg q]; exact .inr ⟨hy, q⟩
  · rename_i hn
    rcases List.mem_append.mp h with h | h
    · exact .inr ⟨h, fun q => hn (q ▸ List.mem_map_of_mem h)⟩
    · exact .inl (List.mem_singleton.mp h)
theorem mem_sdel {l : List (K × α)} {k : K} {x : K × α} (h : x ∈ sdel l k) : x ∈ l ∧ x.1 ≠ k := by
  obtain ⟨a, b⟩ := List.mem_filter.mp h
  exact ⟨a, by simpa using b⟩
end

theorem nodup_inj {α β : Type} {f : α → β} : ∀ {l : List α}, (l.map f).Nodup → ∀ x ∈ l, ∀ y ∈ l, f x = f y → x = y
  | [], _, _, hx, _, _, _ => nomatch hx
  | a :: r, h, x, hx, y, hy, e => by
    rw [List.map_cons, List.nodup_cons] at h
    rcases List.mem_cons.mp hx with hx | hx
    · rcases List.mem_cons.mp hy with hy | hy
      · rw [hx, hy]
      · rw [hx] at e; exact absurd (e ▸ List.mem_map_of_mem hy) h.1
    · rcases List.mem_cons.mp hy with hy | hy
      · rw [hy] at e; exact absurd (e ▸ List.mem_map_of_mem hx) h.1
      · exact nodup_inj h.2 x hx y hy e
section
variable {w : World} {news news' : List (Addr × Obj)} {l : WL} {σ : St}
theorem WRep.ne (H : WRep w news l σ) : l.wi ≠ l.wf ∧ l.wi ≠ l.wo ∧ l.wd ≠ l.wf ∧ l.wd ≠ l.wo ∧ l.wx ≠ l.wf ∧ l.wx ≠ l.wo ∧ l.wo ≠ l.wf ∧
    ∀ c ∈ σ.chans, l.ch c.1 ≠ l.wi ∧ l.ch c.1 ≠ l.wd ∧ l.ch c.1 ≠ l.wx ∧ l.ch c.1 ≠ l.wf ∧ l.ch c.1 ≠ l.wo := by
  have h := H.nodup
  simp only [WL.all, List.nodup_cons, List.mem_cons, List.mem_map, not_or, not_exists, not_and] at h
  obtain ⟨⟨a1, a2, a3, a4, a5⟩, ⟨b1, b2, b3, b4⟩, ⟨c1, c2, c3⟩, ⟨d1, d2⟩, e1, f1⟩ := h
  exact ⟨a3, a4, b2, b3, c1, c2, Ne.symm d1, fun c hc => ⟨a5 c hc, b4 c hc, c3 c hc, d2 c hc, e1 c hc⟩⟩
theorem WRep.chne (H : WRep w news l σ) {c c' : Int × Ch} (hc : c ∈ σ.chans) (hc' : c' ∈ σ.chans) (h : c.1 ≠ c'.1) : l.ch c.1 ≠ l.ch c'.1 := by
  have hn := H.nodup
  have h2 : (σ.chans.map fun c => l.ch c.1).Nodup := by
    simp only [WL.all, List.nodup_cons] at hn
    exact hn.2.2.2.2.2
  intro q
  exact h (congrArg (·.1) (nodup_inj h2 c hc c' hc' q))

theorem nl_len : ("\n" : Str).length = 1 := by decide
theorem mem_wf : l.wf ∈ l.all σ := by simp [WL.all]
theorem mem_wo : l.wo ∈ l.all σ := by simp [WL.all]
theorem mem_ch {k : Int} {c : Ch} (hv : vat σ.chans k = some c) : l.ch k ∈ l.all σ := by
  simp only [WL.all, List.mem_cons, List.mem_map]
  exact .inr (.inr (.inr (.inr (.inr ⟨_, vat_mem hv, rfl⟩))))
/-- a file's text is laid -/
theorem WRep.setFile (H : WRep w news l σ) {o' : Obj} {nm t : Str} {tk : Str → Tok} {tk' : Tok} (K : Keep l.wf news news') (hm : (l.wf, o') ∈ news') (hd : o'.IsDictOf (strKind PG w) (stored (σ.files.map fun f => (f.1, .str f.2 (tk f.1))) nm (.str t tk'))) :
    WRep w news' l { σ with files := sset σ.files nm t } := by
  obtain ⟨n1, n2, n3, n4, n5, n6, n7, n8⟩ := H.ne
  refine ⟨K.mem H.inst n1, ?_, ?_, ⟨o', fun x => if x = nm then tk' else tk x, hm, ?_⟩, ?_, fun c hc => ?_, H.nodup, H.low⟩
  · obtain ⟨es, n, a, r⟩ := H.dict; exact ⟨es, n, K.mem a n3, r⟩
  · obtain ⟨o, a, r⟩ := H.fields; exact ⟨o, K.mem a n5, r⟩
  · rw [stored_map (l := σ.files) (f := fun f => Value.str f.2 (tk f.1)) (g := fun f => Value.str f.2 (if f.1 = nm then tk' else tk f.1)) (a := t) (by simp) (fun x _ hx => by simp [hx])] at hd
    exact hd
  · obtain ⟨o, a, r⟩ := H.opens; exact ⟨o, K.mem a n7, r⟩
  · obtain ⟨o, a, r⟩ := H.chans c hc; exact ⟨o, K.mem a (n8 c hc).2.2.2.1, r⟩
theorem WRep.delFile (H : WRep w news l σ) {o' : Obj} {nm : Str} {tk : Str → Tok} (K : Keep l.wf news news') (hm : (l.wf, o') ∈ news') (hd : o'.IsDictOf (strKind PG w) (without (σ.files.map fun f => (f.1, .str f.2 (tk f.1))) nm)) :
    WRep w news' l { σ with files := sdel σ.files nm } := by
  obtain ⟨n1, n2, n3, n4, n5, n6, n7, n8⟩ := H.ne
  refine ⟨K.mem H.inst n1, ?_, ?_, ⟨o', tk, hm, ?_⟩, ?_, fun c hc => ?_, H.nodup, H.low⟩
  · obtain ⟨es, n, a, r⟩ := H.dict; exact ⟨es, n, K.mem a n3, r⟩
  · obtain ⟨o, a, r⟩ := H.fields; exact ⟨o, K.mem a n5, r⟩
  · rw [without_map (f := fun f : Str × Str => Value.str f.2 (tk f.1))] at hd
    exact hd
  · obtain ⟨o, a, r⟩ := H.opens; exact ⟨o, K.mem a n7, r⟩
  · obtain ⟨o, a, r⟩ := H.chans c hc; exact ⟨o, K.mem a (n8 c hc).2.2.2.1, r⟩
theorem all_sset {c : Ch} {k : Int} (h : k ∈ σ.chans.map (·.1)) : l.all { σ with chans := sset σ.chans k c } = l.all σ := by
  have e : (sset σ.chans k c).map (fun x => l.ch x.1) = σ.chans.map fun x => l.ch x.1 := by
    have := congrArg (List.map l.ch) (sset_keys_in (a := c) h)
    simpa [List.map_map, Function.comp_def] using this
  simp only [WL.all, e]
/-- a channel's record is turned -/
theorem WRep.setChan (H : WRep w news l σ) {o' : Obj} {k : Int} {c c' : Ch} (hv : vat σ.chans k = some c) (K : Keep (l.ch k) news news') (hm : (l.ch k, o') ∈ news') (hd : IsChan w o' c') :
    WRep w news' l { σ with chans := sset σ.chans k c' } := by
  obtain ⟨n1, n2, n3, n4, n5, n6, n7, n8⟩ := H.ne
  have hc := vat_mem hv
  obtain ⟨m1, m2, m3, m4, m5⟩ := n8 _ hc
  have hk := vat_some_key hv
  refine ⟨K.mem H.inst m1.symm, ?_, ?_, ?_, ?_, fun x hx => ?_, by rw [all_sset hk]; exact H.nodup, by rw [all_sset hk]; exact H.low⟩
  · obtain ⟨es, n, a, r⟩ := H.dict; exact ⟨es, n, K.mem a m2.symm, r⟩
  · obtain ⟨o, a, r⟩ := H.fields; exact ⟨o, K.mem a m3.symm, r⟩
  · obtain ⟨o, tk, a, r⟩ := H.files; exact ⟨o, tk, K.mem a m4.symm, r⟩
  · obtain ⟨o, a, r⟩ := H.opens
    refine ⟨o, K.mem a m5.symm, ?_⟩
    have e : (sset σ.chans k c').map (fun x => (x.1, Value.ref (l.ch x.1))) = σ.chans.map fun x => (x.1, Value.ref (l.ch x.1)) := by
      have := congrArg (List.map fun i => (i, Value.ref (l.ch i))) (sset_keys_in (a := c') hk)
      simpa [List.map_map, Function.comp_def] using this
    show o.IsDictOf _ ((sset σ.chans k c').map fun x => (x.1, Value.ref (l.ch x.1)))
    rw [e]; exact r
  · rcases mem_sset hx with rfl | ⟨hx, hne⟩
    · exact ⟨o', hm, hd⟩
    · obtain ⟨o, a, r⟩ := H.chans x hx
      exact ⟨o, K.mem a (H.chne hx hc hne), r⟩
/-- a new channel -/
theorem WRep.newChan (H : WRep w news l σ) {oc o' : Obj} {k : Int} {c : Ch} {b : Addr} (hv : vat σ.chans k = none) (hb : ∀ a ∈ l.all σ, a ≠ b) (hlb : (b == sysModules) = false) (K : ∀ p ∈ news, p.1 ≠ l.wo → p ∈ news') (hbm : (b, oc) ∈ news') (hc : IsChan w oc c) (hm : (l.wo, o') ∈ news')
    (hd : o'.IsDictOf (intKind PG w) (stored (σ.chans.map fun c => (c.1, .ref (l.ch c.1))) k (.ref b))) :
    WRep w news' { l with ch := fun i => if i = k then b else l.ch i } { σ with chans := sset σ.chans k c } := by
  obtain ⟨n1, n2, n3, n4, n5, n6, n7, n8⟩ := H.ne
  have hk := vat_none_key hv
  have e0 : ∀ x ∈ σ.chans, (if x.1 = k then b else l.ch x.1) = l.ch x.1 := fun x hx => by
    rw [if_neg (fun q : x.1 = k => hk (by rw [← q]; exact List.mem_map_of_mem hx))]
  have ea : WL.all { l with ch := fun i => if i = k then b else l.ch i } { σ with chans := sset σ.chans k c } = l.all σ ++ [b] := by
    simp only [WL.all, sset_new hk, List.map_append, List.map_cons, List.map_nil, if_true, List.cons_append]
    rw [List.map_congr_left e0]
  refine ⟨K _ H.inst n2, ?_, ?_, ?_, ⟨o', hm, ?_⟩, fun x hx => ?_, ?_, ?_⟩
  · obtain ⟨es, n, a, r⟩ := H.dict; exact ⟨es, n, K _ a n4, r⟩
  · obtain ⟨o, a, r⟩ := H.fields; exact ⟨o, K _ a n6, r⟩
  · obtain ⟨o, tk, a, r⟩ := H.files; exact ⟨o, tk, K _ a n7.symm, r⟩
  · rw [stored_map (l := σ.chans) (f := fun x => Value.ref (l.ch x.1)) (g := fun x => Value.ref (if x.1 = k then b else l.ch x.1)) (a := c) (by simp) (fun x _ hx => by simp [hx])] at hd
    exact hd
  · rcases mem_sset hx with rfl | ⟨hx, hne⟩
    · exact ⟨oc, by simpa using hbm, hc⟩
    · obtain ⟨o, a, r⟩ := H.chans x hx
      refine ⟨o, ?_, r⟩
      show ((if x.1 = k then b else l.ch x.1), o) ∈ news'
      rw [if_neg hne]
      exact K _ a (n8 x hx).2.2.2.2
  · rw [ea, List.nodup_append]
    exact ⟨H.nodup, by simp, fun a ha c hc => by rw [List.mem_singleton.mp hc]; exact hb a ha⟩
  · rw [ea]
    intro a ha
    rcases List.mem_append.mp ha with ha | ha
    · exact H.low a ha
    · rw [List.mem_singleton.mp ha]; exact hlb
theorem WRep.delChan (H : WRep w news l σ) {o' : Obj} {k : Int} (K : Keep l.wo news news') (hm : (l.wo, o') ∈ news') (hd : o'.IsDictOf (intKind PG w) (without (σ.chans.map fun c => (c.1, .ref (l.ch c.1))) k)) :
    WRep w news' l { σ with chans := sdel σ.chans k } := by
  obtain ⟨n1, n2, n3, n4, n5, n6, n7, n8⟩ := H.ne
  have hs : (l.all { σ with chans := sdel σ.chans k }).Sublist (l.all σ) := by
    simp only [WL.all]
    iterate 5 refine List.Sublist.cons_cons _ ?_
    exact List.Sublist.map _ List.filter_sublist
  refine ⟨K.mem H.inst n2, ?_, ?_, ?_, ⟨o', hm, ?_⟩, fun x hx => ?_, hs.nodup H.nodup, fun a ha => H.low a (hs.subset ha)⟩
  · obtain ⟨es, n, a, r⟩ := H.dict; exact ⟨es, n, K.mem a n4, r⟩
  · obtain ⟨o, a, r⟩ := H.fields; exact ⟨o, K.mem a n6, r⟩
  · obtain ⟨o, tk, a, r⟩ := H.files; exact ⟨o, tk, K.mem a n7.symm, r⟩
  · rw [without_map (f := fun c : Int × Ch => Value.ref (l.ch c.1))] at hd
    exact hd
  · obtain ⟨hx, _⟩ := mem_sdel hx
    obtain ⟨o, a, r⟩ := H.chans x hx
    exact ⟨o, K.mem a (n8 x hx).2.2.2.2, r⟩
end

end
/-! Sd -/
section
open PyProof.V
set_option maxRecDepth 100000
section
variable {prog : Program} {w : World} {A : Around} {E : Value → Shared → Prop} {s : Shared} {h₀ : Heap} {L d : Addr} {m : Str → Option Value} {news : List (Addr × Obj)} {Q : Value → Shared → Prop}
variable {K : Type} [DecidableEq K] {knd : KeyKind prog w K} {o : Obj} {kvs : List (K × Value)} {ns : List Int}
/-- sorted() of a dict whose keys are ints -/
theorem sortedD (hh : A.handled = none) (F : Fr h₀ L s.heap m) (N : News h₀ L s.heap news) (hm : (d, o) ∈ news) (hd : o.IsDictOf knd kvs) (lo : (d == sysModules) = false) (h64 : kvs.length < 64)
    (hI : ∀ vs : List Value, vs.length = kvs.length → (∀ (j : Nat) (v : Value), vs[j]? = some v → ∃ k x, kvs[j]? = some (k, x) ∧ knd.is k v = true) → IntsAre vs ns)
    (h : ∀ (D : Addr) (h' : Heap) (tk : Nat) (vs' : List Value) (ns' : List Int) (e : Nat), Fr h₀ L h' m → News h₀ L h' ((D, listOf vs'.toArray e) :: news) → (∀ q ∈ news, q.1 < D) → IntsAre vs' ns' → ns'.Perm ns → ns'.Pairwise (· ≤ ·) → Q (.ref D) { s with heap := h', toks := tk }) :
    wpAny (model prog w) A (call (.builtin "sorted") [.ref d]) Q E s := by
  obtain ⟨ep, hat⟩ := (kda_dict N hm hd).dictAt
  refine kdu_sorted (kdl_dict (knd := knd) (kvs := kvs) (ep := ep) lo) hh F N hat (by rw [sizeLine_eq]; omega) fun D h' tk vs F' N' l1 hl hv => ?_
  have hi := hI vs hl hv
  have z := N' _ (List.mem_cons_self ..)
  refine wpAny_call_entry slot_list_sort ⟨_, z.1, rfl⟩ entry_list_sort (list_sort_tree (n := 0) (vs := vs) (ns := ns) z.1 hi (by omega) fun out ns' a1 a2 a3 => ⟨.none, rfl, ?_⟩) (args_list_sort _)
  obtain ⟨e, he⟩ := sortedHeap_at (out := out) z.1
  have old : ∀ b o, b ≠ D → h'.get? b = some o → (sortedHeap h' D vs out).get? b = some o := fun b o hb ho => (sortedHeap_old hb (Heap.lt_size ho)).trans ho
  have F2 : Fr h₀ L (sortedHeap h' D vs out) m := by
    obtain ⟨oL, b1, b2, hL, b3⟩ := F'.ns
    exact ⟨⟨oL, b1, b2, old _ _ (Ne.symm z.2.1) hL, b3⟩, fun b o e => old b o (fun q => by have := z.2.2; simp only at this; rw [q, this] at e; cases e) (F'.keep b o e), F'.above⟩
  have N2 : News h₀ L (sortedHeap h' D vs out) ((D, listOf out.toList.toArray e) :: news) := fun p hp => by
    rcases List.mem_cons.mp hp with rfl | hp
    · exact ⟨by rw [Array.toArray_toList]; exact he, z.2⟩
    · have q := N' p (.tail _ hp)
      exact ⟨old _ _ (Nat.ne_of_lt (l1 p hp)) q.1, q.2⟩
  exact h D _ tk out.toList ns' e F2 N2 l1 a1 a2 a3
theorem ints_of_keys {kvs : List (Int × Value)} : ∀ (vs : List Value), vs.length = kvs.length → (∀ (j : Nat) (v : Value), vs[j]? = some v → ∃ k x, kvs[j]? = some (k, x) ∧ (PySem.intKind prog w).is k v = true) → IntsAre vs (kvs.map (·.1)) := by
  induction kvs with
  | nil => intro vs hl _; rw [List.eq_nil_of_length_eq_zero hl]; exact .nil
  | cons p r ih =>
    intro vs hl hv
    cases vs with
    | nil => cases hl
    | cons v vs =>
      obtain ⟨k, x, e, hk⟩ := hv 0 v rfl
      simp only [List.getElem?_cons_zero, Option.some.injEq] at e
      subst e
      obtain ⟨t, rfl⟩ := Flat.int_inv (kdl_flat_int hk)
      exact .cons _ _ (ih vs (by simpa using hl) fun j v hj => hv (j + 1) v hj)
end
end
local macro_rules | `(tactic| walk_at "call builtin:sorted") => `(tactic| (k_here; (with_reducible show wpAny _ _ (call (Value.builtin "sorted") [Value.ref _]) _ _ _); k_dflt (first
  | (refine' sortedD (knd := PySem.intKind _ _) ?zsh ?zsF ?zsN ?zsm ?zsd ?zsl ?zs6 ints_of_keys ?_; (case zsh => rfl); (case zsF => k_asm); (case zsN => k_asm); (case zsm => k_mem); (case zsd => assumption); (case zsl => assumption); (case zs6 => first | (simp only [List.length_map]; omega) | (simp; omega)); intro D' h' tk' vs' ns' e' F' N' l' i' p' w')
  | (refine' sortedD (knd := PySem.strKind _ _) (ns := []) (kvs := []) ?zsh ?zsF ?zsN ?zsm ?zsd ?zsl ?zs6 ?zsI ?_; (case zsh => rfl); (case zsF => k_asm); (case zsN => k_asm); (case zsm => k_mem); (case zsd => assumption); (case zsl => assumption); (case zs6 => decide); (case zsI => (intro vs hl _; rw [List.eq_nil_of_length_eq_zero hl]; exact .nil)); intro D' h' tk' vs' ns' e' F' N' l' i' p' w'; (have zz := List.perm_nil.mp p'); subst zz; cases i'))))
local macro_rules | `(tactic| walk_at "getMethod ref") => `(tactic| (k_here; k_dflt (first
  | ((with_reducible show wpAny _ _ (getMethod (Value.ref _) (Str.ofString "values") _) _ _ _); first | refine kdl_method (knd := PySem.strKind _ _) PySem.F.slot_dict_values PySem.F.type_dict_values (by k_asm) (by k_mem) (by assumption) ?_ | refine kdl_method (knd := PySem.intKind _ _) PySem.F.slot_dict_values PySem.F.type_dict_values (by k_asm) (by k_mem) (by assumption) ?_)
  | ((with_reducible show wpAny _ _ (getMethod (Value.ref _) (Str.ofString "pop") _) _ _ _); first | refine kob_method (knd := PySem.strKind _ _) PySem.F.slot_dict_pop PySem.F.type_dict_pop (by k_asm) (by k_mem) (by assumption) ?_ | refine kob_method (knd := PySem.intKind _ _) PySem.F.slot_dict_pop PySem.F.type_dict_pop (by k_asm) (by k_mem) (by assumption) ?_))))
local macro_rules | `(tactic| walk_at "call builtin:dict.values") => `(tactic| (k_here; (with_reducible show wpAny _ _ (call (Value.builtin "dict.values") [Value.ref _]) _ _ _); k_dflt (first
  | refine kdl_view_values (knd := PySem.strKind _ _) (by k_asm) (by k_asm) (by k_mem) (by assumption) (by assumption) ?_
  | refine kdl_view_values (knd := PySem.intKind _ _) (by k_asm) (by k_asm) (by k_mem) (by assumption) (by assumption) ?_); intro D' h' F' N' l1))


/-! Cm -/
section
open PyProof.Rows.LCg PyProof.Rows.LCt PyProof.V
set_option maxRecDepth 100000

/-! blocks over any walker -/
structure Src (prog : Program) (w : World) (A : Around) (h₀ : Heap) (L : Addr) (m : Str → Option Value) (xv : Value) (s₁ : Shared) (n : Nat) (P : Nat → Value → Prop) (S : List (Addr × Obj) → Prop) (news : List (Addr × Obj)) : Prop where
  F : Fr h₀ L s₁.heap m
  N : News h₀ L s₁.heap news
  size : n ≤ sizeLine
  is : S news
  walk : ∃ (oI : Obj) (fp : List Addr) (St : Nat → Heap → Prop),
    (∀ (E : Value → Shared → Prop) (Q : Value → Shared → Prop), Q (.ref s₁.heap.objs.size) { s₁ with heap := s₁.heap.push oI } → wpAny (model prog w) A (pyIter xv) Q E s₁) ∧
    Walks prog w A s₁.heap.objs.size fp [s₁.heap.objs.size] n P St ∧ St 0 (s₁.heap.push oI) ∧ (∀ b ∈ fp, b < (s₁.heap.push oI).objs.size) ∧ (∀ i h, St i h → ∃ o, h.get? s₁.heap.objs.size = some o) ∧
    (∀ i h h' o nw, St i h → h.get? s₁.heap.objs.size = some o → h'.get? s₁.heap.objs.size = some o → (∀ b o, h₀.get? b = some o → h'.get? b = some o) → News h₀ L h' nw → S nw → St i h')
def BlockWT (prog : Program) (w : World) (A : Around) (h₀ : Heap) (L : Addr) (m : Str → Option Value) (env : Env) (ct elt : Expr) (x : Str) (scope : Scope) (cl : List (Str × Addr)) (Q : Value → Shared → Prop) (xv : Value) (s₁ : Shared) : Prop :=
  ∃ n P S news, Src prog w A h₀ L m xv s₁ n P S news ∧ ∀ s₂ : Shared, (∃ h, s₂ = { s₁ with heap := h }) → CompRestT prog w A h₀ L m env ct elt x scope cl s₂ S P (FinE h₀ L m s₂ Q) n 0 [] news
def BlockWU (prog : Program) (w : World) (A : Around) (h₀ : Heap) (L : Addr) (m : Str → Option Value) (env : Env) (elt : Expr) (x : Str) (scope : Scope) (cl : List (Str × Addr)) (Q : Value → Shared → Prop) (xv : Value) (s₁ : Shared) : Prop :=
  ∃ n P S news, Src prog w A h₀ L m xv s₁ n P S news ∧ ∀ s₂ : Shared, (∃ h, s₂ = { s₁ with heap := h }) → CompRest prog w A h₀ L m env elt x scope cl s₂ S P (FinE h₀ L m s₂ Q) n 0 [] news
section
variable {prog : Program} {w : World} {A : Around} {E : Value → Shared → Prop} {s : Shared} {h₀ : Heap} {L : Addr} {m : Str → Option Value} {env : Env} {news : List (Addr × Obj)}
variable {K : Type} [DecidableEq K] {knd : KeyKind prog w K} {kvs : List (K × Value)} {o : Obj} {d v : Addr}
theorem Src.keys (hh : A.handled = none) (F : Fr h₀ L s.heap m) (N : News h₀ L s.heap news) (hm : (d, o) ∈ news) (hd : o.IsDictOf knd kvs) (lo : (d == sysModules) = false) (hsz : kvs.length ≤ sizeLine) :
    Src prog w A h₀ L m (.ref d) s kvs.length (fun i v => ∃ k x, kvs[i]? = some (k, x) ∧ knd.is k v = true) (fun nw => (d, o) ∈ nw) news := by
  obtain ⟨ep, ha⟩ := KdkAt.of hd
  have hat := ha.dictAt (N _ hm).1
  refine ⟨F, N, hsz, hm, _, _, _, fun _ _ hq => wpAny_pyIter_dict lo hat hq, Walks.dictKeys hh _ d (Nat.ne_of_lt hat.lt_size) kvs ep, ⟨⟨_, Heap.get?_push_size _ rfl, rfl, rfl⟩, hat.push _⟩, fun b hb => ?_, fun i h st => ?_, fun i h h' oI nw st e e' k N' hS => ⟨?_, ha.dictAt (N' _ hS).1⟩⟩
  · rw [Heap.size_push]
    rcases List.mem_cons.mp hb with rfl | hb
    · exact Nat.lt_succ_self _
    · rw [List.mem_singleton.mp hb]; exact Nat.lt_succ_of_lt hat.lt_size
  · obtain ⟨⟨oi, g, _⟩, _⟩ := st; exact ⟨oi, g⟩
  · obtain ⟨⟨oi, g, r⟩, _⟩ := st
    rw [e] at g; cases g
    exact ⟨oI, e', r⟩
theorem Src.str {n : Nat} {x : Str} {t : Tok} (hn : x.cps.size = n) (hh : A.handled = none) (F : Fr h₀ L s.heap m) (N : News h₀ L s.heap news) (ha : x.cps.all (· < 128) = true) (hsz : x.cps.size ≤ sizeLine) :
    Src prog w A h₀ L m (.str x t) s n (SignAt x) (fun _ => True) news := by
  subst hn
  refine ⟨F, N, hsz, trivial, _, _, _, fun _ _ hq => wpAny_pyIter_ascii ha hq, Walks.strAscii hh _ x t, ⟨_, Heap.get?_push_size _ rfl, rfl, rfl⟩, fun b hb => ?_, fun i h st => ?_, fun i h h' oI nw st e e' k N' hS => ?_⟩
  · rw [Heap.size_push, List.mem_singleton.mp hb]; exact Nat.lt_succ_self _
  · obtain ⟨oi, g, _⟩ := st; exact ⟨oi, g⟩
  · obtain ⟨oi, g, r⟩ := st
    rw [e] at g; cases g
    exact ⟨oI, e', r⟩
theorem Src.values (hh : A.handled = none) (F : Fr h₀ L s.heap m) (N : News h₀ L s.heap news) (hv : (v, { cls := .type "dict_values", data := .fields #[.ref d] }) ∈ news) (hm : (d, o) ∈ news) (hd : o.IsDictOf knd kvs) (hsz : kvs.length ≤ sizeLine) :
    Src prog w A h₀ L m (.ref v) s kvs.length (fun i v => ∃ k, kvs[i]? = some (k, v)) (fun nw => (d, o) ∈ nw) news := by
  obtain ⟨ep, ha⟩ := KdkAt.of hd
  have hat := ha.dictAt (N _ hm).1
  refine ⟨F, N, hsz, hm, _, _, _, fun _ _ hq => wpAny_pyIter_values ⟨_, (N _ hv).1, rfl, rfl⟩ hat hq, Walks.dictValues hh _ d (Nat.ne_of_lt hat.lt_size) kvs ep, ⟨⟨_, Heap.get?_push_size _ rfl, rfl, rfl⟩, hat.push _⟩, fun b hb => ?_, fun i h st => ?_, fun i h h' oI nw st e e' k N' hS => ⟨?_, ha.dictAt (N' _ hS).1⟩⟩
  · rw [Heap.size_push]
    rcases List.mem_cons.mp hb with rfl | hb
    · exact Nat.lt_succ_self _
    · rw [List.mem_singleton.mp hb]; exact Nat.lt_succ_of_lt hat.lt_size
  · obtain ⟨⟨oi, g, _⟩, _⟩ := st; exact ⟨oi, g⟩
  · obtain ⟨⟨oi, g, r⟩, _⟩ := st
    rw [e] at g; cases g
    exact ⟨oI, e', r⟩
/-- a block with one test, turn by turn -/
theorem ListComp_WT {ct elt iter : Expr} {x : Str} {px : Pos} {scope : Scope} {cl : List (Str × Addr)} {pos : Pos} {Q : Value → Shared → Prop} (F₀ : Fr h₀ L s.heap m)
    (hclos : closureFor scope env = pure cl) (hcell : ∀ y ∈ scope.names, y.2 ≠ .cell) (hkind : scope.kind = .function)
    (hnames : ∀ y ∈ scope.names, y.2 = .local → scope.names.lookup y.1 = some .local) (hx : scope.names.lookup x = some .local)
    (h : wpAny (model prog w) A (eval iter env) (BlockWT prog w A h₀ L m env ct elt x scope cl Q) E s)
    (hs : ∀ x, foldedSetIterable iter env x = pure x := by intro _; rfl) :
    wpAny (model prog w) A (eval (.ListComp elt [⟨.Name x px, iter, [ct], 0⟩] scope pos) env) Q E s := by
  rw [eval_ListComp]
  refine wpAny_comprehension_free (use := none) rfl hs hclos hkind hnames (wpAny_mono h (fun xv s₁ h₁ => ?_) fun _ _ e => e)
  obtain ⟨n, P, S, news, ⟨F, N, hsz, hS, oI, fp, St, hit, W, st0, hfp, hIo, hSt⟩, R⟩ := h₁
  refine hit _ _ ?_
  have up : ∀ b o, s₁.heap.get? b = some o → (s₁.heap.push oI).get? b = some o := fun b o e => Heap.get?_push_of_some _ e
  refine block_T W hsz hIo hSt hcell hkind hx st0 hfp (F.keeps up) (N.grown up) (Nat.ne_of_lt F.ns.lt) (next_is_new F) (fun p hp => Nat.ne_of_lt (Heap.lt_size (N p hp).1)) hS (R _ ⟨_, rfl⟩) ?_
  intro D C h tk m' ys news' F' N' o1 hn hC₀ hD₀ hCL hDL hCD offC fin
  refine ⟨m', hn, fun h'' hs'' => fin D h'' tk (F'.change hs'' hCL hC₀) (fun p hp => ?_) o1⟩
  refine ⟨hs''.extBut _ _ ?_ (N' p hp).1, (N' p hp).2⟩
  rcases List.mem_cons.mp hp with rfl | hp
  · exact Ne.symm hCD
  · exact offC p hp
theorem ListComp_WU {elt iter : Expr} {x : Str} {px : Pos} {scope : Scope} {cl : List (Str × Addr)} {pos : Pos} {Q : Value → Shared → Prop} (F₀ : Fr h₀ L s.heap m)
    (hclos : closureFor scope env = pure cl) (hcell : ∀ y ∈ scope.names, y.2 ≠ .cell) (hkind : scope.kind = .function)
    (hnames : ∀ y ∈ scope.names, y.2 = .local → scope.names.lookup y.1 = some .local) (hx : scope.names.lookup x = some .local)
    (h : wpAny (model prog w) A (eval iter env) (BlockWU prog w A h₀ L m env elt x scope cl Q) E s)
    (hs : ∀ x, foldedSetIterable iter env x = pure x := by intro _; rfl) :
    wpAny (model prog w) A (eval (.ListComp elt [⟨.Name x px, iter, [], 0⟩] scope pos) env) Q E s := by
  rw [eval_ListComp]
  refine wpAny_comprehension_free (use := none) rfl hs hclos hkind hnames (wpAny_mono h (fun xv s₁ h₁ => ?_) fun _ _ e => e)
  obtain ⟨n, P, S, news, ⟨F, N, hsz, hS, oI, fp, St, hit, W, st0, hfp, hIo, hSt⟩, R⟩ := h₁
  refine hit _ _ ?_
  have up : ∀ b o, s₁.heap.get? b = some o → (s₁.heap.push oI).get? b = some o := fun b o e => Heap.get?_push_of_some _ e
  refine block_U W hsz hIo hSt hcell hkind hx st0 hfp (F.keeps up) (N.grown up) (Nat.ne_of_lt F.ns.lt) (next_is_new F) (fun p hp => Nat.ne_of_lt (Heap.lt_size (N p hp).1)) hS (R _ ⟨_, rfl⟩) ?_
  intro D C h tk m' ys news' F' N' o1 hn hC₀ hD₀ hCL hDL hCD offC fin
  refine ⟨m', hn, fun h'' hs'' => fin D h'' tk (F'.change hs'' hCL hC₀) (fun p hp => ?_) o1⟩
  refine ⟨hs''.extBut _ _ ?_ (N' p hp).1, (N' p hp).2⟩
  rcases List.mem_cons.mp hp with rfl | hp
  · exact Ne.symm hCD
  · exact offC p hp
/-- the turns, by an invariant -/
theorem restT_inv {ct elt : Expr} {x : Str} {scope : Scope} {cl : List (Str × Addr)} {S : List (Addr × Obj) → Prop} {P : Nat → Value → Prop} {Fin : List Value → List (Addr × Obj) → Prop} {n : Nat}
    (J : Nat → List Value → List (Addr × Obj) → Prop) (fin : ∀ ys news, J n ys news → Fin ys news)
    (step : ∀ i ys news v I oI C oC D m₂ h tk (E' : Value → Shared → Prop), i < n → J i ys news → P i v → NsObj oC m₂ → m₂ x = some v → Fr h₀ L h m → News h₀ L h ((I, oI) :: (C, oC) :: (D, lst ys) :: news) → Off3 I C D news → ((@Ne Nat I C) ∧ (@Ne Nat I D) ∧ (@Ne Nat C D)) →
      wpAny (model prog w) A (isTrue ct (compEnvC scope cl C env) (eval ct (compEnvC scope cl C env))) (fun ok s' => if ok = true then
        wpAny (model prog w) A (eval elt (compEnvC scope cl C env)) (CompEnd h₀ L m { s with heap := h, toks := tk } I oI C oC D (lst ys) S (fun y news' => J (i + 1) (ys ++ [y]) news')) E' s'
        else CompEnd h₀ L m { s with heap := h, toks := tk } I oI C oC D (lst ys) S (fun _ news' => J (i + 1) ys news') Value.none s') E' { s with heap := h, toks := tk }) :
    ∀ k i ys news, i + k = n → J i ys news → CompRestT prog w A h₀ L m env ct elt x scope cl s S P Fin k i ys news := by
  intro k
  induction k with
  | zero => intro i ys news e hJ; exact fin ys news (by rw [← e]; exact hJ)
  | succ k ih =>
    intro i ys news e hJ v I oI C oC D m₂ h tk E' hP hC hx F N off ne
    refine wpAny_mono (step i ys news v I oI C oC D m₂ h tk E' (by omega) hJ hP hC hx F N off ne) (fun ok s' q => ?_) fun _ _ e => e
    by_cases ho : ok = true
    · rw [if_pos ho] at q ⊢
      refine wpAny_mono q (fun y s₃ z => ?_) fun _ _ e => e
      obtain ⟨h', tk', n', a, b, c, d, f, g⟩ := z
      exact ⟨h', tk', n', a, b, c, d, f, ih (i + 1) _ n' (by omega) g⟩
    · rw [if_neg ho] at q ⊢
      obtain ⟨h', tk', n', a, b, c, d, f, g⟩ := q
      exact ⟨h', tk', n', a, b, c, d, f, ih (i + 1) _ n' (by omega) g⟩
theorem restU_inv {elt : Expr} {x : Str} {scope : Scope} {cl : List (Str × Addr)} {S : List (Addr × Obj) → Prop} {P : Nat → Value → Prop} {Fin : List Value → List (Addr × Obj) → Prop} {n : Nat}
    (J : Nat → List Value → List (Addr × Obj) → Prop) (fin : ∀ ys news, J n ys news → Fin ys news)
    (step : ∀ i ys news v I oI C oC D m₂ h tk (E' : Value → Shared → Prop), i < n → J i ys news → P i v → NsObj oC m₂ → m₂ x = some v → Fr h₀ L h m → News h₀ L h ((I, oI) :: (C, oC) :: (D, lst ys) :: news) → Off3 I C D news → ((@Ne Nat I C) ∧ (@Ne Nat I D) ∧ (@Ne Nat C D)) →
      wpAny (model prog w) A (eval elt (compEnvC scope cl C env)) (CompEnd h₀ L m { s with heap := h, toks := tk } I oI C oC D (lst ys) S (fun y news' => J (i + 1) (ys ++ [y]) news')) E' { s with heap := h, toks := tk }) :
    ∀ k i ys news, i + k = n → J i ys news → CompRest prog w A h₀ L m env elt x scope cl s S P Fin k i ys news := by
  intro k
  induction k with
  | zero => intro i ys news e hJ; exact fin ys news (by rw [← e]; exact hJ)
  | succ k ih =>
    intro i ys news e hJ v I oI C oC D m₂ h tk E' hP hC hx F N off ne
    refine wpAny_mono (step i ys news v I oI C oC D m₂ h tk E' (by omega) hJ hP hC hx F N off ne) (fun y s₃ z => ?_) fun _ _ e => e
    obtain ⟨h', tk', n', a, b, c, d, f, g⟩ := z
    exact ⟨h', tk', n', a, b, c, d, f, ih (i + 1) _ n' (by omega) g⟩

theorem restT_same {ct elt : Expr} {x : Str} {scope : Scope} {cl : List (Str × Addr)} {S : List (Addr × Obj) → Prop} {P : Nat → Value → Prop} {Fin : List Value → List (Addr × Obj) → Prop} {n : Nat} {nw : List (Addr × Obj)}
    (J : Nat → List Value → Prop) (h0 : J 0 []) (fin : ∀ ys, J n ys → Fin ys nw)
    (step : ∀ i ys v I oI C oC D m₂ h tk (E' : Value → Shared → Prop), i < n → J i ys → P i v → NsObj oC m₂ → m₂ x = some v → Fr h₀ L h m → News h₀ L h ((I, oI) :: (C, oC) :: (D, lst ys) :: nw) → Off3 I C D nw → ((@Ne Nat I C) ∧ (@Ne Nat I D) ∧ (@Ne Nat C D)) →
      wpAny (model prog w) A (isTrue ct (compEnvC scope cl C env) (eval ct (compEnvC scope cl C env))) (fun ok s' => if ok = true then
        wpAny (model prog w) A (eval elt (compEnvC scope cl C env)) (CompEnd h₀ L m { s with heap := h, toks := tk } I oI C oC D (lst ys) S (fun y news' => news' = nw ∧ J (i + 1) (ys ++ [y]))) E' s'
        else CompEnd h₀ L m { s with heap := h, toks := tk } I oI C oC D (lst ys) S (fun _ news' => news' = nw ∧ J (i + 1) ys) Value.none s') E' { s with heap := h, toks := tk }) :
    CompRestT prog w A h₀ L m env ct elt x scope cl s S P Fin n 0 [] nw :=
  restT_inv (fun i ys n' => n' = nw ∧ J i ys) (fun ys n' j => by rw [j.1]; exact fin ys j.2) (fun i ys n' v I oI C oC D m₂ h tk E' hi j hP hC hx F N off ne => by
    obtain ⟨rfl, j⟩ := j
    exact step i ys v I oI C oC D m₂ h tk E' hi j hP hC hx F N off ne) n 0 [] nw (Nat.zero_add _) ⟨rfl, h0⟩
/-! loops -/
def StepR (h₀ : Heap) (L I : Addr) (oI : Obj) (Jn : (Str → Option Value) → List (Addr × Obj) → Prop) (s₁ : Shared) (Qr : Value → Shared → Prop) (f : Flow) (s₂ : Shared) : Prop :=
  match f with
  | .ret v => Qr v s₂
  | .next => ∃ h' tk m₂ news₂, s₂ = { s₁ with heap := h', toks := tk } ∧ Fr h₀ L h' m₂ ∧ News h₀ L h' ((I, oI) :: news₂) ∧ (∀ p ∈ news₂, p.1 ≠ I) ∧ Jn m₂ news₂
  | _ => False
theorem loop_walks {x : Str} {body : List Stmt} {Q : Flow → Shared → Prop} {I : Addr} {ds : List (Addr × Obj)} {n : Nat} {P : Nat → Value → Prop} {St : Nat → Heap → Prop}
    (J : Nat → (Str → Option Value) → List (Addr × Obj) → Prop)
    (W : Walks prog w A I (I :: ds.map (·.1)) [I] n P St) (hIo : ∀ i h, St i h → ∃ o, h.get? I = some o) (hJ : ∀ i m' n', J i m' n' → ∀ p ∈ ds, p ∈ n')
    (hI₀ : h₀.get? I = none) (hIL : env.locals ≠ I) (hnw : ∀ p ∈ news, p.1 ≠ I) (st0 : St 0 s.heap) (F : Fr h₀ env.locals s.heap m) (N : News h₀ env.locals s.heap news) (h0 : J 0 m news)
    (step : ∀ i v m₁ news₁ h tk oI, i < n → P i v → J i m₁ news₁ → (∀ p ∈ news₁, p.1 ≠ I) → Fr h₀ env.locals h (fun y => if y = x then some v else m₁ y) → News h₀ env.locals h ((I, oI) :: news₁) →
      wpAny (model prog w) A (execs body env) (StepR h₀ env.locals I oI (J (i + 1)) { s with heap := h, toks := tk } fun v s' => Q (.ret v) s') E { s with heap := h, toks := tk })
    (fin : ∀ h' tk m' news', Fr h₀ env.locals h' m' → News h₀ env.locals h' news' → J n m' news' → Q .next { s with heap := h', toks := tk }) :
    LoopAtV prog w A h₀ env x body Q E (.ref I) s := by
  have hds : ∀ p ∈ ds, env.locals ≠ p.1 := fun p hp => (N p (hJ 0 _ _ h0 p hp)).2.1.symm
  refine ⟨I, I :: ds.map (·.1), [I], n, P, St, m, news, J, rfl, W, ?_, ?_, ?_, st0, F, N, h0, ?_, fun h' tk m' news' F' N' _ hJ' => fin h' tk m' news' F' N' hJ'⟩
  · intro q
    rcases List.mem_cons.mp q with q | q
    · exact hIL q
    · obtain ⟨p, hp, e⟩ := List.mem_map.mp q
      exact hds p hp e.symm
  · intro b hb; rw [List.mem_singleton.mp hb]; exact hI₀
  · intro p hp q; exact hnw p hp (List.mem_singleton.mp q)
  · rintro i v m₁ news₁ s₁ own ⟨h, tk, rfl⟩ hi hP hJ1 hn1 o1 o2 o3 st1 F1 N1
    obtain ⟨oI, eI⟩ := hIo _ _ st1
    have mI : (I, oI) ∈ own := o3 I (.head _) hI₀ _ eI
    have N2 : News h₀ env.locals h ((I, oI) :: news₁) := fun p hp => by
      rcases List.mem_cons.mp hp with rfl | hp
      · exact N1 _ (List.mem_append_left _ mI)
      · exact N1 _ (List.mem_append_right _ hp)
    refine wpAny_mono (step i v m₁ news₁ h tk oI hi hP hJ1 (fun p hp q => hn1 p hp (List.mem_singleton.mpr q)) F1 N2) (fun f s₃ z => ?_) fun _ _ e => e
    cases f with
    | ret v => exact z
    | brk => exact z.elim
    | cont => exact z.elim
    | next =>
      obtain ⟨h', tk', m₂, news₂, rfl, F3, N3, q3, J3⟩ := z
      refine LoopStepV.next ⟨rfl, h', tk', m₂, news₂, rfl, F3, fun p hp => ?_, fun p hp q => q3 p hp (List.mem_singleton.mp q), J3⟩
      rcases List.mem_append.mp hp with hp | hp
      · have e1 := o2 p hp
        rcases List.mem_cons.mp (o1 p hp) with q | q
        · have : p = (I, oI) := by
            rw [q, eI] at e1
            exact Prod.ext q (Option.some.inj e1).symm
          rw [this]; exact N3 _ (.head _)
        · obtain ⟨p', hp', e⟩ := List.mem_map.mp q
          have e2 := (N2 p' (.tail _ (hJ _ _ _ hJ1 p' hp'))).1
          have : p = p' := by
            rw [← e, e2] at e1
            exact Prod.ext e.symm (Option.some.inj e1).symm
          rw [this]; exact N3 _ (.tail _ (hJ _ _ _ J3 p' hp'))
      · exact N3 _ (.tail _ hp)
/-- for x in d -/
theorem loop_keys {L : Addr} (hL : env.locals = L) {x : Str} {body : List Stmt} {Q : Flow → Shared → Prop} (J : Nat → (Str → Option Value) → List (Addr × Obj) → Prop)
    (hh : A.handled = none) (F : Fr h₀ L s.heap m) (N : News h₀ L s.heap news) (hm : (d, o) ∈ news) (hd : o.IsDictOf knd kvs) (lo : (d == sysModules) = false) (hJ : ∀ i m' n', J i m' n' → (d, o) ∈ n') (h0 : J 0 m news)
    (step : ∀ i v m₁ news₁ h tk I oI, i < kvs.length → (∃ k x, kvs[i]? = some (k, x) ∧ knd.is k v = true) → J i m₁ news₁ → (∀ p ∈ news₁, p.1 ≠ I) → Fr h₀ L h (fun y => if y = x then some v else m₁ y) → News h₀ L h ((I, oI) :: news₁) →
      wpAny (model prog w) A (execs body env) (StepR h₀ L I oI (J (i + 1)) { s with heap := h, toks := tk } fun v s' => Q (.ret v) s') E { s with heap := h, toks := tk })
    (fin : ∀ h' tk m' news', Fr h₀ L h' m' → News h₀ L h' news' → J kvs.length m' news' → Q .next { s with heap := h', toks := tk }) :
    wpAny (model prog w) A (pyIter (.ref d)) (fun it s₂ => LoopAtV prog w A h₀ env x body Q E it s₂) E s := by
  subst hL
  obtain ⟨ep, ha⟩ := KdkAt.of hd
  have hat := ha.dictAt (N _ hm).1
  refine wpAny_pyIter_dict lo hat ?_
  have up : ∀ b o, s.heap.get? b = some o → (s.heap.push { cls := .type "dict_keyiterator", data := .fields #[.ref d, .int 0 0, .int kvs.length 0, .int ep 0] }).get? b = some o := fun b o e => Heap.get?_push_of_some _ e
  refine loop_walks (ds := [(d, o)]) J (Walks.dictKeys hh _ d (Nat.ne_of_lt hat.lt_size) kvs ep) (fun i h st => by obtain ⟨⟨oi, g, _⟩, _⟩ := st; exact ⟨oi, g⟩) (fun i m' n' j p hp => by rw [List.mem_singleton.mp hp]; exact hJ _ _ _ j) (next_is_new F) (Nat.ne_of_lt F.ns.lt)
    (fun p hp => Nat.ne_of_lt (Heap.lt_size (N p hp).1)) ⟨⟨_, Heap.get?_push_size _ rfl, rfl, rfl⟩, hat.push _⟩ (F.keeps up) (N.grown up) h0 (fun i v m₁ news₁ h tk oI hi hP j q F' N' => step i v m₁ news₁ h tk _ oI hi hP j q F' N') fin
/-- for x in an empty list -/
theorem loop_none {L : Addr} (hL : env.locals = L) {x : Str} {body : List Stmt} {Q : Flow → Shared → Prop} {D : Addr} {e : Nat} (hh : A.handled = none) (F : Fr h₀ L s.heap m) (N : News h₀ L s.heap news) (hm : (D, listOf #[] e) ∈ news)
    (fin : ∀ h' tk, Fr h₀ L h' m → News h₀ L h' news → Q .next { s with heap := h', toks := tk }) :
    wpAny (model prog w) A (pyIter (.ref D)) (fun it s₂ => LoopAtV prog w A h₀ env x body Q E it s₂) E s := by
  subst hL
  have hl := N.isList hm
  have hlt : D < s.heap.objs.size := Heap.lt_size (N _ hm).1
  refine wpAny_pyIter_list hl ?_
  have up : ∀ b o, s.heap.get? b = some o → (s.heap.push { cls := .type "list_iterator", data := .fields #[.ref D, .int 0 0] }).get? b = some o := fun b o e => Heap.get?_push_of_some _ e
  refine loop_walks (ds := [(D, listOf #[] e)]) (fun _ m' n' => m' = m ∧ n' = news) (Walks.list hh _ D (Nat.ne_of_lt hlt) #[]) (fun i h st => by obtain ⟨⟨oi, g, _⟩, _⟩ := st; exact ⟨oi, g⟩) (fun i m' n' j p hp => by rw [List.mem_singleton.mp hp, j.2]; exact hm) (next_is_new F) (Nat.ne_of_lt F.ns.lt)
    (fun p hp => Nat.ne_of_lt (Heap.lt_size (N p hp).1)) ⟨⟨_, Heap.get?_push_size _ rfl, rfl, rfl⟩, hl.push _⟩ (F.keeps up) (N.grown up) ⟨rfl, rfl⟩ (fun i v m₁ news₁ h tk oI hi => absurd hi (Nat.not_lt_zero _)) fun h' tk m' n' F' N' j => ?_
  obtain ⟨rfl, rfl⟩ := j
  exact fin h' tk F' N'
end
end
local macro_rules | `(tactic| walk_at "mine enterC") => `(tactic| (refine' code_defC ?k1 ?k2 ?k3 ?k4 ?k5 ?kA ?kF ?kK ?k6 ?k7 ?k8 ?k9 ?kB ?kD ?_ ?c2 ?c3 ?c4; (case kA => exact rfl); (case kF => exact rfl); (case kK => assumption); (case k1 => k_asm); (case k2 => k_asm); (case k3 => k_asm); (case k4 => k_asm); (case k5 => k_asm); (case k6 => k_is); (case k7 => k_is); (case k8 => ktr_room); (case k9 => exact BindsTo.of_eq rfl); (case kB => exact rfl); (case kD => decide +kernel); (case c2 => exact rfl); (case c3 => exact rfl); (case c4 => exact rfl); k_whole; intro g' L' h' tk' cells' FG' F' N' Y' B' X' T' l1; k_cells Y'; (try simp only [List.cons_append, List.nil_append] at N'); (try dsimp only); (try k_fold)))
local macro_rules | `(tactic| walk_at "eval ListComp") => `(tactic| (k_here; k_dflt (first
  | refine ListComp_WT (F₀ := by k_asm) (by with_unfolding_all rfl) (by decide) (by rfl) (by decide) (by rfl) ?_
  | refine ListComp_WU (F₀ := by k_asm) (by with_unfolding_all rfl) (by decide) (by rfl) (by decide) (by rfl) ?_)))
section
open PyProof.Rows.LCg PyProof.Rows.LCt PyProof.V
set_option maxRecDepth 100000
theorem ld_m {M : Model} {A : Around} {E : Value → Shared → Prop} {s : Shared} {h₀ : Heap} {L : Addr} {m : Str → Option Value} {env : Env} {x : Str} {pos : Pos} {v : Value} {Q : Value → Shared → Prop} (hL : env.locals = L) (F : Fr h₀ L s.heap m) (hv : m x = some v) (h : Q v s)
    (hk : env.scope.kind = .function) (hl : env.kindOf x = some .local) (hd : (x == ("__debug__" : Str)) = false) : wpAny M A (eval (.Name x pos) env) Q E s := by
  subst hL
  exact wpAny_Name (wpAny_loadName_local hk hl F.ns hv h) hd
def CutT (s : Shared) (C : Prop) (s' : Shared) : Prop := (∃ tk, s' = { s with toks := tk }) ∧ C
theorem CutT.mk {s : Shared} {C : Prop} {tk : Nat} (c : C) : CutT s C { s with toks := tk } := ⟨⟨tk, rfl⟩, c⟩
section
variable {M : Model} {A : Around} {E : Value → Shared → Prop} {s : Shared} {st : Stmt} {ex t : Expr} {env : Env}
/-- a statement that turns nothing: what it shows -/
theorem cutT {C : Prop} {Q : Flow → Shared → Prop} (h : wpAny M A (exec st env) (fun fl s' => match fl with | .next => CutT s C s' | f => Q f s') E s) (k : C → ∀ tk, Q .next { s with toks := tk }) : wpAny M A (exec st env) Q E s := by
  refine wpAny_mono h (fun fl s' z => ?_) fun _ _ e => e
  cases fl with
  | next => obtain ⟨⟨tk, rfl⟩, c⟩ := z; exact k c tk
  | _ => exact z
theorem cutB {C : Bool → Prop} {e : Sem Value} {Q : Bool → Shared → Prop} (h : wpAny M A (PySem.isTrue t env e) (fun b s' => CutT s (C b) s') E s) (k : ∀ b, C b → ∀ tk, Q b { s with toks := tk }) : wpAny M A (PySem.isTrue t env e) Q E s := by
  refine wpAny_mono h (fun b s' z => ?_) fun _ _ e => e
  obtain ⟨⟨tk, rfl⟩, c⟩ := z; exact k b c tk
theorem cutV {C : Value → Prop} {Q : Value → Shared → Prop} (h : wpAny M A (eval ex env) (fun v s' => CutT s (C v) s') E s) (k : ∀ v, C v → ∀ tk, Q v { s with toks := tk }) : wpAny M A (eval ex env) Q E s := by
  refine wpAny_mono h (fun v s' z => ?_) fun _ _ e => e
  obtain ⟨⟨tk, rfl⟩, c⟩ := z; exact k v c tk
def CutF (s : Shared) (g : Heap) (L : Addr) (m : Str → Option Value) (D : Addr) (n0 : List (Addr × Obj)) (C : List (Addr × Obj) → Prop) (s' : Shared) : Prop := ∃ h' tk n', s' = { s with heap := h', toks := tk } ∧ Fr g L h' m ∧ News g L h' n' ∧ Keep D n0 n' ∧ C n'
theorem cutF {g : Heap} {L : Addr} {m : Str → Option Value} {n0 : List (Addr × Obj)} (D : Addr) (C : List (Addr × Obj) → Prop) {Q : Flow → Shared → Prop} (_ : Fr g L s.heap m) (_ : News g L s.heap n0)
    (h : wpAny M A (exec st env) (fun fl s' => match fl with | .next => CutF s g L m D n0 C s' | f => Q f s') E s) (k : ∀ h' tk n', Fr g L h' m → News g L h' n' → Keep D n0 n' → C n' → Q .next { s with heap := h', toks := tk }) : wpAny M A (exec st env) Q E s := by
  refine wpAny_mono h (fun fl s' z => ?_) fun _ _ e => e
  cases fl with
  | next => obtain ⟨h', tk, n', rfl, a, b, c, d⟩ := z; exact k h' tk n' a b c d
  | _ => exact z
theorem here_if {test : Expr} {b o : List Stmt} {p : Pos} {Q : Flow → Shared → Prop} (h : Here (wpAny M A (exec (.If test b o p) env) Q E s)) : wpAny M A (exec (.If test b o p) env) Q E s := h
theorem here_ifexp {a b c : Expr} {p : Pos} {Q : Value → Shared → Prop} (h : Here (wpAny M A (eval (.IfExp a b c p) env) Q E s)) : wpAny M A (eval (.IfExp a b c p) env) Q E s := h
end
theorem ne_of_beq_false {a b : Str} (h : (a == b) = false) : a ≠ b := fun q => by rw [beq_iff_eq.mpr q] at h; cases h
theorem only_A {σ : St} {mode nm : Str} (hm : mode = "O" ∨ mode = "I" ∨ mode = "A") (hC : mode = "I" → ∃ x, vat σ.files nm = some x) (hf : vat σ.files nm = none) (h : (mode == Str.ofString "O") = false) : mode = "A" := by
  rcases hm with q | q | q
  · exact absurd q (ne_of_beq_false h)
  · obtain ⟨x, e⟩ := hC q; rw [hf] at e; cases e
  · exact q

end
/-! C3 -/
section
set_option maxRecDepth 100000 in
set_option maxHeartbeats 8000000 in
theorem rest_err {w : World} {dp un : Nat} {gd : Option (List Code)} {cn : Str} {cs : Scope} {a : Addr} {ccd : Value} {cl : List (Str × Addr)} {outer : List Env} {A₀ : Around} {base h₀ : Heap} {L : Addr} {m mg mb : Str → Option Value}
    {news : List (Addr × Obj)} {s : Shared} {Q E : Value → Shared → Prop} {loose : List Str} {mean : ExcName → Option Value}
    (B : Below A₀ base outer h₀) (F : Fr h₀ L s.heap m) (N : News h₀ L s.heap news) (XB : (hd.heap_1 w.params).In base) (TB : Top topProg loose mean mg mb base) (hk : cs.kind = .function) (hdp : dp + 10 < recursionLimit) (hu : un + 100 < cLine)
    {l : WL} {σ : St} (H : WRep w news l σ) {k : Int} {tk : Tok} {code : Str} (hc : ChErr σ k ["I"] code) (he : Err A₀ base outer h₀ L m news code s E) :
    wpAny (model PySem.Challenge.rw_pq0172_01.row.prog w) (ktrTop dp un gd cn cs L a ccd cl outer) (call (.ref 101) [.ref l.wi, .int k tk]) Q E s := by
  revert XB; k_fill; intro XB
  have X := XB.keeps B.stays
  have T := TB.keeps B.stays
  refine wpAny_call ?_
  k_dflt ktr_enter
  walk_at "mine fold"
  k_steps
  walk_at "mine err"

set_option maxRecDepth 100000 in
set_option maxHeartbeats 8000000 in
theorem rest_ok {w : World} {dp un : Nat} {gd : Option (List Code)} {cn : Str} {cs : Scope} {a : Addr} {ccd : Value} {cl : List (Str × Addr)} {outer : List Env} {A₀ : Around} {base h₀ : Heap} {L : Addr} {m mg mb : Str → Option Value}
    {news : List (Addr × Obj)} {s : Shared} {Q E : Value → Shared → Prop} {loose : List Str} {mean : ExcName → Option Value}
    (B : Below A₀ base outer h₀) (F : Fr h₀ L s.heap m) (N : News h₀ L s.heap news) (XB : (hd.heap_1 w.params).In base) (TB : Top topProg loose mean mg mb base) (hk : cs.kind = .function) (hdp : dp + 10 < recursionLimit) (hu : un + 100 < cLine)
    {l : WL} {σ : St} (H : WRep w news l σ) {k : Int} {tk : Tok} {c : Ch} {t : Str} (hv : vat σ.chans k = some c) (hb : ([("I" : Str)].any (· == c.mode)) = true) (hf : vat σ.files c.name = some t) (hl : t.length ≤ 1000) (ha : c.at_ ≤ 1000)
    (ret : ∀ tr h' tk' news', Fr h₀ L h' m → News h₀ L h' news' → (∀ p ∈ news, p ∈ news') → (Txt.slice t (some c.at_) none).length ≤ t.length → Q (.str (Txt.slice t (some c.at_) none) tr) { s with heap := h', toks := tk' }) :
    wpAny (model PySem.Challenge.rw_pq0172_01.row.prog w) (ktrTop dp un gd cn cs L a ccd cl outer) (call (.ref 101) [.ref l.wi, .int k tk]) Q E s := by
  revert XB; k_fill; intro XB
  have X := XB.keeps B.stays
  have T := TB.keeps B.stays
  have i1 := H.inst
  refine H.goDict fun es n i2 g1 g2 g3 => ?_
  have b1 := chan_some' (l := l) hv
  have b2 := chan_some (l := l) hv
  refine H.goChan hv fun oC i4 t1 t2 t3 t4 t5 t6 d4 => ?_
  have z4 := H.lowc hv
  refine H.goFiles fun oF tkF i5 d5 => ?_
  have z5 := H.lowf
  have b5 := file_some (tk := tkF) hf
  refine wpAny_call ?_
  k_dflt ktr_enter
  walk_at "mine fold"
  k_steps
  exact ret _ _ _ _ (by k_asm) (by k_asm) (fun p hp => .tail _ hp) (by assumption)

end
local macro_rules | `(tactic| walk_at "call ref") => `(tactic| (k_here; (with_reducible show wpAny _ _ (call (Value.ref 101) [Value.ref _, Value.int _ _]) _ _ _); k_dflt (first
  | (refine rest_err (by k_asm) (by k_asm) (by k_asm) (by k_asm) (by k_asm) (by first | exact rfl | k_asm) (by ktr_room) (by ktr_units) (by walk_at "mine rep") (by assumption) ?_; intro e' h' tk' g' n' lo' T' F' N' B' x' c' l')
  | (refine rest_ok (by k_asm) (by k_asm) (by k_asm) (by k_asm) (by k_asm) (by first | exact rfl | k_asm) (by ktr_room) (by ktr_units) (by walk_at "mine rep") (by assumption) (by assumption) (by assumption) (by assumption) (by assumption) ?_; intro tr' h' tk' n' F' N' c' z'))))


/-! C4 -/
section
theorem append_nl_le {x : Str} (h : x.length ≤ 500) : (x ++ "\n").length ≤ 1000 := by rw [Str.length_append]; have := nl_len; omega
set_option maxRecDepth 100000 in
set_option maxHeartbeats 8000000 in
theorem write_err {w : World} {dp un : Nat} {gd : Option (List Code)} {cn : Str} {cs : Scope} {a : Addr} {ccd : Value} {cl : List (Str × Addr)} {outer : List Env} {A₀ : Around} {base h₀ : Heap} {L : Addr} {m mg mb : Str → Option Value}
    {news : List (Addr × Obj)} {s : Shared} {Q E : Value → Shared → Prop} {loose : List Str} {mean : ExcName → Option Value}
    (B : Below A₀ base outer h₀) (F : Fr h₀ L s.heap m) (N : News h₀ L s.heap news) (XB : (hd.heap_1 w.params).In base) (TB : Top topProg loose mean mg mb base) (hk : cs.kind = .function) (hdp : dp + 10 < recursionLimit) (hu : un + 100 < cLine)
    {l : WL} {σ : St} (H : WRep w news l σ) {k : Int} {tk tx : Tok} {x : Str} {code : Str} (hc : ChErr σ k ["O", "A"] code) (he : Err A₀ base outer h₀ L m news code s E) :
    wpAny (model PySem.Challenge.rw_pq0172_01.row.prog w) (ktrTop dp un gd cn cs L a ccd cl outer) (call (.ref 87) [.ref l.wi, .int k tk, .str x tx]) Q E s := by
  revert XB; k_fill; intro XB
  have X := XB.keeps B.stays
  have T := TB.keeps B.stays
  refine wpAny_call ?_
  k_dflt ktr_enter
  walk_at "mine fold"
  k_steps
  walk_at "mine err"

set_option maxRecDepth 100000 in
set_option maxHeartbeats 8000000 in
theorem write_ok {w : World} {dp un : Nat} {gd : Option (List Code)} {cn : Str} {cs : Scope} {a : Addr} {ccd : Value} {cl : List (Str × Addr)} {outer : List Env} {A₀ : Around} {base h₀ : Heap} {L : Addr} {m mg mb : Str → Option Value}
    {news : List (Addr × Obj)} {s : Shared} {Q E : Value → Shared → Prop} {loose : List Str} {mean : ExcName → Option Value}
    (B : Below A₀ base outer h₀) (F : Fr h₀ L s.heap m) (N : News h₀ L s.heap news) (XB : (hd.heap_1 w.params).In base) (TB : Top topProg loose mean mg mb base) (hk : cs.kind = .function) (hdp : dp + 10 < recursionLimit) (hu : un + 100 < cLine)
    {l : WL} {σ : St} (H : WRep w news l σ) {k : Int} {tk tx : Tok} {x : Str} {c : Ch} {t : Str} (hv : vat σ.chans k = some c) (hb : ([("O" : Str), "A"].any (· == c.mode)) = true) (hf : vat σ.files c.name = some t) (hl : t.length ≤ 1000) (hx : x.length ≤ 1000) (ha : c.at_ ≤ 1000) (hfl : σ.files.length ≤ 100)
    (ret : ∀ h' tk' news', Fr h₀ L h' m → News h₀ L h' news' → WRep w news' l { files := sset σ.files c.name (t ++ x), chans := sset σ.chans k { c with at_ := c.at_ + x.length } } → (∀ p ∈ news, p.1 ∉ l.all σ → p ∈ news') → Q .none { s with heap := h', toks := tk' }) :
    wpAny (model PySem.Challenge.rw_pq0172_01.row.prog w) (ktrTop dp un gd cn cs L a ccd cl outer) (call (.ref 87) [.ref l.wi, .int k tk, .str x tx]) Q E s := by
  revert XB; k_fill; intro XB
  have X := XB.keeps B.stays
  have T := TB.keeps B.stays
  have i1 := H.inst
  refine H.goDict fun es n i2 g1 g2 g3 => ?_
  have b1 := chan_some' (l := l) hv
  have b2 := chan_some (l := l) hv
  refine H.goChan hv fun oC i4 t1 t2 t3 t4 t5 t6 d4 => ?_
  have z4 := H.lowc hv
  refine H.goFiles fun oF tkF i5 d5 => ?_
  have z5 := H.lowf
  have b5 := file_some (tk := tkF) hf
  refine wpAny_call ?_
  k_dflt ktr_enter
  walk_at "mine fold"
  k_steps
  k_dflt (refine setD (knd := strKind PG w) (by k_asm) (by k_asm) (by k_mem) d5 (strKind_is _ _ _ _) (by simp <;> omega) ?_)
  intro h2 n2 o2 F2 N2 m2 K2 e2
  have H2 := WRep.setFile (H.mono (by exact fun _ h => .tail _ h)) K2 m2 e2
  have i1 := H2.inst
  refine H2.goDict fun es n i2 g1 g2 g3 => ?_
  have b1 := chan_some' (l := l) hv
  have b2 := chan_some (l := l) hv
  refine H2.goChan hv fun oC i4 t1 t2 t3 t4 t5 t6 d4 => ?_
  have z4 := H2.lowc hv
  refine H2.goFiles fun oF tkF i5 d5 => ?_
  have z5 := H2.lowf
  k_steps
  k_dflt (refine setD (knd := strKind PG w) (by k_asm) (by k_asm) (by k_mem) d4 (strKind_is _ _ _ _) (by simp <;> omega) ?_)
  intro h3 n3 o3 F3 N3 m3 K3 e3
  have H3 := H2.setChan (c' := { c with at_ := c.at_ + x.length }) hv K3 m3 ⟨_, _, _, _, _, _, e3⟩
  k_steps
  exact ret _ _ n3 (by k_asm) (by k_asm) H3 fun p hp hn => K3 p (K2 p (.tail _ hp) fun q => hn (q ▸ mem_wf)) fun q => hn (q ▸ mem_ch hv)

end
local macro_rules | `(tactic| walk_at "call ref") => `(tactic| (k_here; (with_reducible show wpAny _ _ (call (Value.ref 87) [Value.ref _, Value.int _ _, Value.str _ _]) _ _ _); k_dflt (first
  | (refine write_err (by k_asm) (by k_asm) (by k_asm) (by k_asm) (by k_asm) (by first | exact rfl | k_asm) (by ktr_room) (by ktr_units) (by walk_at "mine rep") (by assumption) ?_; intro e' h' tk' g' n' lo' T' F' N' B' x' c' l')
  | (refine write_ok (by k_asm) (by k_asm) (by k_asm) (by k_asm) (by k_asm) (by first | exact rfl | k_asm) (by ktr_room) (by ktr_units) (by walk_at "mine rep") (by assumption) (by assumption) (by assumption) (by assumption) (by first | assumption | omega | exact append_nl_le (by assumption)) (by assumption) (by assumption) ?_; intro h' tk' n' F' N' H' c'))))


/-! C5 -/
section
set_option maxRecDepth 100000 in
set_option maxHeartbeats 8000000 in
theorem row_err {w : World} {dp un : Nat} {gd : Option (List Code)} {cn : Str} {cs : Scope} {a : Addr} {ccd : Value} {cl : List (Str × Addr)} {outer : List Env} {A₀ : Around} {base h₀ : Heap} {L : Addr} {m mg mb : Str → Option Value}
    {news : List (Addr × Obj)} {s : Shared} {Q E : Value → Shared → Prop} {loose : List Str} {mean : ExcName → Option Value}
    (B : Below A₀ base outer h₀) (F : Fr h₀ L s.heap m) (N : News h₀ L s.heap news) (XB : (hd.heap_1 w.params).In base) (TB : Top topProg loose mean mg mb base) (hk : cs.kind = .function) (hdp : dp + 14 < recursionLimit) (hu : un + 140 < cLine)
    {l : WL} {σ : St} (H : WRep w news l σ) {k : Int} {tk tx : Tok} {x : Str} (hx : x.length ≤ 500) {code : Str} (hc : ChErr σ k ["O", "A"] code) (he : Err A₀ base outer h₀ L m news code s E) :
    wpAny (model PySem.Challenge.rw_pq0172_01.row.prog w) (ktrTop dp un gd cn cs L a ccd cl outer) (call (.ref 94) [.ref l.wi, .int k tk, .str x tx]) Q E s := by
  revert XB; k_fill; intro XB
  have X := XB.keeps B.stays
  have T := TB.keeps B.stays
  refine wpAny_call ?_
  k_dflt ktr_enter
  walk_at "mine fold"
  k_steps
  walk_at "mine err"

set_option maxRecDepth 100000 in
set_option maxHeartbeats 8000000 in
theorem row_ok {w : World} {dp un : Nat} {gd : Option (List Code)} {cn : Str} {cs : Scope} {a : Addr} {ccd : Value} {cl : List (Str × Addr)} {outer : List Env} {A₀ : Around} {base h₀ : Heap} {L : Addr} {m mg mb : Str → Option Value}
    {news : List (Addr × Obj)} {s : Shared} {Q E : Value → Shared → Prop} {loose : List Str} {mean : ExcName → Option Value}
    (B : Below A₀ base outer h₀) (F : Fr h₀ L s.heap m) (N : News h₀ L s.heap news) (XB : (hd.heap_1 w.params).In base) (TB : Top topProg loose mean mg mb base) (hk : cs.kind = .function) (hdp : dp + 14 < recursionLimit) (hu : un + 140 < cLine)
    {l : WL} {σ : St} (H : WRep w news l σ) {k : Int} {tk tx : Tok} {x : Str} {c : Ch} {t : Str} (hv : vat σ.chans k = some c) (hb : ([("O" : Str), "A"].any (· == c.mode)) = true) (hf : vat σ.files c.name = some t) (hl : t.length ≤ 1000) (hx : x.length ≤ 500) (ha : c.at_ ≤ 1000) (hfl : σ.files.length ≤ 100)
    (ret : ∀ h' tk' news', Fr h₀ L h' m → News h₀ L h' news' → WRep w news' l { files := sset σ.files c.name (t ++ (x ++ "\n")), chans := sset σ.chans k { c with at_ := c.at_ + (x ++ "\n").length } } → (∀ p ∈ news, p.1 ∉ l.all σ → p ∈ news') → Q .none { s with heap := h', toks := tk' }) :
    wpAny (model PySem.Challenge.rw_pq0172_01.row.prog w) (ktrTop dp un gd cn cs L a ccd cl outer) (call (.ref 94) [.ref l.wi, .int k tk, .str x tx]) Q E s := by
  revert XB; k_fill; intro XB
  have X := XB.keeps B.stays
  have T := TB.keeps B.stays
  refine wpAny_call ?_
  k_dflt ktr_enter
  walk_at "mine fold"
  k_steps
  exact ret _ _ _ (by k_asm) (by k_asm) (by assumption) (by assumption)



end
/-! C6 -/
section
set_option maxRecDepth 100000 in
set_option maxHeartbeats 8000000 in
theorem go_ok {w : World} {dp un : Nat} {gd : Option (List Code)} {cn : Str} {cs : Scope} {a : Addr} {ccd : Value} {cl : List (Str × Addr)} {outer : List Env} {A₀ : Around} {base h₀ : Heap} {L : Addr} {m mg mb : Str → Option Value}
    {news : List (Addr × Obj)} {s : Shared} {Q E : Value → Shared → Prop} {loose : List Str} {mean : ExcName → Option Value}
    (B : Below A₀ base outer h₀) (F : Fr h₀ L s.heap m) (N : News h₀ L s.heap news) (XB : (hd.heap_1 w.params).In base) (TB : Top topProg loose mean mg mb base) (hk : cs.kind = .function) (hdp : dp + 10 < recursionLimit) (hu : un + 100 < cLine)
    {l : WL} {σ : St} (H : WRep w news l σ) {k i : Int} {tk tn : Tok} {n₀ : Nat} (hi : i = n₀) {c : Ch} {t : Str} (hv : vat σ.chans k = some c) (hb : ([("I" : Str)].any (· == c.mode)) = true) (hf : vat σ.files c.name = some t) (hl : t.length ≤ 1000) (ha : c.at_ ≤ 1000) (hn : n₀ ≤ 2000)
    (ret : ∀ h' tk' news', Fr h₀ L h' m → News h₀ L h' news' → WRep w news' l { σ with chans := sset σ.chans k { c with at_ := min (c.at_ + n₀) t.length } } → (∀ p ∈ news, p.1 ∉ l.all σ → p ∈ news') → Q .none { s with heap := h', toks := tk' }) :
    wpAny (model PySem.Challenge.rw_pq0172_01.row.prog w) (ktrTop dp un gd cn cs L a ccd cl outer) (call (.ref 108) [.ref l.wi, .int k tk, .int i tn]) Q E s := by
  subst hi
  revert XB; k_fill; intro XB
  have X := XB.keeps B.stays
  have T := TB.keeps B.stays
  have i1 := H.inst
  refine H.goDict fun es n i2 g1 g2 g3 => ?_
  have b1 := chan_some' (l := l) hv
  have b2 := chan_some (l := l) hv
  refine H.goChan hv fun oC i4 t1 t2 t3 t4 t5 t6 d4 => ?_
  have z4 := H.lowc hv
  refine H.goFiles fun oF tkF i5 d5 => ?_
  have z5 := H.lowf
  have b5 := file_some (tk := tkF) hf
  refine wpAny_call ?_
  k_dflt ktr_enter
  walk_at "mine fold"
  k_steps
  have em : (if (t.length : Int) < (c.at_ : Int) + (n₀ : Int) then (t.length : Int) else (c.at_ : Int) + (n₀ : Int)) = ((min (c.at_ + n₀) t.length : Nat) : Int) := by
    split <;> omega
  rw [em]
  k_dflt (refine setD (knd := strKind PG w) (by k_asm) (by k_asm) (by k_mem) d4 (strKind_is _ _ _ _) (by simp <;> omega) ?_)
  intro h3 n3 o3 F3 N3 m3 K3 e3
  have H3 := WRep.setChan (c' := { c with at_ := min (c.at_ + n₀) t.length }) (H.mono (by exact fun _ h => .tail _ h)) hv K3 m3 ⟨_, _, _, _, _, _, e3⟩
  k_steps
  exact ret _ _ n3 (by k_asm) (by k_asm) H3 fun p hp hn => K3 p (.tail _ hp) fun q => hn (q ▸ mem_ch hv)

end
local macro_rules | `(tactic| walk_at "call ref") => `(tactic| (k_here; (with_reducible show wpAny _ _ (call (Value.ref 108) [Value.ref _, Value.int _ _, Value.int _ _]) _ _ _); k_dflt (first
  | (refine go_ok (by k_asm) (by k_asm) (by k_asm) (by k_asm) (by k_asm) (by first | exact rfl | k_asm) (by ktr_room) (by ktr_units) (by walk_at "mine rep") (by first | exact rfl | exact (Int.natCast_succ _).symm) (by assumption) (by assumption) (by assumption) (by assumption) (by assumption) (by first | assumption | omega | exact Nat.le_trans (Nat.succ_le_succ (Txt.slice_le _ _ _)) (by omega)) ?_; intro h' tk' n' F' N' H' c'))))


/-! C7 -/
section
set_option maxRecDepth 100000 in
set_option maxHeartbeats 8000000 in
theorem read_err {w : World} {dp un : Nat} {gd : Option (List Code)} {cn : Str} {cs : Scope} {a : Addr} {ccd : Value} {cl : List (Str × Addr)} {outer : List Env} {A₀ : Around} {base h₀ : Heap} {L : Addr} {m mg mb : Str → Option Value}
    {news : List (Addr × Obj)} {s : Shared} {Q E : Value → Shared → Prop} {loose : List Str} {mean : ExcName → Option Value}
    (B : Below A₀ base outer h₀) (F : Fr h₀ L s.heap m) (N : News h₀ L s.heap news) (XB : (hd.heap_1 w.params).In base) (TB : Top topProg loose mean mg mb base) (hk : cs.kind = .function) (hdp : dp + 16 < recursionLimit) (hu : un + 160 < cLine)
    {l : WL} {σ : St} (H : WRep w news l σ) {k : Int} {tk : Tok} {code : Str} (hc : ChErr σ k ["I"] code) (he : Err A₀ base outer h₀ L m news code s E) :
    wpAny (model PySem.Challenge.rw_pq0172_01.row.prog w) (ktrTop dp un gd cn cs L a ccd cl outer) (call (.ref 115) [.ref l.wi, .int k tk]) Q E s := by
  revert XB; k_fill; intro XB
  have X := XB.keeps B.stays
  have T := TB.keeps B.stays
  refine wpAny_call ?_
  k_dflt ktr_enter
  walk_at "mine fold"
  k_steps
  walk_at "mine err"

def rowOf (x : Str) : Str := if Txt.find x "\n" < 0 then x else Txt.slice x none (some (Txt.find x "\n"))
theorem rowOf_neg {x : Str} (h : Txt.find x "\n" < 0) : rowOf x = x := if_pos h
theorem rowOf_pos {x : Str} (h : ¬ Txt.find x "\n" < 0) : rowOf x = Txt.slice x none (some (Txt.find x "\n")) := if_neg h
theorem sub_f {n1 n2 n3 : List (Addr × Obj)} {A : List Addr} (a : ∀ p ∈ n2, p.1 ∉ A → p ∈ n3) (b : ∀ p ∈ n1, p ∈ n2) : ∀ p ∈ n1, p.1 ∉ A → p ∈ n3 := fun p hp hn => a p (b p hp) hn
set_option maxRecDepth 100000 in
set_option maxHeartbeats 8000000 in
theorem read_go {w : World} {dp un : Nat} {gd : Option (List Code)} {cn : Str} {cs : Scope} {a : Addr} {ccd : Value} {cl : List (Str × Addr)} {outer : List Env} {A₀ : Around} {base h₀ : Heap} {L : Addr} {m mg mb : Str → Option Value}
    {news : List (Addr × Obj)} {s : Shared} {Q E : Value → Shared → Prop} {loose : List Str} {mean : ExcName → Option Value}
    (B : Below A₀ base outer h₀) (F : Fr h₀ L s.heap m) (N : News h₀ L s.heap news) (XB : (hd.heap_1 w.params).In base) (TB : Top topProg loose mean mg mb base) (hk : cs.kind = .function) (hdp : dp + 16 < recursionLimit) (hu : un + 160 < cLine)
    {l : WL} {σ : St} (H : WRep w news l σ) {k : Int} {tk : Tok} {c : Ch} {t : Str} (hv : vat σ.chans k = some c) (hb : ([("I" : Str)].any (· == c.mode)) = true) (hf : vat σ.files c.name = some t) (hl : t.length ≤ 1000) (ha : c.at_ ≤ 1000)
    (he : Txt.slice t (some c.at_) none = "" → Err A₀ base outer h₀ L m news "EF" s E)
    (ret : ∀ tr h' tk' news', Txt.slice t (some c.at_) none ≠ "" → Fr h₀ L h' m → News h₀ L h' news' → WRep w news' l { σ with chans := sset σ.chans k { c with at_ := min (c.at_ + ((rowOf (Txt.slice t (some c.at_) none)).length + 1)) t.length } } → (∀ p ∈ news, p.1 ∉ l.all σ → p ∈ news') → Q (.str (rowOf (Txt.slice t (some c.at_) none)) tr) { s with heap := h', toks := tk' }) :
    wpAny (model PySem.Challenge.rw_pq0172_01.row.prog w) (ktrTop dp un gd cn cs L a ccd cl outer) (call (.ref 115) [.ref l.wi, .int k tk]) Q E s := by
  revert XB; k_fill; intro XB
  have X := XB.keeps B.stays
  have T := TB.keeps B.stays
  refine wpAny_call ?_
  k_dflt ktr_enter
  walk_at "mine fold"
  k_steps
  · have he := he (eq_of_beq (by assumption))
    walk_at "mine err"
  · have er := rowOf_neg (x := Txt.slice t (some c.at_) none) (by assumption)
    rw [er] at ret
    exact ret _ _ _ _ (ne_of_beq_false (by assumption)) (by k_asm) (by k_asm) (by assumption) (sub_f (by assumption) (by assumption))
  · have er := rowOf_pos (x := Txt.slice t (some c.at_) none) (by assumption)
    rw [er] at ret
    exact ret _ _ _ _ (ne_of_beq_false (by assumption)) (by k_asm) (by k_asm) (by assumption) (sub_f (by assumption) (by assumption))


end
/-! C8 -/
section
set_option maxRecDepth 100000 in
set_option maxHeartbeats 8000000 in
theorem signs_err {w : World} {dp un : Nat} {gd : Option (List Code)} {cn : Str} {cs : Scope} {a : Addr} {ccd : Value} {cl : List (Str × Addr)} {outer : List Env} {A₀ : Around} {base h₀ : Heap} {L : Addr} {m mg mb : Str → Option Value}
    {news : List (Addr × Obj)} {s : Shared} {Q E : Value → Shared → Prop} {loose : List Str} {mean : ExcName → Option Value}
    (B : Below A₀ base outer h₀) (F : Fr h₀ L s.heap m) (N : News h₀ L s.heap news) (XB : (hd.heap_1 w.params).In base) (TB : Top topProg loose mean mg mb base) (hk : cs.kind = .function) (hdp : dp + 16 < recursionLimit) (hu : un + 160 < cLine)
    {l : WL} {σ : St} (H : WRep w news l σ) {k i : Int} {tk tn : Tok} {code : Str} (hc : ChErr σ k ["I"] code) (he : Err A₀ base outer h₀ L m news code s E) :
    wpAny (model PySem.Challenge.rw_pq0172_01.row.prog w) (ktrTop dp un gd cn cs L a ccd cl outer) (call (.ref 122) [.ref l.wi, .int k tk, .int i tn]) Q E s := by
  revert XB; k_fill; intro XB
  have X := XB.keeps B.stays
  have T := TB.keeps B.stays
  refine wpAny_call ?_
  k_dflt ktr_enter
  walk_at "mine fold"
  k_steps
  walk_at "mine err"

set_option maxRecDepth 100000 in
set_option maxHeartbeats 8000000 in
theorem signs_go {w : World} {dp un : Nat} {gd : Option (List Code)} {cn : Str} {cs : Scope} {a : Addr} {ccd : Value} {cl : List (Str × Addr)} {outer : List Env} {A₀ : Around} {base h₀ : Heap} {L : Addr} {m mg mb : Str → Option Value}
    {news : List (Addr × Obj)} {s : Shared} {Q E : Value → Shared → Prop} {loose : List Str} {mean : ExcName → Option Value}
    (B : Below A₀ base outer h₀) (F : Fr h₀ L s.heap m) (N : News h₀ L s.heap news) (XB : (hd.heap_1 w.params).In base) (TB : Top topProg loose mean mg mb base) (hk : cs.kind = .function) (hdp : dp + 16 < recursionLimit) (hu : un + 160 < cLine)
    {l : WL} {σ : St} (H : WRep w news l σ) {k i : Int} {tk tn : Tok} {n₀ : Nat} (hi : i = n₀) {c : Ch} {t : Str} (hv : vat σ.chans k = some c) (hb : ([("I" : Str)].any (· == c.mode)) = true) (hf : vat σ.files c.name = some t) (hl : t.length ≤ 1000) (ha : c.at_ ≤ 1000) (hn : n₀ ≤ 2000)
    (he : (Txt.slice t (some c.at_) none).length < n₀ → Err A₀ base outer h₀ L m news "EF" s E)
    (ret : ∀ tr h' tk' news', ¬ (Txt.slice t (some c.at_) none).length < n₀ → Fr h₀ L h' m → News h₀ L h' news' → WRep w news' l { σ with chans := sset σ.chans k { c with at_ := min (c.at_ + n₀) t.length } } → (∀ p ∈ news, p.1 ∉ l.all σ → p ∈ news') → Q (.str (Txt.slice (Txt.slice t (some c.at_) none) none (some n₀)) tr) { s with heap := h', toks := tk' }) :
    wpAny (model PySem.Challenge.rw_pq0172_01.row.prog w) (ktrTop dp un gd cn cs L a ccd cl outer) (call (.ref 122) [.ref l.wi, .int k tk, .int i tn]) Q E s := by
  subst hi
  revert XB; k_fill; intro XB
  have X := XB.keeps B.stays
  have T := TB.keeps B.stays
  refine wpAny_call ?_
  k_dflt ktr_enter
  walk_at "mine fold"
  k_steps
  · have he := he (by omega)
    walk_at "mine err"
  · exact ret _ _ _ _ (by omega) (by k_asm) (by k_asm) (by assumption) (sub_f (by assumption) (by assumption))




end
/-! C9 -/
section
set_option maxRecDepth 100000 in
set_option maxHeartbeats 8000000 in
theorem place_none {w : World} {dp un : Nat} {gd : Option (List Code)} {cn : Str} {cs : Scope} {a : Addr} {ccd : Value} {cl : List (Str × Addr)} {outer : List Env} {A₀ : Around} {base h₀ : Heap} {L : Addr} {m mg mb : Str → Option Value}
    {news : List (Addr × Obj)} {s : Shared} {Q E : Value → Shared → Prop} {loose : List Str} {mean : ExcName → Option Value}
    (B : Below A₀ base outer h₀) (F : Fr h₀ L s.heap m) (N : News h₀ L s.heap news) (XB : (hd.heap_1 w.params).In base) (TB : Top topProg loose mean mg mb base) (hk : cs.kind = .function) (hdp : dp + 12 < recursionLimit) (hu : un + 120 < cLine)
    {l : WL} {σ : St} (H : WRep w news l σ) {k : Int} {tk : Tok} (hv : vat σ.chans k = none) (he : Err A₀ base outer h₀ L m news "BN" s E) :
    wpAny (model PySem.Challenge.rw_pq0172_01.row.prog w) (ktrTop dp un gd cn cs L a ccd cl outer) (call (.ref 136) [.ref l.wi, .int k tk]) Q E s := by
  revert XB; k_fill; intro XB
  have X := XB.keeps B.stays
  have T := TB.keeps B.stays
  have hc : ChErr σ k ["I", "O", "A", "R"] "BN" := .inl ⟨hv, rfl⟩
  refine wpAny_call ?_
  k_dflt ktr_enter
  walk_at "mine fold"
  k_steps
  walk_at "mine err"
set_option maxRecDepth 100000 in
set_option maxHeartbeats 8000000 in
theorem place_ok {w : World} {dp un : Nat} {gd : Option (List Code)} {cn : Str} {cs : Scope} {a : Addr} {ccd : Value} {cl : List (Str × Addr)} {outer : List Env} {A₀ : Around} {base h₀ : Heap} {L : Addr} {m mg mb : Str → Option Value}
    {news : List (Addr × Obj)} {s : Shared} {Q E : Value → Shared → Prop} {loose : List Str} {mean : ExcName → Option Value}
    (B : Below A₀ base outer h₀) (F : Fr h₀ L s.heap m) (N : News h₀ L s.heap news) (XB : (hd.heap_1 w.params).In base) (TB : Top topProg loose mean mg mb base) (hk : cs.kind = .function) (hdp : dp + 12 < recursionLimit) (hu : un + 120 < cLine)
    {l : WL} {σ : St} (H : WRep w news l σ) {k : Int} {tk : Tok} {c : Ch} (hv : vat σ.chans k = some c) (hb : ([("I" : Str), "O", "A", "R"].any (· == c.mode)) = true) (hR : (c.mode == ("R" : Str)) = false)
    (ret : ∀ tr h' tk' news', Fr h₀ L h' m → News h₀ L h' news' → (∀ p ∈ news, p ∈ news') → Q (.int c.at_ tr) { s with heap := h', toks := tk' }) :
    wpAny (model PySem.Challenge.rw_pq0172_01.row.prog w) (ktrTop dp un gd cn cs L a ccd cl outer) (call (.ref 136) [.ref l.wi, .int k tk]) Q E s := by
  revert XB; k_fill; intro XB
  have X := XB.keeps B.stays
  have T := TB.keeps B.stays
  have b1 := chan_some' (l := l) hv
  have b2 := chan_some (l := l) hv
  refine H.goChan hv fun oC i4 t1 t2 t3 t4 t5 t6 d4 => ?_
  have z4 := H.lowc hv
  refine wpAny_call ?_
  k_dflt ktr_enter
  walk_at "mine fold"
  k_steps
  exact ret _ _ _ _ (by k_asm) (by k_asm) (fun _ h => .tail _ h)

set_option maxRecDepth 100000 in
set_option maxHeartbeats 8000000 in
theorem length_none {w : World} {dp un : Nat} {gd : Option (List Code)} {cn : Str} {cs : Scope} {a : Addr} {ccd : Value} {cl : List (Str × Addr)} {outer : List Env} {A₀ : Around} {base h₀ : Heap} {L : Addr} {m mg mb : Str → Option Value}
    {news : List (Addr × Obj)} {s : Shared} {Q E : Value → Shared → Prop} {loose : List Str} {mean : ExcName → Option Value}
    (B : Below A₀ base outer h₀) (F : Fr h₀ L s.heap m) (N : News h₀ L s.heap news) (XB : (hd.heap_1 w.params).In base) (TB : Top topProg loose mean mg mb base) (hk : cs.kind = .function) (hdp : dp + 12 < recursionLimit) (hu : un + 120 < cLine)
    {l : WL} {σ : St} (H : WRep w news l σ) {k : Int} {tk : Tok} (hv : vat σ.chans k = none) (he : Err A₀ base outer h₀ L m news "BN" s E) :
    wpAny (model PySem.Challenge.rw_pq0172_01.row.prog w) (ktrTop dp un gd cn cs L a ccd cl outer) (call (.ref 143) [.ref l.wi, .int k tk]) Q E s := by
  revert XB; k_fill; intro XB
  have X := XB.keeps B.stays
  have T := TB.keeps B.stays
  have hc : ChErr σ k ["I", "O", "A", "R"] "BN" := .inl ⟨hv, rfl⟩
  refine wpAny_call ?_
  k_dflt ktr_enter
  walk_at "mine fold"
  k_steps
  walk_at "mine err"
set_option maxRecDepth 100000 in
set_option maxHeartbeats 8000000 in
theorem length_ok {w : World} {dp un : Nat} {gd : Option (List Code)} {cn : Str} {cs : Scope} {a : Addr} {ccd : Value} {cl : List (Str × Addr)} {outer : List Env} {A₀ : Around} {base h₀ : Heap} {L : Addr} {m mg mb : Str → Option Value}
    {news : List (Addr × Obj)} {s : Shared} {Q E : Value → Shared → Prop} {loose : List Str} {mean : ExcName → Option Value}
    (B : Below A₀ base outer h₀) (F : Fr h₀ L s.heap m) (N : News h₀ L s.heap news) (XB : (hd.heap_1 w.params).In base) (TB : Top topProg loose mean mg mb base) (hk : cs.kind = .function) (hdp : dp + 12 < recursionLimit) (hu : un + 120 < cLine)
    {l : WL} {σ : St} (H : WRep w news l σ) {k : Int} {tk : Tok} {c : Ch} {t : Str} (hv : vat σ.chans k = some c) (hb : ([("I" : Str), "O", "A", "R"].any (· == c.mode)) = true) (hf : vat σ.files c.name = some t) (hl : t.length ≤ 1000)
    (ret : ∀ tr h' tk' news', Fr h₀ L h' m → News h₀ L h' news' → (∀ p ∈ news, p ∈ news') → Q (.int t.length tr) { s with heap := h', toks := tk' }) :
    wpAny (model PySem.Challenge.rw_pq0172_01.row.prog w) (ktrTop dp un gd cn cs L a ccd cl outer) (call (.ref 143) [.ref l.wi, .int k tk]) Q E s := by
  revert XB; k_fill; intro XB
  have X := XB.keeps B.stays
  have T := TB.keeps B.stays
  have i1 := H.inst
  refine H.goDict fun es n i2 g1 g2 g3 => ?_
  have b1 := chan_some' (l := l) hv
  have b2 := chan_some (l := l) hv
  refine H.goChan hv fun oC i4 t1 t2 t3 t4 t5 t6 d4 => ?_
  have z4 := H.lowc hv
  refine H.goFiles fun oF tkF i5 d5 => ?_
  have z5 := H.lowf
  have b5 := file_some (tk := tkF) hf
  refine wpAny_call ?_
  k_dflt ktr_enter
  walk_at "mine fold"
  k_steps
  exact ret _ _ _ _ (by k_asm) (by k_asm) (fun _ h => .tail _ h)

set_option maxRecDepth 100000 in
set_option maxHeartbeats 8000000 in
theorem ended_err {w : World} {dp un : Nat} {gd : Option (List Code)} {cn : Str} {cs : Scope} {a : Addr} {ccd : Value} {cl : List (Str × Addr)} {outer : List Env} {A₀ : Around} {base h₀ : Heap} {L : Addr} {m mg mb : Str → Option Value}
    {news : List (Addr × Obj)} {s : Shared} {Q E : Value → Shared → Prop} {loose : List Str} {mean : ExcName → Option Value}
    (B : Below A₀ base outer h₀) (F : Fr h₀ L s.heap m) (N : News h₀ L s.heap news) (XB : (hd.heap_1 w.params).In base) (TB : Top topProg loose mean mg mb base) (hk : cs.kind = .function) (hdp : dp + 12 < recursionLimit) (hu : un + 120 < cLine)
    {l : WL} {σ : St} (H : WRep w news l σ) {k : Int} {tk : Tok} {code : Str} (hc : ChErr σ k ["I", "R"] code) (he : Err A₀ base outer h₀ L m news code s E) :
    wpAny (model PySem.Challenge.rw_pq0172_01.row.prog w) (ktrTop dp un gd cn cs L a ccd cl outer) (call (.ref 129) [.ref l.wi, .int k tk]) Q E s := by
  revert XB; k_fill; intro XB
  have X := XB.keeps B.stays
  have T := TB.keeps B.stays
  refine wpAny_call ?_
  k_dflt ktr_enter
  walk_at "mine fold"
  k_steps
  walk_at "mine err"
set_option maxRecDepth 100000 in
set_option maxHeartbeats 8000000 in
theorem ended_ok {w : World} {dp un : Nat} {gd : Option (List Code)} {cn : Str} {cs : Scope} {a : Addr} {ccd : Value} {cl : List (Str × Addr)} {outer : List Env} {A₀ : Around} {base h₀ : Heap} {L : Addr} {m mg mb : Str → Option Value}
    {news : List (Addr × Obj)} {s : Shared} {Q E : Value → Shared → Prop} {loose : List Str} {mean : ExcName → Option Value}
    (B : Below A₀ base outer h₀) (F : Fr h₀ L s.heap m) (N : News h₀ L s.heap news) (XB : (hd.heap_1 w.params).In base) (TB : Top topProg loose mean mg mb base) (hk : cs.kind = .function) (hdp : dp + 12 < recursionLimit) (hu : un + 120 < cLine)
    {l : WL} {σ : St} (H : WRep w news l σ) {k : Int} {tk : Tok} {c : Ch} {t : Str} (hv : vat σ.chans k = some c) (hb : ([("I" : Str), "R"].any (· == c.mode)) = true) (hR : (c.mode == ("R" : Str)) = false) (hf : vat σ.files c.name = some t) (hl : t.length ≤ 1000)
    (ret : ∀ h' tk' news', Fr h₀ L h' m → News h₀ L h' news' → (∀ p ∈ news, p ∈ news') → Q (.bool (decide ((t.length : Int) ≤ (c.at_ : Int)))) { s with heap := h', toks := tk' }) :
    wpAny (model PySem.Challenge.rw_pq0172_01.row.prog w) (ktrTop dp un gd cn cs L a ccd cl outer) (call (.ref 129) [.ref l.wi, .int k tk]) Q E s := by
  revert XB; k_fill; intro XB
  have X := XB.keeps B.stays
  have T := TB.keeps B.stays
  have i1 := H.inst
  refine H.goDict fun es n i2 g1 g2 g3 => ?_
  have b1 := chan_some' (l := l) hv
  have b2 := chan_some (l := l) hv
  refine H.goChan hv fun oC i4 t1 t2 t3 t4 t5 t6 d4 => ?_
  have z4 := H.lowc hv
  refine H.goFiles fun oF tkF i5 d5 => ?_
  have z5 := H.lowf
  have b5 := file_some (tk := tkF) hf
  refine wpAny_call ?_
  k_dflt ktr_enter
  walk_at "mine fold"
  k_steps
  exact ret _ _ _ (by k_asm) (by k_asm) (fun _ h => .tail _ h)



end
/-! C10 -/
section
set_option maxRecDepth 100000 in
set_option maxHeartbeats 8000000 in
theorem close_go {w : World} {dp un : Nat} {gd : Option (List Code)} {cn : Str} {cs : Scope} {a : Addr} {ccd : Value} {cl : List (Str × Addr)} {outer : List Env} {A₀ : Around} {base h₀ : Heap} {L : Addr} {m mg mb : Str → Option Value}
    {news : List (Addr × Obj)} {s : Shared} {Q E : Value → Shared → Prop} {loose : List Str} {mean : ExcName → Option Value}
    (B : Below A₀ base outer h₀) (F : Fr h₀ L s.heap m) (N : News h₀ L s.heap news) (XB : (hd.heap_1 w.params).In base) (TB : Top topProg loose mean mg mb base) (hk : cs.kind = .function) (hdp : dp + 12 < recursionLimit) (hu : un + 120 < cLine)
    {l : WL} {σ : St} (H : WRep w news l σ) {k : Int} {tk : Tok} (hcl : σ.chans.length ≤ 100)
    (none_ : vat σ.chans k = none → ∀ h' tk' news', Fr h₀ L h' m → News h₀ L h' news' → (∀ p ∈ news, p ∈ news') → Q .none { s with heap := h', toks := tk' })
    (ret : (∃ c, vat σ.chans k = some c) → ∀ h' tk' news', Fr h₀ L h' m → News h₀ L h' news' → WRep w news' l { σ with chans := sdel σ.chans k } → (∀ p ∈ news, p.1 ∉ l.all σ → p ∈ news') → Q .none { s with heap := h', toks := tk' }) :
    wpAny (model PySem.Challenge.rw_pq0172_01.row.prog w) (ktrTop dp un gd cn cs L a ccd cl outer) (call (.ref 70) [.ref l.wi, .int k tk]) Q E s := by
  revert XB; k_fill; intro XB
  have X := XB.keeps B.stays
  have T := TB.keeps B.stays
  have i1 := H.inst
  refine H.goDict fun es n i2 g1 g2 g3 => ?_
  refine H.goOpens fun oO i3 d3 => ?_
  have z3 := H.lowo
  refine wpAny_call ?_
  k_dflt ktr_enter
  walk_at "mine fold"
  cases hv : vat σ.chans k with
  | none =>
    have b1 := chan_none (l := l) hv
    refine H.goFields fun oX i6 d6 => ?_
    have z6 := H.lowx
    k_steps
    k_dflt (refine loop_none rfl rfl (by k_asm) (by k_asm) (.head _) ?_)
    intro h2 tk2 F2 N2
    k_steps
    exact none_ hv _ _ _ (by k_asm) (by k_asm) (fun _ h => .tail _ h)
  | some c =>
    have b1 := chan_some' (l := l) hv
    have b2 := chan_some (l := l) hv
    have ret := ret ⟨c, hv⟩
    k_steps
    k_dflt (refine popD (knd := intKind PG w) (by k_asm) (by k_asm) (by k_mem) d3 (intKind_is _ _ _ _) (by rfl) (PySem.F.args_dict_pop_2 _ _) b2 (by simp <;> omega) ?_)
    intro h2 n2 o2 F2 N2 m2 K2 e2
    have H2 := H.delChan K2 m2 e2
    have i1 := H2.inst
    refine H2.goDict fun es n i2 g1 g2 g3 => ?_
    refine H2.goFields fun oX i6 d6 => ?_
    have z6 := H2.lowx
    k_steps
    k_dflt (refine loop_none rfl rfl (by k_asm) (by k_asm) (.head _) ?_)
    intro h2 tk2 F2 N2
    k_steps
    exact ret _ _ _ (by k_asm) (by k_asm) (H2.mono (fun _ h => .tail _ h)) (fun p hp hn => .tail _ (K2 p hp fun q => hn (q ▸ mem_wo)))

end
/-! C11 -/
section
open PyProof.V
theorem map_at {K α : Type} {l : List (K × α)} {f : K × α → Value} {i : Nat} {k : K} {x : Value} (h : (l.map fun c => (c.1, f c))[i]? = some (k, x)) : ∃ c, l[i]? = some (k, c) ∧ x = f (k, c) := by
  rw [List.getElem?_map] at h
  obtain ⟨⟨k', c⟩, hc, e⟩ := Option.map_eq_some_iff.mp h
  simp only [Prod.mk.injEq] at e
  obtain ⟨rfl, rfl⟩ := e
  exact ⟨c, hc, rfl⟩
theorem vat_at {K α : Type} [DecidableEq K] {l : List (K × α)} (hn : (l.map (·.1)).Nodup) {i : Nat} {k : K} {c : α} (h : l[i]? = some (k, c)) : vat l k = some c := by
  have hm : (k, c) ∈ l := List.mem_of_getElem? h
  unfold vat
  cases q : l.find? fun x => x.1 = k with
  | none =>
    rw [List.find?_eq_none] at q
    exact absurd (q _ hm) (by simp)
  | some x =>
    have h1 := List.mem_of_find?_eq_some q
    have h2 := List.find?_some q
    simp only [decide_eq_true_eq] at h2
    have := nodup_inj hn x h1 (k, c) hm h2
    rw [this]; rfl
theorem news_sub {h₀ h : Heap} {L : Addr} {n1 n2 : List (Addr × Obj)} (N : News h₀ L h n1) (k : ∀ p ∈ n2, p ∈ n1) : News h₀ L h n2 := fun p hp => N p (k p hp)
theorem any_take {α : Type} {l : List α} {p : α → Bool} {i : Nat} {x : α} (h : (l.take i).any p = false) (hx : l[i]? = some x) (hp : p x = false) : (l.take (i + 1)).any p = false := by
  rw [List.take_add_one, hx, List.any_append, h]
  simpa using hp
theorem any_at {α : Type} {l : List α} {p : α → Bool} {i : Nat} {x : α} (hx : l[i]? = some x) (hp : p x = true) : l.any p = true :=
  List.any_eq_true.mpr ⟨x, List.mem_of_getElem? hx, hp⟩
theorem name_sign {nm : Str} (hn : IsName nm ∨ nm = "D") : ∃ c : Nat, nm = ⟨#[c]⟩ ∧ 33 ≤ c ∧ c ≤ 126 := by
  rcases hn with (rfl | rfl | rfl) | rfl
  · exact ⟨65, by decide, by decide, by decide⟩
  · exact ⟨66, by decide, by decide, by decide⟩
  · exact ⟨67, by decide, by decide, by decide⟩
  · exact ⟨68, by decide, by decide, by decide⟩
set_option maxRecDepth 100000 in
set_option maxHeartbeats 8000000 in
theorem check_ok {w : World} {dp un : Nat} {gd : Option (List Code)} {cn : Str} {cs : Scope} {a : Addr} {ccd : Value} {cl : List (Str × Addr)} {outer : List Env} {A₀ : Around} {base h₀ : Heap} {L : Addr} {m mg mb : Str → Option Value}
    {news : List (Addr × Obj)} {s : Shared} {Q E : Value → Shared → Prop} {loose : List Str} {mean : ExcName → Option Value}
    (B : Below A₀ base outer h₀) (F : Fr h₀ L s.heap m) (N : News h₀ L s.heap news) (XB : (hd.heap_1 w.params).In base) (TB : Top topProg loose mean mg mb base) (hk : cs.kind = .function) (hdp : dp + 12 < recursionLimit) (hu : un + 120 < cLine)
    {nm : Str} {tk : Tok} (hn : IsName nm ∨ nm = "D")
    (ret : ∀ h' tk' news', Fr h₀ L h' m → News h₀ L h' news' → (∀ p ∈ news, p ∈ news') → Q (.str nm tk) { s with heap := h', toks := tk' }) :
    wpAny (model PySem.Challenge.rw_pq0172_01.row.prog w) (ktrTop dp un gd cn cs L a ccd cl outer) (call (.ref 42) [.str nm tk]) Q E s := by
  revert XB; k_fill; intro XB
  have X := XB.keeps B.stays
  have T := TB.keeps B.stays
  obtain ⟨c, rfl, hc1, hc2⟩ := name_sign hn
  refine wpAny_call ?_
  k_dflt ktr_enter
  walk_at "mine fold"
  k_steps
  refine ex4 1 _ _ _ ⟨Src.str rfl rfl (by k_asm) (by k_asm) (by simp; omega) (by rw [sizeLine_eq]; exact Nat.le_of_ble_eq_true rfl), ?_⟩
  rintro s₂ ⟨hs2, rfl⟩
  refine LCt.CompRestT.succ ?_
  rintro v I oI C oC D m2 h3 tk3 E' ⟨c', u, hc, rfl⟩ hC hx F3 N3 off ne
  have hc' : c = c' := by simpa using hc
  subst hc'
  k_steps
  refine LCg.CompEnd.intro (by k_asm) (by k_asm) news (fun p hp => hp) (by assumption) (by first | exact trivial | assumption) ?_
  refine LCt.CompRestT.zero ?_
  intro D h4 tk4 F4 N4 off4
  k_steps
  exact ret _ _ _ (by k_asm) (by k_asm) (by intro p hp; simp [hp])
def elseW (σ : St) (mode nm : Str) : Bool := σ.chans.any fun c => c.2.name == nm && ([("O" : Str), "A"].any (· == mode) || [("O" : Str), "A"].any (· == c.2.mode))
set_option maxRecDepth 100000 in
set_option maxHeartbeats 8000000 in
theorem else_ok {w : World} {dp un : Nat} {gd : Option (List Code)} {cn : Str} {cs : Scope} {a : Addr} {ccd : Value} {cl : List (Str × Addr)} {outer : List Env} {A₀ : Around} {base h₀ : Heap} {L : Addr} {m mg mb : Str → Option Value}
    {news : List (Addr × Obj)} {s : Shared} {Q E : Value → Shared → Prop} {loose : List Str} {mean : ExcName → Option Value}
    (B : Below A₀ base outer h₀) (F : Fr h₀ L s.heap m) (N : News h₀ L s.heap news) (XB : (hd.heap_1 w.params).In base) (TB : Top topProg loose mean mg mb base) (hk : cs.kind = .function) (hdp : dp + 12 < recursionLimit) (hu : un + 120 < cLine)
    {l : WL} {σ : St} (H : WRep w news l σ) (hkn : (σ.chans.map (·.1)).Nodup) {mode nm : Str} {tm tn : Tok} {b : Bool} (hb : elseW σ mode nm = b)
    (ret : ∀ h' tk' news', Fr h₀ L h' m → News h₀ L h' news' → (∀ p ∈ news, p ∈ news') → Q (.bool b) { s with heap := h', toks := tk' }) :
    wpAny (model PySem.Challenge.rw_pq0172_01.row.prog w) (ktrTop dp un gd cn cs L a ccd cl outer) (call (.ref 56) [.ref l.wi, .str mode tm, .str nm tn]) Q E s := by
  revert XB; k_fill; intro XB
  have X := XB.keeps B.stays
  have T := TB.keeps B.stays
  have i1 := H.inst
  refine H.goDict fun es n i2 g1 g2 g3 => ?_
  refine H.goOpens fun oO i3 d3 => ?_
  have z3 := H.lowo
  refine wpAny_call ?_
  k_dflt ktr_enter
  walk_at "mine fold"
  k_steps
  k_dflt (refine loop_keys (knd := PySem.intKind PG w) rfl (fun i m' n' => (∀ p ∈ news, p ∈ n') ∧ m' "world" = some (.ref l.wi) ∧ m' "mode" = some (.str mode tm) ∧ m' "name" = some (.str nm tn) ∧ ((σ.chans.take i).any fun c => c.2.name == nm && ([("O" : Str), "A"].any (· == mode) || [("O" : Str), "A"].any (· == c.2.mode))) = false) rfl (by k_asm) (by k_asm) i3 d3 z3 (fun i m' n' j => j.1 _ i3) ⟨fun _ h => h, rfl, rfl, rfl, rfl⟩ ?_ ?_)
  · rintro i v m₁ news₁ h tk I oI hi ⟨k, x, hk, hkv⟩ ⟨j1, j2, j3, j4, j5⟩ hI F N
    obtain ⟨c, hc, rfl⟩ := map_at (f := fun c => Value.ref (l.ch c.1)) hk
    have hv := vat_at hkn hc
    obtain ⟨tv, rfl⟩ := Flat.int_inv (kdl_flat_int hkv)
    have H1 := H.mono j1
    have i1 := H1.inst
    refine H1.goDict fun es n i2 g1 g2 g3 => ?_
    refine H1.goOpens fun oO i3 d3 => ?_
    have z3 := H1.lowo
    have b1 := chan_some' (l := l) hv
    have b2 := chan_some (l := l) hv
    refine H1.goChan hv fun oC i4 t1 t2 t3 t4 t5 t6 d4 => ?_
    have z4 := H1.lowc hv
    k_steps
    · dsimp only [StepR]
      k_steps
      have hb' : b = true := hb ▸ any_at hc (by simp [*])
      rw [hb'] at ret
      exact ret _ _ _ (by k_asm) (by k_asm) (by intro p hp; have := j1 p hp; simp [this])
    · dsimp only [StepR]
      k_steps
      have hb' : b = true := hb ▸ any_at hc (by simp [*])
      rw [hb'] at ret
      exact ret _ _ _ (by k_asm) (by k_asm) (by intro p hp; have := j1 p hp; simp [this])
    all_goals exact ⟨_, _, _, news₁, rfl, by k_asm, news_sub (by k_asm) (by intro p hp; rcases List.mem_cons.mp hp with rfl | hp <;> simp [*]), hI, j1, by walk_at "mine look", by walk_at "mine look", by walk_at "mine look", any_take j5 hc (by simp [*])⟩
  · intro h' tk' m' n' F' N' ⟨j1, j2, j3, j4, j5⟩
    rw [show (σ.chans.map fun c => (c.1, Value.ref (l.ch c.1))).length = σ.chans.length from List.length_map .., List.take_length] at j5
    k_steps
    have hb' : b = false := hb ▸ j5
    rw [hb'] at ret
    exact ret _ _ n' (by k_asm) (by k_asm) j1

end
local macro_rules | `(tactic| walk_at "call ref") => `(tactic| (k_here; (with_reducible show wpAny _ _ (call (Value.ref 42) [Value.str _ _]) _ _ _); k_dflt (first
  | (refine check_ok (by k_asm) (by k_asm) (by k_asm) (by k_asm) (by k_asm) (by first | exact rfl | k_asm) (by ktr_room) (by ktr_units) (by assumption) ?_; intro h' tk' n' F' N' c'))))
local macro_rules | `(tactic| walk_at "call ref") => `(tactic| (k_here; (with_reducible show wpAny _ _ (call (Value.ref 56) [Value.ref _, Value.str _ _, Value.str _ _]) _ _ _); k_dflt (first
  | (refine else_ok (by k_asm) (by k_asm) (by k_asm) (by k_asm) (by k_asm) (by first | exact rfl | k_asm) (by ktr_room) (by ktr_units) (by walk_at "mine rep") (by assumption) (by assumption) ?_; intro h' tk' n' F' N' c'))))


/-! C12 -/
section
section
variable {w : World} {news n' n2 : List (Addr × Obj)} {l : WL} {σ : St} {b : Addr} {oc o2 : Obj} {k : Int} {c : Ch}
theorem WRep.mem_all (H : WRep w news l σ) {a : Addr} (h : a ∈ l.all σ) : ∃ o, (a, o) ∈ news := by
  simp only [WL.all, List.mem_cons, List.mem_map] at h
  rcases h with rfl | rfl | rfl | rfl | rfl | ⟨x, hx, rfl⟩
  · exact ⟨_, H.inst⟩
  · obtain ⟨es, n, a, _⟩ := H.dict; exact ⟨_, a⟩
  · refine H.goFields fun o a _ => ?_; exact ⟨_, a⟩
  · refine H.goFiles fun o tk a _ => ?_; exact ⟨_, a⟩
  · refine H.goOpens fun o a _ => ?_; exact ⟨_, a⟩
  · obtain ⟨o, a, _⟩ := H.chans x hx; exact ⟨_, a⟩
theorem fin_open (H : WRep w news l σ) (c' : ∀ p ∈ news, p ∈ n') (l1 : ∀ p ∈ n', p.1 < b) (hlb : (b == sysModules) = false) (K : Keep l.wo ((b, oc) :: n') n2) (m2 : (l.wo, o2) ∈ n2) (hc : IsChan w oc c)
    (e2 : o2.IsDictOf (intKind PG w) (stored (σ.chans.map fun c => (c.1, .ref (l.ch c.1))) k (.ref b))) (hv : vat σ.chans k = none) :
    WRep w n2 { l with ch := fun i => if i = k then b else l.ch i } { σ with chans := sset σ.chans k c } ∧ (∀ p ∈ news, p.1 ∉ l.all σ → p ∈ n2) ∧ (∀ p ∈ news, p.1 < b) := by
  have hb : ∀ a ∈ l.all σ, a ≠ b := fun a ha => by
    obtain ⟨o, ho⟩ := H.mem_all ha
    exact Nat.ne_of_lt (l1 _ (c' _ ho))
  exact ⟨H.newChan hv hb hlb (fun p hp hn => K p (.tail _ (c' p hp)) hn) (K _ (.head _) (Ne.symm (hb _ mem_wo))) hc m2 e2, fun p hp hn => K p (.tail _ (c' p hp)) fun q => hn (q ▸ mem_wo), fun p hp => l1 p (c' p hp)⟩
end
theorem vat_sset_same {K α : Type} [DecidableEq K] {l : List (K × α)} {k : K} {a : α} (hn : (l.map (·.1)).Nodup) : vat (sset l k a) k = some a := by
  unfold vat sset
  split
  · rename_i h
    rw [List.find?_map]
    have e : ((fun x : K × α => decide (x.1 = k)) ∘ fun x => if x.1 = k then (x.1, a) else x) = fun x => decide (x.1 = k) := by
      funext x; simp only [Function.comp]; split <;> simp_all
    rw [e]
    obtain ⟨y, hy, hyk⟩ := List.mem_map.mp h
    cases q : l.find? fun x => decide (x.1 = k) with
    | none => rw [List.find?_eq_none] at q; exact absurd (q y hy) (by simpa using hyk)
    | some z =>
      have := List.find?_some q
      simp only [decide_eq_true_eq] at this
      simp [this]
  · rename_i h
    rw [List.find?_append]
    have : (l.find? fun x => decide (x.1 = k)) = none := by
      rw [List.find?_eq_none]; intro x hx q
      exact h (List.mem_map.mpr ⟨x, hx, by simpa using q⟩)
    rw [this]; simp
structure OpenF (w : World) (news : List (Addr × Obj)) (l : WL) (σ : St) (mode nm : Str) (n' : List (Addr × Obj)) (σ' : St) (x : Str) : Prop where
  rep : WRep w n' l σ'
  hf : vat σ'.files nm = some x
  hx : x.length ≤ 1000
  ch : σ'.chans = σ.chans
  keep : ∀ p ∈ news, p.1 ∉ l.all σ → p ∈ n'
  at_ : ∀ p ∈ news, ∃ o, (p.1, o) ∈ n'
  which : (σ' = σ ∧ mode ≠ "O") ∨ (σ' = { σ with files := sset σ.files nm "" } ∧ x = "" ∧ (mode = "O" ∨ (mode = "A" ∧ vat σ.files nm = none)))
theorem vat_chans {σ σ' : St} {k : Int} (e : σ'.chans = σ.chans) (h : vat σ.chans k = none) : vat σ'.chans k = none := by rw [e]; exact h
theorem OpenF.old {w : World} {news n' : List (Addr × Obj)} {l : WL} {σ : St} {mode nm x : Str} (H : WRep w n' l σ) (hf : vat σ.files nm = some x) (hx : x.length ≤ 1000) (hO : mode ≠ "O") (c : ∀ p ∈ news, p ∈ n') : OpenF w news l σ mode nm n' σ x :=
  ⟨H, hf, hx, rfl, fun p hp _ => c p hp, fun p hp => ⟨_, c p hp⟩, .inl ⟨rfl, hO⟩⟩
theorem OpenF.new {w : World} {news n1 : List (Addr × Obj)} {l : WL} {σ : St} {mode nm : Str} {o1 : Obj} (H : WRep w n1 l { σ with files := sset σ.files nm "" }) (hfn : (σ.files.map (·.1)).Nodup)
    (m1 : (l.wf, o1) ∈ n1) (c : ∀ p ∈ news, p.1 ≠ l.wf → p ∈ n1) (hO : mode = "O" ∨ (mode = "A" ∧ vat σ.files nm = none)) : OpenF w news l σ mode nm n1 { σ with files := sset σ.files nm "" } "" :=
  ⟨H, vat_sset_same hfn, by decide, rfl, fun p hp hn => c p hp fun q => hn (q ▸ mem_wf), fun p hp => by
    by_cases q : p.1 = l.wf
    · exact ⟨o1, by rw [q]; exact m1⟩
    · exact ⟨_, c p hp q⟩, .inr ⟨rfl, rfl, hO⟩⟩
theorem OpenF.fin {w : World} {news n' n2 : List (Addr × Obj)} {l : WL} {σ σ' : St} {mode nm x : Str} {b : Addr} (O : OpenF w news l σ mode nm n' σ' x) (a : ∀ p ∈ n', p.1 ∉ l.all σ' → p ∈ n2) (lb : ∀ p ∈ n', p.1 < b) : (∀ p ∈ news, p.1 ∉ l.all σ → p ∈ n2) ∧ ∀ p ∈ news, p.1 < b :=
  ⟨fun p hp hn => a p (O.keep p hp hn) (by rw [WL.all, O.ch]; exact hn), fun p hp => by obtain ⟨o, ho⟩ := O.at_ p hp; have q := lb _ ho; exact q⟩
def ORet (w : World) (h₀ : Heap) (L : Addr) (m : Str → Option Value) (news : List (Addr × Obj)) (l : WL) (σ : St) (k : Int) (s : Shared) (P : Shared → Prop) (σ' : St) : Prop :=
  ∀ h' tk' news' b, Fr h₀ L h' m → News h₀ L h' news' → WRep w news' { l with ch := fun i => if i = k then b else l.ch i } σ' → (∀ p ∈ news, p.1 ∉ l.all σ → p ∈ news') → (∀ p ∈ news, p.1 < b) → P { s with heap := h', toks := tk' }
theorem openF_last {w : World} {h₀ : Heap} {L : Addr} {m : Str → Option Value} {news : List (Addr × Obj)} {l : WL} {σ σ' : St} {s : Shared} {P : Shared → Prop} {mode nm x : Str} {k : Int} (hm : mode = "O" ∨ mode = "I" ∨ mode = "A") (hf : vat σ'.files nm = some x)
    (retI : mode = "I" → ∀ x, vat σ.files nm = some x → ORet w h₀ L m news l σ k s P { σ with chans := sset σ.chans k ⟨"I", nm, 0⟩ })
    (retA : mode = "A" → ∀ x, vat σ.files nm = some x → ORet w h₀ L m news l σ k s P { σ with chans := sset σ.chans k ⟨"A", nm, x.length⟩ })
    (retO : mode = "O" → ORet w h₀ L m news l σ k s P { files := sset σ.files nm "", chans := sset σ.chans k ⟨"O", nm, 0⟩ })
    (retAn : mode = "A" → vat σ.files nm = none → ORet w h₀ L m news l σ k s P { files := sset σ.files nm "", chans := sset σ.chans k ⟨"A", nm, ("" : Str).length⟩ })
    (which : (σ' = σ ∧ mode ≠ "O") ∨ (σ' = { σ with files := sset σ.files nm "" } ∧ x = "" ∧ (mode = "O" ∨ (mode = "A" ∧ vat σ.files nm = none)))) :
    ORet w h₀ L m news l σ k s P { σ' with chans := sset σ'.chans k ⟨mode, nm, if mode = "A" then x.length else 0⟩ } := by
  rcases which with ⟨rfl, hO⟩ | ⟨rfl, rfl, rfl | ⟨rfl, hn⟩⟩
  · rcases hm with rfl | rfl | rfl
    · exact absurd rfl hO
    · exact retI rfl x hf
    · exact retA rfl x hf
  · exact retO rfl
  · exact retAn rfl hn
theorem not_R {mode : Str} (hm : mode = "O" ∨ mode = "I" ∨ mode = "A") : (mode == Str.ofString "R") = false := by rcases hm with rfl | rfl | rfl <;> decide
section
local macro_rules | `(tactic| walk_at "exec If BoolOp") => `(tactic| (k_here; with_reducible refine here_if ?_))
local macro_rules | `(tactic| walk_at "eval IfExp") => `(tactic| (k_here; with_reducible refine here_ifexp ?_))
set_option maxRecDepth 100000 in
set_option maxHeartbeats 8000000 in
theorem open_go {w : World} {dp un : Nat} {gd : Option (List Code)} {cn : Str} {cs : Scope} {a : Addr} {ccd : Value} {cl : List (Str × Addr)} {outer : List Env} {A₀ : Around} {base h₀ : Heap} {L : Addr} {m mg mb : Str → Option Value}
    {news : List (Addr × Obj)} {s : Shared} {Q E : Value → Shared → Prop} {loose : List Str} {mean : ExcName → Option Value}
    (B : Below A₀ base outer h₀) (F : Fr h₀ L s.heap m) (N : News h₀ L s.heap news) (XB : (hd.heap_1 w.params).In base) (TB : Top topProg loose mean mg mb base) (hk : cs.kind = .function) (hdp : dp + 16 < recursionLimit) (hu : un + 160 < cLine)
    {l : WL} {σ : St} (H : WRep w news l σ) (hkn : (σ.chans.map (·.1)).Nodup) (hfn : (σ.files.map (·.1)).Nodup) {k : Int} (hk1 : 1 ≤ k) (hk2 : k ≤ 3) {tk tm tn ts : Tok} {mode nm : Str} (hm : mode = "O" ∨ mode = "I" ∨ mode = "A") (hn : IsName nm ∨ nm = "D") (hcl : σ.chans.length ≤ 100) (hfl : σ.files.length ≤ 100)
    (hsz : ∀ f ∈ σ.files, f.2.length ≤ 1000) (busy : (∃ c, vat σ.chans k = some c) → Err A₀ base outer h₀ L m news "AO" s E) (els : vat σ.chans k = none → elseW σ mode nm = true → Err A₀ base outer h₀ L m news "AO" s E)
    (ff : vat σ.chans k = none → elseW σ mode nm = false → mode = "I" → vat σ.files nm = none → Err A₀ base outer h₀ L m news "FF" s E)
    (retI : vat σ.chans k = none → elseW σ mode nm = false → mode = "I" → ∀ x, vat σ.files nm = some x → ORet w h₀ L m news l σ k s (Q .none) { σ with chans := sset σ.chans k ⟨"I", nm, 0⟩ })
    (retA : vat σ.chans k = none → elseW σ mode nm = false → mode = "A" → ∀ x, vat σ.files nm = some x → ORet w h₀ L m news l σ k s (Q .none) { σ with chans := sset σ.chans k ⟨"A", nm, x.length⟩ })
    (retO : vat σ.chans k = none → elseW σ mode nm = false → mode = "O" → ORet w h₀ L m news l σ k s (Q .none) { files := sset σ.files nm "", chans := sset σ.chans k ⟨"O", nm, 0⟩ })
    (retAn : vat σ.chans k = none → elseW σ mode nm = false → mode = "A" → vat σ.files nm = none → ORet w h₀ L m news l σ k s (Q .none) { files := sset σ.files nm "", chans := sset σ.chans k ⟨"A", nm, ("" : Str).length⟩ }) :
    wpAny (model PySem.Challenge.rw_pq0172_01.row.prog w) (ktrTop dp un gd cn cs L a ccd cl outer) (call (.ref 49) [.ref l.wi, .str mode tm, .int k tk, .str nm tn, .int 0 ts]) Q E s := by
  revert XB; k_fill; intro XB
  have X := XB.keeps B.stays
  have T := TB.keeps B.stays
  have i1 := H.inst
  refine H.goDict fun es n i2 g1 g2 g3 => ?_
  refine H.goOpens fun oO i3 d3 => ?_
  have z3 := H.lowo
  refine H.goFiles fun oF tkF i5 d5 => ?_
  have z5 := H.lowf
  have hR := not_R hm
  refine wpAny_call ?_
  k_dflt ktr_enter
  walk_at "mine fold"
  k_steps
  refine unhere (wpAny_If ?_)
  cases hv : vat σ.chans k with
  | some c =>
    have b1 := chan_some' (l := l) hv
    have he := busy ⟨c, hv⟩
    k_steps
    walk_at "mine err"
  | none =>
    have b1 := chan_none (l := l) hv
    cases hb : elseW σ mode nm with
    | true =>
      have he := els hv hb
      k_steps
      walk_at "mine err"
    | false =>
      have retI := retI hv hb; have retA := retA hv hb; have retO := retO hv hb; have retAn := retAn hv hb
      k_steps
      refine unhere (wpAny_If ?_)
      k_steps
      refine unhere (cutT (C := mode = "I" → ∃ x, vat σ.files nm = some x) ?_ ?_)
      · refine wpAny_If ?_
        cases hf : vat σ.files nm with
        | none =>
          have b5 := file_none (tk := tkF) hf
          k_steps
          · have he := ff hv hb (eq_of_beq ‹(mode == Str.ofString "I") = true›) hf
            walk_at "mine err"
          · exact CutT.mk fun q => absurd (beq_iff_eq.mpr q) (by rw [‹(mode == Str.ofString "I") = false›]; decide)
        | some x =>
          have b5 := file_some' (tk := tkF) hf
          have b6 := file_some (tk := tkF) hf
          k_steps
          all_goals exact CutT.mk fun _ => ⟨_, rfl⟩
      intro hC tk5
      k_steps
      refine unhere (cutF l.wf (fun n' => ∃ σ' x, OpenF w news l σ mode nm n' σ' x) (by k_asm) (by k_asm) ?_ ?_)
      · refine wpAny_If (cutB (C := fun b => (b = true ∧ (mode = "O" ∨ (mode = "A" ∧ vat σ.files nm = none))) ∨ (b = false ∧ mode ≠ "O" ∧ ∃ x, vat σ.files nm = some x)) ?_ ?_)
        · cases hf : vat σ.files nm with
          | none =>
            have b5 := file_none (tk := tkF) hf
            k_steps
            · exact CutT.mk (.inl ⟨rfl, .inl (eq_of_beq ‹(mode == Str.ofString "O") = true›)⟩)
            · refine CutT.mk (.inl ⟨rfl, .inr ⟨?_, rfl⟩⟩)
              exact only_A hm hC hf ‹(mode == Str.ofString "O") = false›
          | some x =>
            have b5 := file_some' (tk := tkF) hf
            have b6 := file_some (tk := tkF) hf
            k_steps
            · exact CutT.mk (.inl ⟨rfl, .inl (eq_of_beq ‹(mode == Str.ofString "O") = true›)⟩)
            · exact CutT.mk (.inr ⟨rfl, ne_of_beq_false ‹(mode == Str.ofString "O") = false›, x, rfl⟩)
        rintro b hb tk6
        rcases hb with ⟨rfl, hO⟩ | ⟨rfl, hO, x, hf⟩
        · k_steps
          k_dflt (refine setD (knd := strKind PG w) (by k_asm) (by k_asm) (by k_mem) d5 (strKind_is _ _ _ _) (by simp <;> omega) ?_)
          intro h1 n1 o1 F1 N1 m1 K1 e1
          have H1 := WRep.setFile (H.mono (by walk_at "mine sub")) K1 m1 e1
          k_steps
          exact ⟨_, _, n1, rfl, by k_asm, by k_asm, K1, _, "", OpenF.new H1 hfn m1 (fun p hp hn => K1 p ((by walk_at "mine sub" : ∀ p ∈ news, p ∈ _) p hp) hn) hO⟩
        · k_steps
          exact ⟨_, _, _, rfl, by k_asm, by k_asm, fun p hp _ => hp, _, x, OpenF.old (H.mono (by walk_at "mine sub")) hf (hsz _ (vat_mem hf)) hO (by walk_at "mine sub")⟩
      rintro h7 tk7 n7 F7 N7 K7 ⟨σ', x, O⟩
      have hv' := vat_chans O.ch hv
      have hcl' : σ'.chans.length ≤ 100 := by rw [O.ch]; exact hcl
      have hx := O.hx
      have H1 := O.rep
      have i1 := H1.inst
      refine H1.goDict fun es n i2 g1 g2 g3 => ?_
      refine H1.goOpens fun oO i3 d3 => ?_
      have z3 := H1.lowo
      refine H1.goFiles fun oF tkF i5 d5 => ?_
      have z5 := H1.lowf
      have b5 := file_some' (tk := tkF) O.hf
      have b6 := file_some (tk := tkF) O.hf
      k_steps
      refine unhere (cutV (C := fun v => ∃ tr, v = .int ((if mode = "A" then x.length else 0 : Nat) : Int) tr) ?_ ?_)
      · refine wpAny_IfExp ?_
        k_steps
        · exact CutT.mk ⟨_, by rw [if_pos (eq_of_beq ‹(mode == Str.ofString "A") = true›)]⟩
        · exact CutT.mk ⟨_, by rw [if_neg (ne_of_beq_false ‹(mode == Str.ofString "A") = false›)]; rfl⟩
      rintro v ⟨tr, rfl⟩ tk8
      k_steps
      k_dflt (refine setD (knd := intKind PG w) (by k_asm) (by k_asm) (by k_mem) d3 (intKind_is _ _ _ _) (by simp <;> omega) ?_)
      intro h2 n2 o2 F2 N2 m2 K2 e2
      have hdx := ‹Obj.IsDictOf (PySem.strKind _ _) _ (strPairs _)›
      dsimp only [strPairs] at hdx
      obtain ⟨H2, a2, b2⟩ := fin_open (c := ⟨mode, nm, if mode = "A" then x.length else 0⟩) H1 (by walk_at "mine sub") (by assumption) (by assumption) K2 m2 ⟨_, _, _, _, _, _, hdx⟩ e2 hv'
      k_steps
      obtain ⟨a3, b3⟩ := O.fin a2 b2
      exact openF_last hm O.hf retI retA retO retAn O.which _ _ n2 _ (by k_asm) (by k_asm) H2 a3 b3
end


end
/-! C13 -/
/-! C14 -/
local macro_rules | `(tactic| walk_at "mine sub") => `(tactic| first | with_reducible assumption | exact sub_tail (sub_tail (sub_tail (sub_tail (by assumption)))) | exact sub_tail (sub_tail (sub_tail (sub_tail (sub_tail (by assumption))))))
section
open PyProof.V
def named (σ : St) (nm : Str) : Bool := σ.chans.any fun c => c.2.name == nm
theorem ints_snoc {vs : List Value} {ns : List Int} (h : IntsAre vs ns) (n : Int) (t : Tok) : IntsAre (vs ++ [.int n t]) (ns ++ [n]) := by
  induction h with
  | nil => exact .cons _ _ .nil
  | cons a b _ ih => exact .cons _ _ ih
theorem dec_ne {ns : List Int} (h : decide (ns = []) = true) : decide (ns ≠ []) = false := by simp_all
theorem dec_ne' {ns : List Int} (h : decide (ns = []) = false) : decide (ns ≠ []) = true := by simp_all
theorem any_snoc {α : Type} {l : List α} {p : α → Bool} {i : Nat} {x : α} {ns : List Int} (h : (l.take i).any p = decide (ns ≠ [])) (hx : l[i]? = some x) (b : Bool) (hp : p x = b) (ns' : List Int) (e : decide (ns' ≠ []) = (decide (ns ≠ []) || b)) : (l.take (i + 1)).any p = decide (ns' ≠ []) := by
  rw [List.take_add_one, hx, List.any_append, h, e]
  simp [hp]
set_option maxRecDepth 100000 in
set_option maxHeartbeats 8000000 in
theorem kill_go {w : World} {dp un : Nat} {gd : Option (List Code)} {cn : Str} {cs : Scope} {a : Addr} {ccd : Value} {cl : List (Str × Addr)} {outer : List Env} {A₀ : Around} {base h₀ : Heap} {L : Addr} {m mg mb : Str → Option Value}
    {news : List (Addr × Obj)} {s : Shared} {Q E : Value → Shared → Prop} {loose : List Str} {mean : ExcName → Option Value}
    (B : Below A₀ base outer h₀) (F : Fr h₀ L s.heap m) (N : News h₀ L s.heap news) (XB : (hd.heap_1 w.params).In base) (TB : Top topProg loose mean mg mb base) (hk : cs.kind = .function) (hdp : dp + 16 < recursionLimit) (hu : un + 160 < cLine)
    {l : WL} {σ : St} (H : WRep w news l σ) (hkn : (σ.chans.map (·.1)).Nodup) {tn : Tok} {nm : Str} (hcl : σ.chans.length ≤ 100) (hfl : σ.files.length ≤ 100) (eFF : vat σ.files nm = none → Err A₀ base outer h₀ L m news "FF" s E) (eAO : (∃ t, vat σ.files nm = some t) → named σ nm = true → Err A₀ base outer h₀ L m news "AO" s E)
    (ret : ∀ t, vat σ.files nm = some t → named σ nm = false → ∀ h' tk' news', Fr h₀ L h' m → News h₀ L h' news' → WRep w news' l { σ with files := sdel σ.files nm } → (∀ p ∈ news, p.1 ∉ l.all σ → p ∈ news') → Q .none { s with heap := h', toks := tk' }) :
    wpAny (model PySem.Challenge.rw_pq0172_01.row.prog w) (ktrTop dp un gd cn cs L a ccd cl outer) (call (.ref 75) [.ref l.wi, .str nm tn]) Q E s := by
  revert XB; k_fill; intro XB
  have X := XB.keeps B.stays
  have T := TB.keeps B.stays
  have i1 := H.inst
  refine H.goDict fun es n i2 g1 g2 g3 => ?_
  refine H.goOpens fun oO i3 d3 => ?_
  have z3 := H.lowo
  refine H.goFiles fun oF tkF i5 d5 => ?_
  have z5 := H.lowf
  refine wpAny_call ?_
  k_dflt (walk_at "mine enterC")
  walk_at "mine fold"
  cases hf : vat σ.files nm with
  | none =>
    have b5 := file_none (tk := tkF) hf
    have he := eFF hf
    k_steps
    walk_at "mine err"
  | some t =>
    have b5 := file_some' (tk := tkF) hf
    have b6 := file_some (tk := tkF) hf
    have eAO := eAO ⟨t, hf⟩
    have ret := ret t hf
    k_steps
    refine ex4 _ _ _ _ ⟨Src.keys (knd := PySem.intKind PG w) rfl (by k_asm) (by k_asm) (by k_mem) d3 z3 (by rw [sizeLine_eq]; simp; omega), ?_⟩
    rintro s₂ ⟨hs2, rfl⟩
    refine restT_same (fun i ys => ∃ ns, IntsAre ys ns ∧ ((σ.chans.take i).any fun c => c.2.name == nm) = decide (ns ≠ [])) ⟨[], .nil, rfl⟩ ?_ ?_
    · rintro ys ⟨ns, hi, hy⟩ D h4 tk4 F4 N4 off4
      rw [show (σ.chans.map fun c => (c.1, Value.ref (l.ch c.1))).length = σ.chans.length from List.length_map .., List.take_length] at hy
      k_steps
      · have hm : named σ nm = false := hy.trans (dec_ne ‹decide (ns = []) = true›)
        k_dflt (refine popD (knd := strKind PG w) (by k_asm) (by k_asm) (by k_mem) d5 (strKind_is _ _ _ _) (by rfl) (PySem.F.args_dict_pop_2 _ _) b6 (by simp <;> omega) ?_)
        intro h2 n2 o2 F2 N2 m2 K2 e2
        have H2 := WRep.delFile (H.mono (by intro p hp; simp [hp])) K2 m2 e2
        k_steps
        exact ret hm _ _ n2 (by k_asm) (by k_asm) H2 fun p hp hn => K2 p (by simp [hp]) fun q => hn (q ▸ mem_wf)
      · have he := eAO (hy.trans (dec_ne' ‹decide (ns = []) = false›))
        walk_at "mine err"
    · rintro i ys v I oI C oC D m2 h3 tk3 E' hi' ⟨ns, hi, hy⟩ ⟨k, x, hk, hkv⟩ hC hx F3 N3 off ne
      obtain ⟨c, hc, rfl⟩ := map_at (f := fun c => Value.ref (l.ch c.1)) hk
      have hv := vat_at hkn hc
      obtain ⟨tv, rfl⟩ := Flat.int_inv (kdl_flat_int hkv)
      have b2 := chan_some (l := l) hv
      refine H.goChan hv fun oC i4 t1 t2 t3 t4 t5 t6 d4 => ?_
      have z4 := H.lowc hv
      k_steps
      · exact LCg.CompEnd.intro (by k_asm) (by k_asm) _ (fun p hp => hp) off (by simp [i3]) ⟨rfl, _, ints_snoc hi _ _, any_snoc hy hc true (by assumption) _ (by simp)⟩
      · exact LCg.CompEnd.intro (by k_asm) (by k_asm) _ (fun p hp => hp) off (by simp [i3]) ⟨rfl, _, hi, any_snoc hy hc false (by assumption) _ (by simp)⟩

end
/-! C15 -/
local macro_rules | `(tactic| walk_at "call ref") => `(tactic| (k_here; (with_reducible show wpAny _ _ (call (Value.ref 42) [Value.str _ _]) _ _ _); k_dflt (first
  | (refine check_ok (by k_asm) (by k_asm) (by k_asm) (by k_asm) (by k_asm) (by first | exact rfl | k_asm) (by ktr_room) (by ktr_units) (by assumption) ?_; intro h' tk' n' F' N' c'; (have e1 := c' _ (.tail _ (.tail _ (.head _)))); (have e2 := c' _ (.tail _ (.tail _ (.tail _ (.head _))))); (have e3 := sub_tail (sub_tail (sub_tail (sub_tail c'))))))))
section
open PyProof.V
theorem cells_on {n1 n2 news : List (Addr × Obj)} {wf L' : Addr} {a b : Addr × Obj} {o1 o2 oF : Obj} (c : ∀ p ∈ a :: b :: (L' + 1 + 1, o1) :: (L' + 1, o2) :: news, p ∈ n1) (K : Keep wf n1 n2) (h : (wf, oF) ∈ news) (l : ∀ p ∈ news, p.1 < L') :
    (L' + 1 + 1, o1) ∈ n2 ∧ (L' + 1, o2) ∈ n2 := by
  have q : wf < L' := l _ h
  exact ⟨K.mem (c _ (.tail _ (.tail _ (.head _)))) (Nat.ne_of_gt (Nat.lt_of_lt_of_le q (Nat.le_add_right L' 2))), K.mem (c _ (.tail _ (.tail _ (.tail _ (.head _))))) (Nat.ne_of_gt (Nat.lt_of_lt_of_le q (Nat.le_add_right L' 1)))⟩
theorem frame3 {n1 n2 n3 news : List (Addr × Obj)} {l : WL} {σ : St} (c : ∀ p ∈ news, p ∈ n1) (K : Keep l.wf n1 n2) (K' : Keep l.wf n2 n3) : ∀ p ∈ news, p.1 ∉ l.all σ → p ∈ n3 := fun p hp hn => K' p (K p (c p hp) fun q => hn (q ▸ mem_wf)) fun q => hn (q ▸ mem_wf)
set_option maxRecDepth 100000 in
set_option maxHeartbeats 8000000 in
theorem ren_go {w : World} {dp un : Nat} {gd : Option (List Code)} {cn : Str} {cs : Scope} {a : Addr} {ccd : Value} {cl : List (Str × Addr)} {outer : List Env} {A₀ : Around} {base h₀ : Heap} {L : Addr} {m mg mb : Str → Option Value}
    {news : List (Addr × Obj)} {s : Shared} {Q E : Value → Shared → Prop} {loose : List Str} {mean : ExcName → Option Value}
    (B : Below A₀ base outer h₀) (F : Fr h₀ L s.heap m) (N : News h₀ L s.heap news) (XB : (hd.heap_1 w.params).In base) (TB : Top topProg loose mean mg mb base) (hk : cs.kind = .function) (hdp : dp + 16 < recursionLimit) (hu : un + 160 < cLine)
    {l : WL} {σ : St} (H : WRep w news l σ) (hkn : (σ.chans.map (·.1)).Nodup) {tn tw : Tok} {nw nm : Str} (hn : IsName nw ∨ nw = "D") (hcl : σ.chans.length ≤ 100) (hfl : σ.files.length ≤ 100)
    (eFF : vat σ.files nm = none → Err A₀ base outer h₀ L m news "FF" s E) (eAO : (∃ t, vat σ.files nm = some t) → named σ nm = true → Err A₀ base outer h₀ L m news "AO" s E) (eNM : (∃ t, vat σ.files nm = some t) → named σ nm = false → ∀ t', vat σ.files nw = some t' → Err A₀ base outer h₀ L m news "NM" s E)
    (ret : ∀ t, vat σ.files nm = some t → named σ nm = false → vat σ.files nw = none → ∀ h' tk' news', Fr h₀ L h' m → News h₀ L h' news' → WRep w news' l { σ with files := sset (sdel σ.files nm) nw t } → (∀ p ∈ news, p.1 ∉ l.all σ → p ∈ news') → Q .none { s with heap := h', toks := tk' }) :
    wpAny (model PySem.Challenge.rw_pq0172_01.row.prog w) (ktrTop dp un gd cn cs L a ccd cl outer) (call (.ref 80) [.ref l.wi, .str nm tn, .str nw tw]) Q E s := by
  revert XB; k_fill; intro XB
  have X := XB.keeps B.stays
  have T := TB.keeps B.stays
  have i1 := H.inst
  refine H.goDict fun es n i2 g1 g2 g3 => ?_
  refine H.goOpens fun oO i3 d3 => ?_
  have z3 := H.lowo
  refine H.goFiles fun oF tkF i5 d5 => ?_
  have z5 := H.lowf
  refine wpAny_call ?_
  k_dflt (walk_at "mine enterC")
  walk_at "mine fold"
  cases hf : vat σ.files nm with
  | none =>
    have b5 := file_none (tk := tkF) hf
    have he := eFF hf
    k_steps
    walk_at "mine err"
  | some t =>
    have b5 := file_some' (tk := tkF) hf
    have b6 := file_some (tk := tkF) hf
    have eAO := eAO ⟨t, hf⟩
    have eNM := eNM ⟨t, hf⟩
    have ret := ret t hf
    k_steps
    refine ex4 _ _ _ _ ⟨Src.keys (knd := PySem.intKind PG w) rfl (by k_asm) (by k_asm) (by k_mem) d3 z3 (by rw [sizeLine_eq]; simp; omega), ?_⟩
    rintro s₂ ⟨hs2, rfl⟩
    refine restT_same (fun i ys => ∃ ns, IntsAre ys ns ∧ ((σ.chans.take i).any fun c => c.2.name == nm) = decide (ns ≠ [])) ⟨[], .nil, rfl⟩ ?_ ?_
    · rintro ys ⟨ns, hi, hy⟩ D h4 tk4 F4 N4 off4
      rw [show (σ.chans.map fun c => (c.1, Value.ref (l.ch c.1))).length = σ.chans.length from List.length_map .., List.take_length] at hy
      k_steps
      · have hm : named σ nm = false := hy.trans (dec_ne ‹decide (ns = []) = true›)
        cases hf' : vat σ.files nw with
        | some t' =>
          have b7 := file_some' (tk := tkF) hf'
          have he := eNM hm t' hf'
          k_steps
          walk_at "mine err"
        | none =>
          have b7 := file_none (tk := tkF) hf'
          k_steps
          k_dflt (refine popD (knd := strKind PG w) (by k_asm) (by k_asm) (by k_mem) d5 (strKind_is _ _ _ _) (by rfl) (PySem.F.args_dict_pop_2 _ _) b6 (by simp <;> omega) ?_)
          intro h2 n2 o2 F2 N2 m2 K2 e2
          have H2 := WRep.delFile (H.mono (by walk_at "mine sub")) K2 m2 e2
          obtain ⟨e1, e2⟩ := cells_on (by assumption) K2 i5 (by assumption)
          have i1 := H2.inst
          refine H2.goDict fun es n i2 g1 g2 g3 => ?_
          refine H2.goFiles fun oF tkF i5 d5 => ?_
          have hle : (sdel σ.files nm).length ≤ 100 := Nat.le_trans (List.length_filter_le ..) hfl
          dsimp only at d5
          k_steps
          k_dflt (refine setD (knd := strKind PG w) (by k_asm) (by k_asm) (by k_mem) d5 (strKind_is _ _ _ _) (by simp <;> omega) ?_)
          intro h3 n3 o3 F3 N3 m3 K3 e3
          have H3 := WRep.setFile H2 K3 m3 e3
          k_steps
          exact ret hm hf' _ _ n3 (by k_asm) (by k_asm) H3 (frame3 (by walk_at "mine sub") K2 K3)
      · have he := eAO (hy.trans (dec_ne' ‹decide (ns = []) = false›))
        walk_at "mine err"
    · rintro i ys v I oI C oC D m2 h3 tk3 E' hi' ⟨ns, hi, hy⟩ ⟨k, x, hk, hkv⟩ hC hx F3 N3 off ne
      obtain ⟨c, hc, rfl⟩ := map_at (f := fun c => Value.ref (l.ch c.1)) hk
      have hv := vat_at hkn hc
      obtain ⟨tv, rfl⟩ := Flat.int_inv (kdl_flat_int hkv)
      have b2 := chan_some (l := l) hv
      refine H.goChan hv fun oC i4 t1 t2 t3 t4 t5 t6 d4 => ?_
      have z4 := H.lowc hv
      k_steps
      · exact LCg.CompEnd.intro (by k_asm) (by k_asm) _ (fun p hp => hp) off (by simp [i3]) ⟨rfl, _, ints_snoc hi _ _, any_snoc hy hc true (by assumption) _ (by simp)⟩
      · exact LCg.CompEnd.intro (by k_asm) (by k_asm) _ (fun p hp => hp) off (by simp [i3]) ⟨rfl, _, hi, any_snoc hy hc false (by assumption) _ (by simp)⟩

end
/-! Tw -/
section
open PyProof.V PySem.SeqAt
set_option maxRecDepth 100000
theorem readsAll_of_strs {h : Heap} : ∀ {vs : List Value} {ns : List Str}, StrsAre vs ns → ReadsAll h vs (ns.map PyData.str) []
  | _, _, .nil => .nil
  | _, _, .cons k t r => by
    have := ReadsAll.cons (Reads.str (h := h) k t) (readsAll_of_strs (h := h) r)
    simpa using this
theorem reads_of_strs {h : Heap} {a : Addr} {vs : List Value} {ns : List Str} (hl : h.IsList a vs.toArray) (hi : StrsAre vs ns) : Reads h (.ref a) (.list (ns.map PyData.str)) [a] := by
  obtain ⟨o, ho, hc, n, hd⟩ := hl
  exact Reads.list ho hc hd (by simpa using readsAll_of_strs hi)
theorem depthAll_strs : ∀ ns : List Str, PyData.depthAll (ns.map PyData.str) ≤ 1
  | [] => by simp [PyData.depthAll]
  | n :: r => by
    have := depthAll_strs r
    simp only [List.map_cons, PyData.depthAll, PyData.depth]
    omega
def okAll (ns : List Str) : Bool := ns.all PyData.strOk
theorem canLay_strs : ∀ {ns : List Str}, okAll ns = true → PyData.canLayAll0 (ns.map PyData.str) = true
  | [], _ => by simp [PyData.canLayAll0]
  | n :: r, h => by
    simp only [okAll, List.all_cons, Bool.and_eq_true] at h
    have := canLay_strs (ns := r) h.2
    simp [PyData.canLayAll0, PyData.canLay0, this, h.1]
theorem shaped_strs {ns : List Str} (h : okAll ns = true) : shaped (.list (ns.map PyData.str)) = true := by
  have h1 := depthAll_strs ns
  have h2 : PyData.depth (.list (ns.map PyData.str)) ≤ 64 := by simp only [PyData.depth]; omega
  show (PyData.canLay0 (.list (ns.map PyData.str)) && decide (PyData.depth (.list (ns.map PyData.str)) ≤ 64)) = true
  rw [Bool.and_eq_true]
  exact ⟨by simp only [PyData.canLay0]; exact canLay_strs h, decide_eq_true h2⟩
theorem noMix_strs : ∀ ns ms : List Str, noMixAll (ns.map PyData.str) (ms.map PyData.str) = true
  | [], [] => by simp [noMixAll]
  | [], _ :: _ => by simp [noMixAll]
  | _ :: _, [] => by simp [noMixAll]
  | _ :: r, _ :: q => by simp [noMixAll, noMix, noMix_strs r q]
theorem same_strs : ∀ ns ms : List Str, PySem.Spec.sameAll (ns.map PyData.str) (ms.map PyData.str) = decide (ns = ms)
  | [], [] => by simp [PySem.Spec.sameAll]
  | [], _ :: _ => by simp [PySem.Spec.sameAll]
  | _ :: _, [] => by simp [PySem.Spec.sameAll]
  | n :: r, k :: q => by
    simp only [List.map_cons, PySem.Spec.sameAll, PySem.Spec.same, same_strs r q]
    by_cases h : n = k <;> simp [h]
theorem okAll_signs {x : Str} (h : x.cps.all (· < 128) = true) : okAll (signs x) = true := by
  rw [okAll, List.all_eq_true]
  intro y hy
  obtain ⟨n, hn, rfl⟩ := List.mem_map.mp hy
  rw [Array.all_eq_true'] at h
  have := h n (by simpa using hn)
  simp only [decide_eq_true_eq] at this
  simp [PyData.strOk]; omega
section
variable {prog : Program} {w : World} {A : Around} {E : Value → Shared → Prop} {s : Shared} {h₀ : Heap} {L D a b : Addr} {m : Str → Option Value} {news : List (Addr × Obj)} {vs us : List Value} {ns ms : List Str} {n : Nat} {Q : Value → Shared → Prop}
theorem eq_strs (hl : s.heap.IsList a vs.toArray) (hi : StrsAre vs ns) (hl' : s.heap.IsList b us.toArray) (hi' : StrsAre us ms) (ho : okAll ns = true) (ho' : okAll ms = true) (hu : A.units + 64 < cLine)
    (h : Q (.bool (decide (ns = ms))) s) : wpAny (model prog w) A (compareOp .Eq (.ref a) (.ref b)) Q E s :=
  eq_dataH_same (reads_of_strs hl hi) (reads_of_strs hl' hi') (shaped_strs ho) (shaped_strs ho') hu (by simp only [noMix]; exact noMix_strs ns ms) (by simp only [PySem.Spec.same]; rw [same_strs]; exact h)
theorem ne_strs (hl : s.heap.IsList a vs.toArray) (hi : StrsAre vs ns) (hl' : s.heap.IsList b us.toArray) (hi' : StrsAre us ms) (ho : okAll ns = true) (ho' : okAll ms = true) (hu : A.units + 64 < cLine)
    (h : Q (.bool (!decide (ns = ms))) s) : wpAny (model prog w) A (compareOp .NotEq (.ref a) (.ref b)) Q E s :=
  ne_dataH_same (reads_of_strs hl hi) (reads_of_strs hl' hi') (shaped_strs ho) (shaped_strs ho') hu (by simp only [noMix]; exact noMix_strs ns ms) (by simp only [PySem.Spec.same]; rw [same_strs]; exact h)

/-! lists of signs -/
def IsSigns (o : Obj) (x : Str) : Prop := ∃ vs n, o = listOf (List.toArray vs) n ∧ StrsAre vs (signs x)
theorem signs_nil_iff {x : Str} : signs x = [] ↔ x = "" := by
  constructor
  · intro h
    rw [signs, List.map_eq_nil_iff] at h
    cases x with | mk c =>
    congr
    exact Array.toList_inj.mp h
  · rintro rfl; rfl
theorem eq_signs {o : Obj} {x : Str} (N : News h₀ L s.heap news) (hm : (a, o) ∈ news) (hs : IsSigns o x) (hx : x.cps.all (· < 128) = true) (hm' : (b, listOf #[] n) ∈ news) (hu : A.units + 64 < cLine)
    (h : Q (.bool (decide (x = ""))) s) : wpAny (model prog w) A (compareOp .Eq (.ref a) (.ref b)) Q E s := by
  obtain ⟨vs, k, rfl, hi⟩ := hs
  refine eq_strs (N.isList hm) hi (us := []) (ms := []) (N.isList hm') .nil (okAll_signs hx) rfl hu ?_
  rw [show decide (signs x = []) = decide (x = "") from decide_eq_decide.mpr signs_nil_iff]
  exact h
theorem ne_signs {o : Obj} {x : Str} (N : News h₀ L s.heap news) (hm : (a, o) ∈ news) (hs : IsSigns o x) (hx : x.cps.all (· < 128) = true) (hm' : (b, listOf #[] n) ∈ news) (hu : A.units + 64 < cLine)
    (h : Q (.bool (!decide (x = ""))) s) : wpAny (model prog w) A (compareOp .NotEq (.ref a) (.ref b)) Q E s := by
  obtain ⟨vs, k, rfl, hi⟩ := hs
  refine ne_strs (N.isList hm) hi (us := []) (ms := []) (N.isList hm') .nil (okAll_signs hx) rfl hu ?_
  rw [show decide (signs x = []) = decide (x = "") from decide_eq_decide.mpr signs_nil_iff]
  exact h
theorem list_signs {x : Str} {t : Tok} (hh : A.handled = none) (F : Fr h₀ L s.heap m) (N : News h₀ L s.heap news) (hsz : x.length ≤ 1000)
    (h : ∀ D h' tk o, Fr h₀ L h' m → News h₀ L h' ((D, o) :: news) → (∀ p ∈ news, p.1 < D) → IsSigns o x → Q (.ref D) { s with heap := h', toks := tk }) :
    wpAny (model prog w) A (call (.type "list") [.str x t]) Q E s := by
  refine list_strD hh F N (fun h' tk ys F' N' up hn hl np hc => ?_) (by rw [sizeLine_eq]; omega)
  obtain ⟨c, hc'⟩ := np.1
  exact h _ h' tk _ F' (news_pushed F N up hc' rfl) (fun p hp => Heap.lt_size (N p hp).1) ⟨_, _, rfl, StrsAre.of_carried hc⟩
theorem copy_signs {x : Str} {o : Obj} (F : Fr h₀ L s.heap m) (N : News h₀ L s.heap news) (hm : (a, o) ∈ news) (hs : IsSigns o x) (hsz : x.length ≤ 1000)
    (h : ∀ D h' o, Fr h₀ L h' m → News h₀ L h' ((D, o) :: news) → (∀ p ∈ news, p.1 < D) → IsSigns o x → Q (.ref D) { s with heap := h' }) :
    wpAny (model prog w) A (call (.type "list") [.ref a]) Q E s := by
  obtain ⟨vs, k, rfl, hi⟩ := hs
  refine list_copyK F N (N.isList hm) (fun D c h' F' N' l => h D h' _ F' N' l ⟨vs, c, rfl, hi⟩) ?_
  have := hi.length
  rw [signs_length] at this
  rw [sizeLine_eq, List.size_toArray]; omega
theorem len_signs {x : Str} {o : Obj} (N : News h₀ L s.heap news) (hm : (a, o) ∈ news) (hs : IsSigns o x) (hsz : x.length ≤ 1000)
    (h : ∀ t tk, Q (.int x.length t) { s with toks := tk }) : wpAny (model prog w) A (call (.builtin "len") [.ref a]) Q E s := by
  obtain ⟨vs, k, rfl, hi⟩ := hs
  have e := hi.length
  rw [signs_length] at e
  refine len_list (N.isList hm) (by simp; omega) ?_
  simp only [List.size_toArray, e]
  exact h _ _
theorem join_signs {x : Str} {o : Obj} {t : Tok} (N : News h₀ L s.heap news) (hm : (a, o) ∈ news) (hs : IsSigns o x) (hsz : x.length ≤ 1000)
    (h : ∀ t tk, Q (.str x t) { s with toks := tk }) : wpAny (model prog w) A (call (.builtin "str.join") [.str "" t, .ref a]) Q E s := by
  obtain ⟨vs, k, rfl, hi⟩ := hs
  refine join_listC (N.isList hm) (by simpa using hi) (by decide) ?_ fun t' k => ?_
  · have e : ((signs x).map (·.length)).sum = x.length := by
      have := PyProof.Rows.signs_sumLen x
      exact this
    rw [e, signs_length]; omega
  · have e : Txt.join "" (signs x) = x := by
      have := eq_of_beq (join_closes (ys := signs x) (show (Str.ofString "") = (⟨#[]⟩ : Str) from rfl))
      rw [join_nil_signs] at this
      exact this
    rw [e]
    exact h _ _
end

end
/-! Tr -/
section
open PyProof.V
set_option maxRecDepth 100000
/-! how the ledger bears the twin -/
structure TL where
  td : Addr
  tf : Addr
  to : Addr
  fl : Str → Addr
  sp : Int → Addr
  lf : Int → Addr
def TL.all (t : TL) (σ : St) : List Addr := t.td :: t.tf :: t.to :: (σ.files.map (fun f => t.fl f.1) ++ (σ.chans.map (fun c => t.sp c.1) ++ σ.chans.map fun c => t.lf c.1))
def TL.dicts (t : TL) (σ : St) : List Addr := t.td :: t.tf :: t.to :: σ.chans.map fun c => t.sp c.1
def IsSpot (w : World) (o : Obj) (c : Ch) (a : Addr) : Prop :=
  ∃ t1 t2 t3, o.IsDictOf (strKind PG w) [("mode", .str c.mode t1), ("name", .str c.name t2), ("left", .ref a), ("done", .int c.at_ t3)]
structure Apart (t : TL) (σ : St) : Prop where
  d1 : t.td ≠ t.tf
  d2 : t.td ≠ t.to
  d3 : t.tf ≠ t.to
  f : ∀ f ∈ σ.files, t.fl f.1 ≠ t.td ∧ t.fl f.1 ≠ t.tf ∧ t.fl f.1 ≠ t.to
  c : ∀ c ∈ σ.chans, (t.sp c.1 ≠ t.td ∧ t.sp c.1 ≠ t.tf ∧ t.sp c.1 ≠ t.to) ∧ (t.lf c.1 ≠ t.td ∧ t.lf c.1 ≠ t.tf ∧ t.lf c.1 ≠ t.to)
  ff : ∀ f ∈ σ.files, ∀ f' ∈ σ.files, f.1 ≠ f'.1 → t.fl f.1 ≠ t.fl f'.1
  fc : ∀ f ∈ σ.files, ∀ c ∈ σ.chans, t.fl f.1 ≠ t.sp c.1 ∧ t.fl f.1 ≠ t.lf c.1
  cc : ∀ c ∈ σ.chans, ∀ c' ∈ σ.chans, t.sp c.1 ≠ t.lf c'.1 ∧ (c.1 ≠ c'.1 → t.sp c.1 ≠ t.sp c'.1 ∧ t.lf c.1 ≠ t.lf c'.1)
structure TRep (w : World) (news : List (Addr × Obj)) (t : TL) (σ : St) (left : Int → Str) : Prop where
  dict : ∃ o, (t.td, o) ∈ news ∧ o.IsDictOf (strKind PG w) [("files", .ref t.tf), ("open", .ref t.to)]
  files : ∃ o, (t.tf, o) ∈ news ∧ o.IsDictOf (strKind PG w) (σ.files.map fun f => (f.1, .ref (t.fl f.1)))
  opens : ∃ o, (t.to, o) ∈ news ∧ o.IsDictOf (intKind PG w) (σ.chans.map fun c => (c.1, .ref (t.sp c.1)))
  texts : ∀ f ∈ σ.files, ∃ o, (t.fl f.1, o) ∈ news ∧ IsSigns o f.2
  spots : ∀ c ∈ σ.chans, ∃ o, (t.sp c.1, o) ∈ news ∧ IsSpot w o c.2 (t.lf c.1)
  lefts : ∀ c ∈ σ.chans, ∃ o, (t.lf c.1, o) ∈ news ∧ IsSigns o (left c.1)
  apart : Apart t σ
  low : ∀ a ∈ t.dicts σ, (a == sysModules) = false
section
variable {w : World} {news : List (Addr × Obj)} {t : TL} {σ : St} {left : Int → Str} {G : Prop}
theorem TRep.goDict (H : TRep w news t σ left) (k : ∀ o, (t.td, o) ∈ news → o.IsDictOf (strKind PG w) [("files", .ref t.tf), ("open", .ref t.to)] → G) : G := let ⟨o, a, b⟩ := H.dict; k o a b
theorem TRep.goFiles (H : TRep w news t σ left) (k : ∀ o, (t.tf, o) ∈ news → o.IsDictOf (strKind PG w) (σ.files.map fun f => (f.1, .ref (t.fl f.1))) → G) : G := let ⟨o, a, b⟩ := H.files; k o a b
theorem TRep.goOpens (H : TRep w news t σ left) (k : ∀ o, (t.to, o) ∈ news → o.IsDictOf (intKind PG w) (σ.chans.map fun c => (c.1, .ref (t.sp c.1))) → G) : G := let ⟨o, a, b⟩ := H.opens; k o a b
theorem TRep.goTexts (H : TRep w news t σ left) (f : Str × Str) (hf : f ∈ σ.files) (k : ∀ o, (t.fl f.1, o) ∈ news → IsSigns o f.2 → G) : G := let ⟨o, a, b⟩ := H.texts f hf; k o a b
theorem TRep.goSpots (H : TRep w news t σ left) (c : Int × Ch) (hc : c ∈ σ.chans) (k : ∀ o, (t.sp c.1, o) ∈ news → ∀ t1 t2 t3, o.IsDictOf (strKind PG w) [("mode", .str c.2.mode t1), ("name", .str c.2.name t2), ("left", .ref (t.lf c.1)), ("done", .int c.2.at_ t3)] → G) : G := let ⟨o, a, t1, t2, t3, b⟩ := H.spots c hc; k o a t1 t2 t3 b
theorem TRep.goLefts (H : TRep w news t σ left) (c : Int × Ch) (hc : c ∈ σ.chans) (k : ∀ o, (t.lf c.1, o) ∈ news → IsSigns o (left c.1) → G) : G := let ⟨o, a, b⟩ := H.lefts c hc; k o a b
end
section
variable {t : TL} {σ : St} {nm x : Str} {k : Int} {c : Ch}
theorem in_td : t.td ∈ t.all σ := by simp [TL.all]
theorem in_tf : t.tf ∈ t.all σ := by simp [TL.all]
theorem in_to : t.to ∈ t.all σ := by simp [TL.all]
theorem in_fl {f : Str × Str} (h : f ∈ σ.files) : t.fl f.1 ∈ t.all σ := by
  simp only [TL.all, List.mem_cons, List.mem_append, List.mem_map]
  exact .inr (.inr (.inr (.inl ⟨_, h, rfl⟩)))
theorem in_sp {c : Int × Ch} (h : c ∈ σ.chans) : t.sp c.1 ∈ t.all σ := by
  simp only [TL.all, List.mem_cons, List.mem_append, List.mem_map]
  exact .inr (.inr (.inr (.inr (.inl ⟨_, h, rfl⟩))))
theorem in_lf {c : Int × Ch} (h : c ∈ σ.chans) : t.lf c.1 ∈ t.all σ := by
  simp only [TL.all, List.mem_cons, List.mem_append, List.mem_map]
  exact .inr (.inr (.inr (.inr (.inr ⟨_, h, rfl⟩))))
theorem dd_td : t.td ∈ t.dicts σ := by simp [TL.dicts]
theorem dd_tf : t.tf ∈ t.dicts σ := by simp [TL.dicts]
theorem dd_to : t.to ∈ t.dicts σ := by simp [TL.dicts]
theorem dd_sp {c : Int × Ch} (h : c ∈ σ.chans) : t.sp c.1 ∈ t.dicts σ := by
  simp only [TL.dicts, List.mem_cons, List.mem_map]
  exact .inr (.inr (.inr ⟨_, h, rfl⟩))
theorem dict_cases {a : Addr} (h : a ∈ t.dicts σ) : a = t.td ∨ a = t.tf ∨ a = t.to ∨ (∃ c ∈ σ.chans, a = t.sp c.1) := by
  simp only [TL.dicts, List.mem_cons, List.mem_map] at h
  rcases h with h | h | h | ⟨f, hf, rfl⟩
  · exact .inl h
  · exact .inr (.inl h)
  · exact .inr (.inr (.inl h))
  · exact .inr (.inr (.inr ⟨f, hf, rfl⟩))
theorem all_cases {a : Addr} (h : a ∈ t.all σ) : a = t.td ∨ a = t.tf ∨ a = t.to ∨ (∃ f ∈ σ.files, a = t.fl f.1) ∨ (∃ c ∈ σ.chans, a = t.sp c.1) ∨ (∃ c ∈ σ.chans, a = t.lf c.1) := by
  simp only [TL.all, List.mem_cons, List.mem_append, List.mem_map] at h
  rcases h with h | h | h | ⟨f, hf, rfl⟩ | ⟨f, hf, rfl⟩ | ⟨f, hf, rfl⟩
  · exact .inl h
  · exact .inr (.inl h)
  · exact .inr (.inr (.inl h))
  · exact .inr (.inr (.inr (.inl ⟨f, hf, rfl⟩)))
  · exact .inr (.inr (.inr (.inr (.inl ⟨f, hf, rfl⟩))))
  · exact .inr (.inr (.inr (.inr (.inr ⟨f, hf, rfl⟩))))
theorem spot_none (h : vat σ.chans k = none) : (valueAt (σ.chans.map fun c => (c.1, Value.ref (t.sp c.1))) k).isSome = false := by
  rw [valueAt_map, vat_none_find h]; rfl
theorem spot_some (h : vat σ.chans k = some c) : valueAt (σ.chans.map fun c => (c.1, Value.ref (t.sp c.1))) k = some (.ref (t.sp k)) := by
  rw [valueAt_map, vat_find h]; rfl
theorem spot_some' (h : vat σ.chans k = some c) : (valueAt (σ.chans.map fun c => (c.1, Value.ref (t.sp c.1))) k).isSome = true := by
  rw [spot_some h]; rfl
theorem text_none (h : vat σ.files nm = none) : (valueAt (σ.files.map fun f => (f.1, Value.ref (t.fl f.1))) nm).isSome = false := by
  rw [valueAt_map, vat_none_find h]; rfl
theorem text_some (h : vat σ.files nm = some x) : valueAt (σ.files.map fun f => (f.1, Value.ref (t.fl f.1))) nm = some (.ref (t.fl nm)) := by
  rw [valueAt_map, vat_find h]; rfl
theorem text_some' (h : vat σ.files nm = some x) : (valueAt (σ.files.map fun f => (f.1, Value.ref (t.fl f.1))) nm).isSome = true := by
  rw [text_some h]; rfl
end
section
variable {w : World} {news news' : List (Addr × Obj)} {t t' : TL} {σ σ' : St} {left left' : Int → Str} {D : Addr} {o' : Obj} {nm x y : Str} {k : Int} {c c' : Ch}
theorem TRep.mono (H : TRep w news t σ left) (k : ∀ p ∈ news, p.1 ∈ t.all σ → p ∈ news') : TRep w news' t σ left where
  dict := let ⟨o, a, r⟩ := H.dict; ⟨o, k _ a in_td, r⟩
  files := let ⟨o, a, r⟩ := H.files; ⟨o, k _ a in_tf, r⟩
  opens := let ⟨o, a, r⟩ := H.opens; ⟨o, k _ a in_to, r⟩
  texts := fun f hf => let ⟨o, a, r⟩ := H.texts f hf; ⟨o, k _ a (in_fl hf), r⟩
  spots := fun f hf => let ⟨o, a, r⟩ := H.spots f hf; ⟨o, k _ a (in_sp hf), r⟩
  lefts := fun f hf => let ⟨o, a, r⟩ := H.lefts f hf; ⟨o, k _ a (in_lf hf), r⟩
  apart := H.apart
  low := H.low
theorem TRep.up (H : TRep w news t σ left) (k : ∀ p ∈ news, p ∈ news') : TRep w news' t σ left := H.mono fun p hp _ => k p hp
theorem TRep.mem_all (H : TRep w news t σ left) {a : Addr} (h : a ∈ t.all σ) : ∃ o, (a, o) ∈ news := by
  rcases all_cases h with rfl | rfl | rfl | ⟨f, hf, rfl⟩ | ⟨f, hf, rfl⟩ | ⟨f, hf, rfl⟩
  · obtain ⟨o, a, _⟩ := H.dict; exact ⟨_, a⟩
  · obtain ⟨o, a, _⟩ := H.files; exact ⟨_, a⟩
  · obtain ⟨o, a, _⟩ := H.opens; exact ⟨_, a⟩
  · obtain ⟨o, a, _⟩ := H.texts f hf; exact ⟨_, a⟩
  · obtain ⟨o, a, _⟩ := H.spots f hf; exact ⟨_, a⟩
  · obtain ⟨o, a, _⟩ := H.lefts f hf; exact ⟨_, a⟩
theorem keys_sset {K α β : Type} [DecidableEq K] {l : List (K × α)} {k : K} {a : α} (h : k ∈ l.map (·.1)) (g : K → β) : (sset l k a).map (fun x => g x.1) = l.map fun x => g x.1 := by
  have := congrArg (List.map g) (sset_keys_in (a := a) h)
  simpa [List.map_map, Function.comp_def] using this
/-- one object is turned -/
theorem TRep.upd (K : Keep D news news') (hm : (D, o') ∈ news') (ap : Apart t' σ') (lo : ∀ a ∈ t'.dicts σ', (a == sysModules) = false)
    (h1 : (t'.td = D ∧ o'.IsDictOf (strKind PG w) [("files", .ref t'.tf), ("open", .ref t'.to)]) ∨ (t'.td ≠ D ∧ ∃ o, (t'.td, o) ∈ news ∧ o.IsDictOf (strKind PG w) [("files", .ref t'.tf), ("open", .ref t'.to)]))
    (h2 : (t'.tf = D ∧ o'.IsDictOf (strKind PG w) (σ'.files.map fun f => (f.1, .ref (t'.fl f.1)))) ∨ (t'.tf ≠ D ∧ ∃ o, (t'.tf, o) ∈ news ∧ o.IsDictOf (strKind PG w) (σ'.files.map fun f => (f.1, .ref (t'.fl f.1)))))
    (h3 : (t'.to = D ∧ o'.IsDictOf (intKind PG w) (σ'.chans.map fun c => (c.1, .ref (t'.sp c.1)))) ∨ (t'.to ≠ D ∧ ∃ o, (t'.to, o) ∈ news ∧ o.IsDictOf (intKind PG w) (σ'.chans.map fun c => (c.1, .ref (t'.sp c.1)))))
    (h4 : ∀ f ∈ σ'.files, (t'.fl f.1 = D ∧ IsSigns o' f.2) ∨ (t'.fl f.1 ≠ D ∧ ∃ o, (t'.fl f.1, o) ∈ news ∧ IsSigns o f.2))
    (h5 : ∀ c ∈ σ'.chans, (t'.sp c.1 = D ∧ IsSpot w o' c.2 (t'.lf c.1)) ∨ (t'.sp c.1 ≠ D ∧ ∃ o, (t'.sp c.1, o) ∈ news ∧ IsSpot w o c.2 (t'.lf c.1)))
    (h6 : ∀ c ∈ σ'.chans, (t'.lf c.1 = D ∧ IsSigns o' (left' c.1)) ∨ (t'.lf c.1 ≠ D ∧ ∃ o, (t'.lf c.1, o) ∈ news ∧ IsSigns o (left' c.1))) : TRep w news' t' σ' left' := by
  have key : ∀ (a : Addr) (P : Obj → Prop), (a = D ∧ P o') ∨ (a ≠ D ∧ ∃ o, (a, o) ∈ news ∧ P o) → ∃ o, (a, o) ∈ news' ∧ P o := by
    rintro a P (⟨rfl, h⟩ | ⟨hn, o, h, hp⟩)
    · exact ⟨_, hm, h⟩
    · exact ⟨o, K.mem h hn, hp⟩
  exact ⟨key _ _ h1, key _ _ h2, key _ _ h3, fun f hf => key _ _ (h4 f hf), fun f hf => key _ _ (h5 f hf), fun f hf => key _ _ (h6 f hf), ap, lo⟩

theorem Apart.files_sset (A : Apart t σ) (h : nm ∈ σ.files.map (·.1)) : Apart t { σ with files := sset σ.files nm x } := by
  have e : ∀ f ∈ sset σ.files nm x, ∃ f' ∈ σ.files, f'.1 = f.1 := fun f hf => by
    rcases mem_sset hf with rfl | ⟨hf, _⟩
    · obtain ⟨g, hg, e⟩ := List.mem_map.mp h; exact ⟨g, hg, e⟩
    · exact ⟨f, hf, rfl⟩
  refine ⟨A.d1, A.d2, A.d3, fun f hf => ?_, A.c, fun f hf f' hf' hn => ?_, fun f hf c hc => ?_, A.cc⟩
  · obtain ⟨g, hg, e⟩ := e f hf; rw [← e]; exact A.f g hg
  · obtain ⟨g, hg, e1⟩ := e f hf; obtain ⟨g', hg', e2⟩ := e f' hf'; rw [← e1, ← e2] at hn ⊢; exact A.ff g hg g' hg' hn
  · obtain ⟨g, hg, e⟩ := e f hf; rw [← e]; exact A.fc g hg c hc
theorem Apart.chans_sset (A : Apart t σ) (h : k ∈ σ.chans.map (·.1)) : Apart t { σ with chans := sset σ.chans k c } := by
  have e : ∀ f ∈ sset σ.chans k c, ∃ f' ∈ σ.chans, f'.1 = f.1 := fun f hf => by
    rcases mem_sset hf with rfl | ⟨hf, _⟩
    · obtain ⟨g, hg, e⟩ := List.mem_map.mp h; exact ⟨g, hg, e⟩
    · exact ⟨f, hf, rfl⟩
  refine ⟨A.d1, A.d2, A.d3, A.f, fun f hf => ?_, A.ff, fun f hf c hc => ?_, fun f hf f' hf' => ?_⟩
  · obtain ⟨g, hg, e⟩ := e f hf; rw [← e]; exact A.c g hg
  · obtain ⟨g, hg, e⟩ := e c hc; rw [← e]; exact A.fc f hf g hg
  · obtain ⟨g, hg, e1⟩ := e f hf; obtain ⟨g', hg', e2⟩ := e f' hf'; rw [← e1, ← e2]; exact A.cc g hg g' hg'
theorem tall_files (h : nm ∈ σ.files.map (·.1)) : t.all { σ with files := sset σ.files nm x } = t.all σ := by
  simp only [TL.all, keys_sset h t.fl]
theorem tall_chans (h : k ∈ σ.chans.map (·.1)) : t.all { σ with chans := sset σ.chans k c } = t.all σ := by
  simp only [TL.all, keys_sset h t.sp, keys_sset h t.lf]

/-- a file's list is turned -/
theorem TRep.setText (H : TRep w news t σ left) (hv : vat σ.files nm = some y) (K : Keep (t.fl nm) news news') (hm : (t.fl nm, o') ∈ news') (hs : IsSigns o' x) : TRep w news' t { σ with files := sset σ.files nm x } left := by
  have hk := vat_some_key hv
  have hf := vat_mem hv
  have A := H.apart
  refine TRep.upd K hm (A.files_sset hk) H.low (.inr ⟨(A.f _ hf).1.symm, H.dict⟩) (.inr ⟨(A.f _ hf).2.1.symm, ?_⟩) (.inr ⟨(A.f _ hf).2.2.symm, H.opens⟩) (fun f hf' => ?_) (fun c hc => .inr ⟨((A.fc _ hf c hc).1).symm, H.spots c hc⟩) fun c hc => .inr ⟨((A.fc _ hf c hc).2).symm, H.lefts c hc⟩
  · have := H.files
    rw [← keys_sset (a := x) hk (fun y => (y, Value.ref (t.fl y)))] at this
    exact this
  · rcases mem_sset hf' with rfl | ⟨hf', hn⟩
    · exact .inl ⟨rfl, hs⟩
    · exact .inr ⟨A.ff f hf' _ hf hn, H.texts f hf'⟩
/-- a spot is turned -/
theorem TRep.setSpot (H : TRep w news t σ left) (hv : vat σ.chans k = some c) (K : Keep (t.sp k) news news') (hm : (t.sp k, o') ∈ news') (hs : IsSpot w o' c' (t.lf k)) : TRep w news' t { σ with chans := sset σ.chans k c' } left := by
  have hk := vat_some_key hv
  have hc := vat_mem hv
  have A := H.apart
  have e : ∀ f ∈ sset σ.chans k c', ∃ f' ∈ σ.chans, f'.1 = f.1 := fun f hf => by
    rcases mem_sset hf with rfl | ⟨hf, _⟩
    · exact ⟨_, hc, rfl⟩
    · exact ⟨f, hf, rfl⟩
  refine TRep.upd K hm (A.chans_sset hk) (by rw [show t.dicts { σ with chans := sset σ.chans k c' } = t.dicts σ from by simp only [TL.dicts, keys_sset hk t.sp]]; exact H.low) (.inr ⟨(A.c _ hc).1.1.symm, H.dict⟩) (.inr ⟨(A.c _ hc).1.2.1.symm, H.files⟩) (.inr ⟨(A.c _ hc).1.2.2.symm, ?_⟩) (fun f hf => .inr ⟨(A.fc f hf _ hc).1, H.texts f hf⟩) (fun f hf => ?_) fun f hf => ?_
  · have := H.opens
    rw [← keys_sset (a := c') hk (fun y => (y, Value.ref (t.sp y)))] at this
    exact this
  · rcases mem_sset hf with rfl | ⟨hf, hn⟩
    · exact .inl ⟨rfl, hs⟩
    · exact .inr ⟨((A.cc f hf _ hc).2 hn).1, H.spots f hf⟩
  · obtain ⟨g, hg, e⟩ := e f hf
    rw [← e]
    exact .inr ⟨((A.cc _ hc g hg).1).symm, H.lefts g hg⟩
/-- what is left is turned -/
theorem TRep.setLeft (H : TRep w news t σ left) (hv : vat σ.chans k = some c) (K : Keep (t.lf k) news news') (hm : (t.lf k, o') ∈ news') (hs : IsSigns o' x) : TRep w news' t σ (fun i => if i = k then x else left i) := by
  have hc := vat_mem hv
  have A := H.apart
  refine TRep.upd K hm A H.low (.inr ⟨(A.c _ hc).2.1.symm, H.dict⟩) (.inr ⟨(A.c _ hc).2.2.1.symm, H.files⟩) (.inr ⟨(A.c _ hc).2.2.2.symm, H.opens⟩) (fun f hf => .inr ⟨(A.fc f hf _ hc).2, H.texts f hf⟩) (fun f hf => .inr ⟨(A.cc f hf _ hc).1, H.spots f hf⟩) fun f hf => ?_
  by_cases h : f.1 = k
  · exact .inl ⟨by rw [h], by rw [if_pos h]; exact hs⟩
  · rw [if_neg h]; exact .inr ⟨((A.cc f hf _ hc).2 h).2, H.lefts f hf⟩
/-- a file is laid under a name -/
theorem TRep.addFile (H : TRep w news t σ left) {b : Addr} {ob : Obj} (hb : ∀ a ∈ t.all σ, a ≠ b) (hbm : (b, ob) ∈ news) (hs : IsSigns ob x) (K : Keep t.tf news news') (hm : (t.tf, o') ∈ news')
    (hd : o'.IsDictOf (strKind PG w) (stored (σ.files.map fun f => (f.1, .ref (t.fl f.1))) nm (.ref b))) :
    TRep w news' { t with fl := fun y => if y = nm then b else t.fl y } { σ with files := sset σ.files nm x } left := by
  have A := H.apart
  have ap : Apart { t with fl := fun y => if y = nm then b else t.fl y } { σ with files := sset σ.files nm x } := by
    refine ⟨A.d1, A.d2, A.d3, fun f hf => ?_, A.c, fun f hf f' hf' hn => ?_, fun f hf c hc => ?_, A.cc⟩
    · rcases mem_sset hf with rfl | ⟨hf, hn⟩
      · simp only [if_true]; exact ⟨(hb _ in_td).symm, (hb _ in_tf).symm, (hb _ in_to).symm⟩
      · simp only [if_neg hn]; exact A.f f hf
    · rcases mem_sset hf with rfl | ⟨hf, hn1⟩
      · rcases mem_sset hf' with rfl | ⟨hf', hn2⟩
        · exact absurd rfl hn
        · simp only [if_true, if_neg hn2]; exact (hb _ (in_fl hf')).symm
      · rcases mem_sset hf' with rfl | ⟨hf', hn2⟩
        · simp only [if_true, if_neg hn1]; exact hb _ (in_fl hf)
        · simp only [if_neg hn1, if_neg hn2]; exact A.ff f hf f' hf' hn
    · rcases mem_sset hf with rfl | ⟨hf, hn⟩
      · simp only [if_true]; exact ⟨(hb _ (in_sp hc)).symm, (hb _ (in_lf hc)).symm⟩
      · simp only [if_neg hn]; exact A.fc f hf c hc
  refine TRep.upd K hm ap H.low (.inr ⟨A.d1, H.dict⟩) (.inl ⟨rfl, ?_⟩) (.inr ⟨A.d3.symm, H.opens⟩) (fun f hf => .inr ?_) (fun c hc => .inr ⟨(A.c c hc).1.2.1, H.spots c hc⟩) fun c hc => .inr ⟨(A.c c hc).2.2.1, H.lefts c hc⟩
  · rw [stored_map (l := σ.files) (f := fun f => Value.ref (t.fl f.1)) (g := fun f => Value.ref (if f.1 = nm then b else t.fl f.1)) (a := x) (by simp) (fun f _ hx => by simp [hx])] at hd
    exact hd
  · rcases mem_sset hf with rfl | ⟨hf, hn⟩
    · simp only [if_true]; exact ⟨(hb _ in_tf).symm, _, hbm, hs⟩
    · simp only [if_neg hn]; exact ⟨(A.f f hf).2.1, H.texts f hf⟩
theorem Apart.sub (A : Apart t σ) (h1 : ∀ f ∈ σ'.files, f ∈ σ.files) (h2 : ∀ c ∈ σ'.chans, c ∈ σ.chans) : Apart t σ' :=
  ⟨A.d1, A.d2, A.d3, fun f hf => A.f f (h1 f hf), fun c hc => A.c c (h2 c hc), fun f hf f' hf' => A.ff f (h1 f hf) f' (h1 f' hf'), fun f hf c hc => A.fc f (h1 f hf) c (h2 c hc), fun c hc c' hc' => A.cc c (h2 c hc) c' (h2 c' hc')⟩
theorem all_sub (h1 : ∀ f ∈ σ'.files, f ∈ σ.files) (h2 : ∀ c ∈ σ'.chans, c ∈ σ.chans) {a : Addr} (ha : a ∈ t.all σ') : a ∈ t.all σ := by
  rcases all_cases ha with rfl | rfl | rfl | ⟨f, hf, rfl⟩ | ⟨f, hf, rfl⟩ | ⟨f, hf, rfl⟩
  · exact in_td
  · exact in_tf
  · exact in_to
  · exact in_fl (h1 f hf)
  · exact in_sp (h2 f hf)
  · exact in_lf (h2 f hf)
/-- a file is forgotten -/
theorem TRep.delFile (H : TRep w news t σ left) (K : Keep t.tf news news') (hm : (t.tf, o') ∈ news') (hd : o'.IsDictOf (strKind PG w) (without (σ.files.map fun f => (f.1, .ref (t.fl f.1))) nm)) : TRep w news' t { σ with files := sdel σ.files nm } left := by
  have A := H.apart
  have s : ∀ f ∈ sdel σ.files nm, f ∈ σ.files := fun f hf => (mem_sdel hf).1
  refine TRep.upd K hm (A.sub s fun _ h => h) H.low (.inr ⟨A.d1, H.dict⟩) (.inl ⟨rfl, ?_⟩) (.inr ⟨A.d3.symm, H.opens⟩) (fun f hf => .inr ⟨(A.f f (s f hf)).2.1, H.texts f (s f hf)⟩) (fun c hc => .inr ⟨(A.c c hc).1.2.1, H.spots c hc⟩) fun c hc => .inr ⟨(A.c c hc).2.2.1, H.lefts c hc⟩
  rw [without_map (f := fun f : Str × Str => Value.ref (t.fl f.1))] at hd
  exact hd
/-- a new spot -/
theorem TRep.newSpot (H : TRep w news t σ left) {b d : Addr} {ob od : Obj} (hv : vat σ.chans k = none) (hb : ∀ a ∈ t.all σ, a ≠ b) (hlb : (b == sysModules) = false) (hbm : (b, ob) ∈ news) (hs : IsSpot w ob c d) (hd : ∀ a ∈ t.all σ, a ≠ d) (hdm : (d, od) ∈ news) (hsd : IsSigns od x) (hbd : b ≠ d)
    (K : Keep t.to news news') (hm : (t.to, o') ∈ news') (he : o'.IsDictOf (intKind PG w) (stored (σ.chans.map fun c => (c.1, .ref (t.sp c.1))) k (.ref b))) :
    TRep w news' { t with sp := fun i => if i = k then b else t.sp i, lf := fun i => if i = k then d else t.lf i } { σ with chans := sset σ.chans k c } (fun i => if i = k then x else left i) := by
  have A := H.apart
  have ap : Apart { t with sp := fun i => if i = k then b else t.sp i, lf := fun i => if i = k then d else t.lf i } { σ with chans := sset σ.chans k c } := by
    refine ⟨A.d1, A.d2, A.d3, A.f, fun c hc => ?_, A.ff, fun f hf c hc => ?_, fun c hc c' hc' => ?_⟩
    · rcases mem_sset hc with rfl | ⟨hc, hn⟩
      · simp only [if_true]; exact ⟨⟨(hb _ in_td).symm, (hb _ in_tf).symm, (hb _ in_to).symm⟩, ⟨(hd _ in_td).symm, (hd _ in_tf).symm, (hd _ in_to).symm⟩⟩
      · simp only [if_neg hn]; exact A.c c hc
    · rcases mem_sset hc with rfl | ⟨hc, hn⟩
      · simp only [if_true]; exact ⟨hb _ (in_fl hf), hd _ (in_fl hf)⟩
      · simp only [if_neg hn]; exact A.fc f hf c hc
    · rcases mem_sset hc with rfl | ⟨hc, hn⟩
      · rcases mem_sset hc' with rfl | ⟨hc', hn'⟩
        · simp only [if_true]; exact ⟨hbd, fun q => absurd rfl q⟩
        · simp only [if_true, if_neg hn']; exact ⟨(hb _ (in_lf hc')).symm, fun _ => ⟨(hb _ (in_sp hc')).symm, (hd _ (in_lf hc')).symm⟩⟩
      · rcases mem_sset hc' with rfl | ⟨hc', hn'⟩
        · simp only [if_true, if_neg hn]; exact ⟨hd _ (in_sp hc), fun _ => ⟨hb _ (in_sp hc), hd _ (in_lf hc)⟩⟩
        · simp only [if_neg hn, if_neg hn']; exact A.cc c hc c' hc'
  refine TRep.upd K hm ap (fun a ha => ?_) (.inr ⟨A.d2, H.dict⟩) (.inr ⟨A.d3, H.files⟩) (.inl ⟨rfl, ?_⟩) (fun f hf => .inr ⟨(A.f f hf).2.2, H.texts f hf⟩) (fun c hc => .inr ?_) fun c hc => .inr ?_
  · rcases dict_cases ha with rfl | rfl | rfl | ⟨f, hf, rfl⟩
    · exact H.low _ dd_td
    · exact H.low _ dd_tf
    · exact H.low _ dd_to
    · rcases mem_sset hf with rfl | ⟨hf, hn⟩
      · simpa using hlb
      · simp only [if_neg hn]; exact H.low _ (dd_sp hf)
  · rw [stored_map (l := σ.chans) (f := fun x => Value.ref (t.sp x.1)) (g := fun x => Value.ref (if x.1 = k then b else t.sp x.1)) (a := c) (by simp) (fun x _ hx => by simp [hx])] at he
    exact he
  · rcases mem_sset hc with rfl | ⟨hc, hn⟩
    · simp only [if_true]; exact ⟨(hb _ in_to).symm, _, hbm, hs⟩
    · simp only [if_neg hn]; exact ⟨(A.c c hc).1.2.2, H.spots c hc⟩
  · rcases mem_sset hc with rfl | ⟨hc, hn⟩
    · simp only [if_true]; exact ⟨(hd _ in_to).symm, _, hdm, hsd⟩
    · simp only [if_neg hn]; exact ⟨(A.c c hc).2.2.2, H.lefts c hc⟩
/-- a spot is given up: a new dict of the open ones -/
theorem TRep.closeSpot (H : TRep w news t σ left) {b : Addr} {ob : Obj} (hb : ∀ a ∈ t.all σ, a ≠ b) (hlb : (b == sysModules) = false) (hbm : (b, ob) ∈ news) (he : ob.IsDictOf (intKind PG w) ((sdel σ.chans k).map fun c => (c.1, .ref (t.sp c.1))))
    (K : Keep t.td news news') (hm : (t.td, o') ∈ news') (hd : o'.IsDictOf (strKind PG w) (stored [("files", .ref t.tf), ("open", .ref t.to)] "open" (.ref b))) : TRep w news' { t with to := b } { σ with chans := sdel σ.chans k } left := by
  have A := H.apart
  have s : ∀ f ∈ sdel σ.chans k, f ∈ σ.chans := fun f hf => (mem_sdel hf).1
  have ap : Apart { t with to := b } { σ with chans := sdel σ.chans k } := by
    refine ⟨A.d1, hb _ in_td, hb _ in_tf, fun f hf => ⟨(A.f f hf).1, (A.f f hf).2.1, hb _ (in_fl hf)⟩, fun c hc => ?_, A.ff, fun f hf c hc => A.fc f hf c (s c hc), fun c hc c' hc' => A.cc c (s c hc) c' (s c' hc')⟩
    have q := A.c c (s c hc)
    exact ⟨⟨q.1.1, q.1.2.1, hb _ (in_sp (s c hc))⟩, q.2.1, q.2.2.1, hb _ (in_lf (s c hc))⟩
  refine TRep.upd K hm ap (fun a ha => ?_) (.inl ⟨rfl, hd⟩) (.inr ⟨A.d1.symm, H.files⟩) (.inr ⟨(hb _ in_td).symm, _, hbm, he⟩) (fun f hf => .inr ⟨(A.f f hf).1, H.texts f hf⟩) (fun c hc => .inr ⟨(A.c c (s c hc)).1.1, H.spots c (s c hc)⟩) fun c hc => .inr ⟨(A.c c (s c hc)).2.1, H.lefts c (s c hc)⟩
  rcases dict_cases ha with rfl | rfl | rfl | ⟨f, hf, rfl⟩
  · exact H.low _ dd_td
  · exact H.low _ dd_tf
  · exact hlb
  · exact H.low _ (dd_sp (s f hf))
end

end
/-! Tx -/
section
open PyProof.V
set_option maxRecDepth 100000
theorem signs_app (x y : Str) : signs (x ++ y) = signs x ++ signs y := by
  have e : (x ++ y).cps = x.cps ++ y.cps := rfl
  unfold signs
  rw [e, Array.toList_append, List.map_append]
theorem update_list {h : Heap} {D : Addr} {its its' : Array Value} {n : Nat} (f : Array Value → Array Value) (ho : h.get? D = some (listOf its n)) (e : f its = its') : ∃ n', (h.update D (Obj.mapSeq f)).get? D = some (listOf its' n') := by
  have q := PySem.IsL.update ho f
  rw [e] at q
  exact ⟨_, q⟩
section
variable {prog : Program} {w : World} {A : Around} {E : Value → Shared → Prop} {s : Shared} {h₀ : Heap} {L a b : Addr} {m : Str → Option Value} {news : List (Addr × Obj)} {o o2 : Obj} {x y : Str} {n : Nat} {Q : Value → Shared → Prop}
theorem extend_signs (F : Fr h₀ L s.heap m) (N : News h₀ L s.heap news) (hm : (a, o) ∈ news) (hs : IsSigns o x) (hm' : (b, o2) ∈ news) (hs' : IsSigns o2 y) (hx : x.length ≤ 1000) (hy : y.length ≤ 1000)
    (h : ∀ h' news' o', Fr h₀ L h' m → News h₀ L h' news' → (a, o') ∈ news' → Keep a news news' → IsSigns o' (x ++ y) → Q .none { s with heap := h' }) :
    wpAny (model prog w) A (call (.builtin "list.extend") [.ref a, .ref b]) Q E s := by
  obtain ⟨vs, n, rfl, hi⟩ := hs
  obtain ⟨us, k, rfl, hj⟩ := hs'
  have e1 := hi.length
  have e2 := hj.length
  rw [signs_length] at e1 e2
  have z := N _ hm
  obtain ⟨n', hn'⟩ := update_list (its' := (vs ++ us).toArray) (fun x => x ++ us.toArray) z.1 (by simp)
  obtain ⟨news', F', N', m', K'⟩ := chg F N hm (Heap.SameBut.update ..) hn'
  refine call_meets PySem.F.slot_list_extend ⟨_, z.1, rfl⟩ PySem.F.entry_list_extend (PySem.F.args_list_extend_2 _ _) (PySem.AutoSeq1.list_extend_list_list_0 a _ n b _ k ?_ ?_ ?_) ⟨z.1, (N _ hm').1, h _ news' _ F' N' m' K' ⟨_, n', rfl, by rw [signs_app]; exact hi.append' hj⟩⟩
  · have : ¬ (vs.toArray.size + us.toArray.size > sizeLine) := by rw [sizeLine_eq]; simp only [List.size_toArray]; omega
    simp [Builtin.List.listTooLong]; intro _; simp only [List.size_toArray] at this; omega
  · rw [sizeLine_eq]; simp only [List.size_toArray]; omega
  · rw [sizeLine_eq]; simp only [List.size_toArray]; omega
theorem pop0_signs {c : Nat} {r : List Nat} {u : Tok} (F : Fr h₀ L s.heap m) (N : News h₀ L s.heap news) (hm : (a, o) ∈ news) (hs : IsSigns o ⟨(c :: r).toArray⟩) (hx : r.length ≤ 1000)
    (h : ∀ h' news' o' t, Fr h₀ L h' m → News h₀ L h' news' → (a, o') ∈ news' → Keep a news news' → IsSigns o' ⟨r.toArray⟩ → Q (.str ⟨#[c]⟩ t) { s with heap := h' }) :
    wpAny (model prog w) A (call (.builtin "list.pop") [.ref a, .int 0 u]) Q E s := by
  obtain ⟨vs, n, rfl, hi⟩ := hs
  have e1 := hi.length
  rw [signs_length] at e1
  obtain ⟨t, vs', rfl, hr⟩ := StrsAre.cons_inv (x := ⟨#[c]⟩) (xs := signs ⟨r.toArray⟩) (by simpa [signs] using hi)
  have z := N _ hm
  have e2 := hr.length
  rw [signs_length] at e2
  have e3 : vs'.length = r.length := e2
  obtain ⟨n', hn'⟩ := update_list (its' := vs'.toArray) (fun x => x.eraseIdxIfInBounds 0) z.1 (kl_erase [] vs' _)
  obtain ⟨news', F', N', m', K'⟩ := chg F N hm (Heap.SameBut.update ..) hn'
  refine call_meets PySem.F.slot_list_pop ⟨_, z.1, rfl⟩ PySem.F.entry_list_pop (PySem.F.args_list_pop_2 _ _) (PySem.MeetsSeq.list_pop_at a _ n 0 u 0 (.str ⟨#[c]⟩ t) (by decide) ?_ rfl ?_) ⟨z.1, h _ news' _ t F' N' m' K' ⟨_, n', rfl, hr⟩⟩
  · simp [seqIndex?]
  · rw [sizeLine_eq]; simp only [List.size_toArray, List.length_cons]; omega
theorem push_signs {c : Nat} {t : Tok} (F : Fr h₀ L s.heap m) (N : News h₀ L s.heap news) (hm : (a, o) ∈ news) (hs : IsSigns o x) (hx : x.length ≤ 1000)
    (h : ∀ h' news' o', Fr h₀ L h' m → News h₀ L h' news' → (a, o') ∈ news' → Keep a news news' → IsSigns o' (x ++ ⟨#[c]⟩) → Q .none { s with heap := h' }) :
    wpAny (model prog w) A (call (.builtin "list.append") [.ref a, .str ⟨#[c]⟩ t]) Q E s := by
  obtain ⟨vs, n, rfl, hi⟩ := hs
  have e1 := hi.length
  rw [signs_length] at e1
  refine appendL F N hm (by simp only [List.size_toArray]; omega) fun h' news' n' F' N' m' K' => h h' news' _ F' N' m' K' ⟨vs ++ [.str ⟨#[c]⟩ t], n', by simp, ?_⟩
  rw [signs_app]
  exact hi.append' (.cons _ _ .nil)
end

end
/-! T2 -/
local macro_rules | `(tactic| walk_at "call type:list") => `(tactic| (k_here; (with_reducible show wpAny _ _ (call (Value.type "list") [Value.ref _]) _ _ _); k_dflt (refine copy_signs (by k_asm) (by k_asm) (by k_mem) (by assumption) (by assumption) ?_; ); intro D' h' o' F' N' l1 q'; (try k_lt l1)))
local macro_rules | `(tactic| walk_at "call type:list") => `(tactic| (k_here; (with_reducible show wpAny _ _ (call (Value.type "list") [Value.str _ _]) _ _ _); k_dflt (refine list_signs (by rfl) (by k_asm) (by k_asm) (by assumption) ?_; ); intro D' h' tk' o' F' N' l1 q'; (try k_lt l1)))
local macro_rules | `(tactic| walk_at "call builtin:len") => `(tactic| (k_here; (with_reducible show wpAny _ _ (call (Value.builtin "len") [Value.ref _]) _ _ _); k_dflt (refine len_signs (by k_asm) (by k_mem) (by assumption) (by assumption) ?_; ); intro tk' t'))
section
open PyProof.V
theorem all_lt {d : Addr} {l : List (Addr × Obj)} (h : AllLt d l) : ∀ p ∈ l, p.1 < d := by
  induction l with
  | nil => intro p hp; cases hp
  | cons q r ih =>
    intro p hp
    rcases List.mem_cons.mp hp with e | hp
    · rw [e]; exact h.1
    · exact ih h.2 p hp
end
local macro_rules | `(tactic| walk_at "mine lt") => `(tactic| first | assumption | (refine all_lt ?_; first | assumption | exact (‹_ ∧ AllLt _ _›).2 | exact (‹_ ∧ _ ∧ AllLt _ _›).2.2 | exact (‹_ ∧ _ ∧ _ ∧ AllLt _ _›).2.2.2 | exact (‹_ ∧ _ ∧ _ ∧ _ ∧ AllLt _ _›).2.2.2.2 | exact (‹_ ∧ _ ∧ _ ∧ _ ∧ _ ∧ AllLt _ _›).2.2.2.2.2 | exact (‹_ ∧ _ ∧ _ ∧ _ ∧ _ ∧ _ ∧ AllLt _ _›).2.2.2.2.2.2 | exact (‹_ ∧ _ ∧ _ ∧ _ ∧ _ ∧ _ ∧ _ ∧ AllLt _ _›).2.2.2.2.2.2.2 | exact (‹_ ∧ _ ∧ _ ∧ _ ∧ _ ∧ _ ∧ _ ∧ _ ∧ AllLt _ _›).2.2.2.2.2.2.2.2 | exact (‹_ ∧ _ ∧ _ ∧ _ ∧ _ ∧ _ ∧ _ ∧ _ ∧ _ ∧ AllLt _ _›).2.2.2.2.2.2.2.2.2 | exact (‹_ ∧ _ ∧ _ ∧ _ ∧ _ ∧ _ ∧ _ ∧ _ ∧ _ ∧ _ ∧ AllLt _ _›).2.2.2.2.2.2.2.2.2.2))
section
open PyProof.V
theorem TRep.new {w : World} {news : List (Addr × Obj)} {t : TL} {σ : St} {left : Int → Str} {b : Addr} (H : TRep w news t σ left) (l : ∀ p ∈ news, p.1 < b) : ∀ a ∈ t.all σ, a ≠ b := fun a ha => by
  obtain ⟨o, ho⟩ := H.mem_all ha
  exact Nat.ne_of_lt (l _ ho)
section
variable {w : World} {news n1 n2 n3 : List (Addr × Obj)} {t : TL} {σ : St} {left : Int → Str} {b d a D : Addr} {ob od o3 : Obj} {nm x : Str} {k : Int} {c : Ch}
theorem addFile_all (h : a ∈ TL.all { t with fl := fun y => if y = nm then b else t.fl y } { σ with files := sset σ.files nm x }) : a ∈ t.all σ ∨ a = b := by
  rcases all_cases h with rfl | rfl | rfl | ⟨f, hf, rfl⟩ | ⟨f, hf, rfl⟩ | ⟨f, hf, rfl⟩
  · exact .inl in_td
  · exact .inl in_tf
  · exact .inl in_to
  · rcases mem_sset hf with rfl | ⟨hf, hn⟩
    · simp
    · simp only [if_neg hn]; exact .inl (in_fl hf)
  · exact .inl (in_sp hf)
  · exact .inl (in_lf hf)
theorem newSpot_all (h : a ∈ TL.all { t with sp := fun i => if i = k then b else t.sp i, lf := fun i => if i = k then d else t.lf i } { σ with chans := sset σ.chans k c }) : a ∈ t.all σ ∨ a = b ∨ a = d := by
  rcases all_cases h with rfl | rfl | rfl | ⟨f, hf, rfl⟩ | ⟨f, hf, rfl⟩ | ⟨f, hf, rfl⟩
  · exact .inl in_td
  · exact .inl in_tf
  · exact .inl in_to
  · exact .inl (in_fl hf)
  · rcases mem_sset hf with rfl | ⟨hf, hn⟩
    · simp
    · simp only [if_neg hn]; exact .inl (in_sp hf)
  · rcases mem_sset hf with rfl | ⟨hf, hn⟩
    · simp
    · simp only [if_neg hn]; exact .inl (in_lf hf)
theorem lt_keep {o : Obj} (c : ∀ p ∈ news, p ∈ n1) (K : Keep D n1 n2) (m : (D, o) ∈ n2) (l : ∀ p ∈ n2, p.1 < b) : ∀ p ∈ news, p.1 < b := fun p hp => by
  by_cases q : p.1 = D
  · rw [q]; exact l _ m
  · exact l p (K p (c p hp) q)
theorem cells_keep {L' wf : Addr} {o1 o2 oF : Obj} (l : ∀ p ∈ news, p.1 < L') (h : (wf, oF) ∈ news) (K : Keep wf n1 n2) (c1 : (L' + 1 + 1, o1) ∈ n1) (c2 : (L' + 1, o2) ∈ n1) : (L' + 1 + 1, o1) ∈ n2 ∧ (L' + 1, o2) ∈ n2 := by
  have q : wf < L' := l _ h
  exact ⟨K.mem c1 (Nat.ne_of_gt (Nat.lt_of_lt_of_le q (Nat.le_add_right L' 2))), K.mem c2 (Nat.ne_of_gt (Nat.lt_of_lt_of_le q (Nat.le_add_right L' 1)))⟩
end
theorem setD_at {prog : Program} {w : World} {A : Around} {E : Value → Shared → Prop} {s : Shared} {h₀ : Heap} {L D b₀ : Addr} {m : Str → Option Value} {news : List (Addr × Obj)} {K : Type} [DecidableEq K] {knd : KeyKind prog w K} {o : Obj} {kvs : List (K × Value)} {k : K} {key : Value} {Q : Unit → Shared → Prop}
    (F : Fr h₀ L s.heap m) (N : News h₀ L s.heap news) (hm : (D, o) ∈ news) (hd : o.IsDictOf knd kvs) (hkey : knd.is k key = true) (hsz : kvs.length ≤ 1000)
    (h : ∀ b h' news' o', b = b₀ → Fr h₀ L h' m → News h₀ L h' news' → (D, o') ∈ news' → Keep D news news' → o'.IsDictOf knd (stored kvs k (.ref b₀)) → Q () { s with heap := h', toks := s.toks + 1 }) : wpAny (model prog w) A (setItem (.ref D) key (.ref b₀)) Q E s :=
  setD F N hm hd hkey hsz fun h' n' o' a b c d => h b₀ h' n' o' rfl a b c d
section
variable {w : World} {news n0 n1 n2 n3 : List (Addr × Obj)} {t : TL} {σ : St} {left : Int → Str} {b d f0 D : Addr} {ob od o3 o1 : Obj} {nm x y : Str} {k : Int} {c : Ch}
theorem spot_fin (H : TRep w n1 t σ left) (c1 : ∀ p ∈ n1, p ∈ n2) (hv : vat σ.chans k = none) (lb : ∀ p ∈ n1, p.1 < b) (hlb : (b == sysModules) = false) (hbm : (b, ob) ∈ n2) (hs : IsSpot w ob c d) (ld : ∀ p ∈ n1, p.1 < d) (hdm : (d, od) ∈ n2) (hsd : IsSigns od x) (hbd : b ≠ d)
    (K : Keep t.to n2 n3) (hm : (t.to, o3) ∈ n3) (he : o3.IsDictOf (intKind PG w) (stored (σ.chans.map fun c => (c.1, .ref (t.sp c.1))) k (.ref b))) :
    TRep w n3 { t with sp := fun i => if i = k then b else t.sp i, lf := fun i => if i = k then d else t.lf i } { σ with chans := sset σ.chans k c } (fun i => if i = k then x else left i) :=
  TRep.newSpot (H.up c1) hv (H.new lb) hlb hbm hs (H.new ld) hdm hsd hbd K hm he
end
def TRet (w : World) (h₀ : Heap) (L : Addr) (m : Str → Option Value) (news : List (Addr × Obj)) (t : TL) (σ σ' : St) (left' : Int → Str) (s : Shared) (P : Shared → Prop) : Prop :=
  ∀ h' tk' news' t', Fr h₀ L h' m → News h₀ L h' news' → TRep w news' t' σ' left' → (∀ p ∈ news, p.1 ∉ t.all σ → p ∈ news') → (∀ a ∈ t'.all σ', a ∈ t.all σ ∨ ∀ p ∈ news, p.1 < a) → t'.td = t.td → P { s with heap := h', toks := tk' }
def elseT (σ : St) (mode nm : Str) : Bool := σ.chans.any fun c => c.2.name == nm && (mode != "I" || c.2.mode != "I")
structure OpenT (w : World) (news : List (Addr × Obj)) (t : TL) (σ : St) (left : Int → Str) (mode nm : Str) (n' : List (Addr × Obj)) (t' : TL) (σ' : St) (x : Str) : Prop where
  rep : TRep w n' t' σ' left
  hf : vat σ'.files nm = some x
  hx : x.length ≤ 1000
  ch : σ'.chans = σ.chans
  td : t'.td = t.td
  to : t'.to = t.to
  keep : ∀ p ∈ news, p.1 ∉ t.all σ → p ∈ n'
  at_ : ∀ p ∈ news, ∃ o, (p.1, o) ∈ n'
  all : ∀ a ∈ t'.all σ', a ∈ t.all σ ∨ ∀ p ∈ news, p.1 < a
  which : (σ' = σ ∧ mode ≠ "O") ∨ (σ' = { σ with files := sset σ.files nm "" } ∧ x = "" ∧ (mode = "O" ∨ (mode = "A" ∧ vat σ.files nm = none)))
theorem OpenT.fin {w : World} {news n' n2 n3 : List (Addr × Obj)} {t t' : TL} {σ σ' : St} {left : Int → Str} {mode nm x : Str} {k : Int} {b d : Addr} {c : Ch} {left' : Int → Str} (O : OpenT w news t σ left mode nm n' t' σ' x) (_ : TRep w n3 { t' with sp := fun i => if i = k then b else t'.sp i, lf := fun i => if i = k then d else t'.lf i } { σ' with chans := sset σ'.chans k c } left') (c1 : ∀ p ∈ n', p ∈ n2) (K : Keep t'.to n2 n3) (lb : ∀ p ∈ n', p.1 < b) (ld : ∀ p ∈ n', p.1 < d) : (∀ p ∈ news, p.1 ∉ t.all σ → p ∈ n3) ∧
    ∀ a ∈ TL.all { t' with sp := fun i => if i = k then b else t'.sp i, lf := fun i => if i = k then d else t'.lf i } { σ' with chans := sset σ'.chans k c }, a ∈ t.all σ ∨ ∀ p ∈ news, p.1 < a :=
  ⟨fun p hp hn => K p (c1 p (O.keep p hp hn)) fun q => hn (by rw [q, O.to]; exact in_to), fun a ha => by
    rcases newSpot_all ha with h | rfl | rfl
    · exact O.all a h
    · exact .inr fun p hp => by obtain ⟨o, ho⟩ := O.at_ p hp; have q := lb _ ho; exact q
    · exact .inr fun p hp => by obtain ⟨o, ho⟩ := O.at_ p hp; have q := ld _ ho; exact q⟩
theorem opened_last {w : World} {h₀ : Heap} {L : Addr} {m : Str → Option Value} {news : List (Addr × Obj)} {t : TL} {σ σ' : St} {left : Int → Str} {s : Shared} {P : Shared → Prop} {mode nm x : Str} {k : Int} (hm : mode = "O" ∨ mode = "I" ∨ mode = "A") (hf : vat σ'.files nm = some x)
    (retI : mode = "I" → ∀ x, vat σ.files nm = some x → TRet w h₀ L m news t σ { σ with chans := sset σ.chans k ⟨"I", nm, 0⟩ } (fun i => if i = k then x else left i) s P)
    (retA : mode = "A" → ∀ x, vat σ.files nm = some x → TRet w h₀ L m news t σ { σ with chans := sset σ.chans k ⟨"A", nm, x.length⟩ } (fun i => if i = k then x else left i) s P)
    (retO : mode = "O" → TRet w h₀ L m news t σ { files := sset σ.files nm "", chans := sset σ.chans k ⟨"O", nm, 0⟩ } (fun i => if i = k then "" else left i) s P)
    (retAn : mode = "A" → vat σ.files nm = none → TRet w h₀ L m news t σ { files := sset σ.files nm "", chans := sset σ.chans k ⟨"A", nm, ("" : Str).length⟩ } (fun i => if i = k then "" else left i) s P)
    (which : (σ' = σ ∧ mode ≠ "O") ∨ (σ' = { σ with files := sset σ.files nm "" } ∧ x = "" ∧ (mode = "O" ∨ (mode = "A" ∧ vat σ.files nm = none)))) :
    TRet w h₀ L m news t σ { σ' with chans := sset σ'.chans k ⟨mode, nm, if mode = "A" then x.length else 0⟩ } (fun i => if i = k then x else left i) s P := by
  rcases which with ⟨rfl, hO⟩ | ⟨rfl, rfl, rfl | ⟨rfl, hn⟩⟩
  · rcases hm with rfl | rfl | rfl
    · exact absurd rfl hO
    · exact retI rfl x hf
    · exact retA rfl x hf
  · exact retO rfl
  · exact retAn rfl hn
theorem OpenT.old {w : World} {news n' : List (Addr × Obj)} {t : TL} {σ : St} {left : Int → Str} {mode nm x : Str} (H : TRep w n' t σ left) (hf : vat σ.files nm = some x) (hx : x.length ≤ 1000) (hO : mode ≠ "O") (c : ∀ p ∈ news, p ∈ n') : OpenT w news t σ left mode nm n' t σ x :=
  ⟨H, hf, hx, rfl, rfl, rfl, fun p hp _ => c p hp, fun p hp => ⟨_, c p hp⟩, fun _ h => .inl h, .inl ⟨rfl, hO⟩⟩
theorem OpenT.new {w : World} {news n1 : List (Addr × Obj)} {t : TL} {σ : St} {left : Int → Str} {mode nm : Str} {l0 : Addr} {o1 : Obj} (H : TRep w n1 { t with fl := fun y => if y = nm then l0 else t.fl y } { σ with files := sset σ.files nm "" } left) (hfn : (σ.files.map (·.1)).Nodup)
    (u0 : ∀ p ∈ news, p.1 < l0) (m1 : (t.tf, o1) ∈ n1) (c : ∀ p ∈ news, p.1 ≠ t.tf → p ∈ n1) (hO : mode = "O" ∨ (mode = "A" ∧ vat σ.files nm = none)) : OpenT w news t σ left mode nm n1 { t with fl := fun y => if y = nm then l0 else t.fl y } { σ with files := sset σ.files nm "" } "" :=
  ⟨H, vat_sset_same hfn, by decide, rfl, rfl, rfl, fun p hp hn => c p hp fun q => hn (q ▸ in_tf), fun p hp => by
    by_cases q : p.1 = t.tf
    · exact ⟨o1, by rw [q]; exact m1⟩
    · exact ⟨_, c p hp q⟩, fun a ha => by
    rcases addFile_all ha with h | rfl
    · exact .inl h
    · exact .inr u0, .inr ⟨rfl, rfl, hO⟩⟩
section
local macro_rules | `(tactic| walk_at "exec If BoolOp") => `(tactic| (k_here; with_reducible refine here_if ?_))
local macro_rules | `(tactic| walk_at "eval IfExp") => `(tactic| (k_here; with_reducible refine here_ifexp ?_))
set_option maxRecDepth 100000 in
set_option maxHeartbeats 8000000 in
theorem opened_go {w : World} {dp un : Nat} {gd : Option (List Code)} {cn : Str} {cs : Scope} {a : Addr} {ccd : Value} {cl : List (Str × Addr)} {outer : List Env} {A₀ : Around} {base h₀ : Heap} {L : Addr} {m mg mb : Str → Option Value}
    {news : List (Addr × Obj)} {s : Shared} {Q E : Value → Shared → Prop} {loose : List Str} {mean : ExcName → Option Value}
    (B : Below A₀ base outer h₀) (F : Fr h₀ L s.heap m) (N : News h₀ L s.heap news) (XB : (hd.heap_1 w.params).In base) (TB : Top topProg loose mean mg mb base) (hk : cs.kind = .function) (hdp : dp + 12 < recursionLimit) (hu : un + 120 < cLine)
    {t : TL} {σ : St} {left : Int → Str} (H : TRep w news t σ left) (hkn : (σ.chans.map (·.1)).Nodup) (hfn : (σ.files.map (·.1)).Nodup) {k : Int} {tk tm tn : Tok} {mode nm : Str} (hm : mode = "O" ∨ mode = "I" ∨ mode = "A") (hcl : σ.chans.length ≤ 100) (hfl : σ.files.length ≤ 100)
    (hsz : ∀ f ∈ σ.files, f.2.length ≤ 1000)
    (full : (∃ c, vat σ.chans k = some c) → ∀ tr h' tk' news', Fr h₀ L h' m → News h₀ L h' news' → (∀ p ∈ news, p ∈ news') → Q (.str "refused AO" tr) { s with heap := h', toks := tk' })
    (busy : vat σ.chans k = none → elseT σ mode nm = true → ∀ tr h' tk' news', Fr h₀ L h' m → News h₀ L h' news' → (∀ p ∈ news, p ∈ news') → Q (.str "refused AO" tr) { s with heap := h', toks := tk' }) 
    (ff : vat σ.chans k = none → elseT σ mode nm = false → mode = "I" → vat σ.files nm = none → ∀ tr h' tk' news', Fr h₀ L h' m → News h₀ L h' news' → (∀ p ∈ news, p ∈ news') → Q (.str "refused FF" tr) { s with heap := h', toks := tk' }) 
    (retI : vat σ.chans k = none → elseT σ mode nm = false → mode = "I" → ∀ x, vat σ.files nm = some x → TRet w h₀ L m news t σ { σ with chans := sset σ.chans k ⟨"I", nm, 0⟩ } (fun i => if i = k then x else left i) s (Q .none))
    (retA : vat σ.chans k = none → elseT σ mode nm = false → mode = "A" → ∀ x, vat σ.files nm = some x → TRet w h₀ L m news t σ { σ with chans := sset σ.chans k ⟨"A", nm, x.length⟩ } (fun i => if i = k then x else left i) s (Q .none))
    (retO : vat σ.chans k = none → elseT σ mode nm = false → mode = "O" → TRet w h₀ L m news t σ { files := sset σ.files nm "", chans := sset σ.chans k ⟨"O", nm, 0⟩ } (fun i => if i = k then "" else left i) s (Q .none))
    (retAn : vat σ.chans k = none → elseT σ mode nm = false → mode = "A" → vat σ.files nm = none → TRet w h₀ L m news t σ { files := sset σ.files nm "", chans := sset σ.chans k ⟨"A", nm, ("" : Str).length⟩ } (fun i => if i = k then "" else left i) s (Q .none)) :
    wpAny (model PySem.Challenge.rw_pq0172_01.row.prog w) (ktrTop dp un gd cn cs L a ccd cl outer) (call (.ref 184) [.ref t.td, .str mode tm, .int k tk, .str nm tn]) Q E s := by
  revert XB; k_fill; intro XB
  have X := XB.keeps B.stays
  have T := TB.keeps B.stays
  refine H.goDict fun oT j1 e1 => ?_; refine H.goFiles fun oG j2 e2 => ?_; refine H.goOpens fun oP j3 e3 => ?_; have y1 := H.low _ dd_td; have y2 := H.low _ dd_tf; have y3 := H.low _ dd_to
  refine wpAny_call ?_
  k_dflt (walk_at "mine enterC")
  walk_at "mine fold"
  cases hv : vat σ.chans k with
  | some c =>
    have b1 := spot_some' (t := t) hv
    k_steps
    refine unhere (wpAny_If ?_)
    k_steps
    exact full ⟨c, hv⟩ _ _ _ _ (by k_asm) (by k_asm) (by intro p hp; simp [hp])
  | none =>
    have b1 := spot_none (t := t) hv
    have busy := busy hv; have ff := ff hv; have retI := retI hv; have retA := retA hv; have retO := retO hv; have retAn := retAn hv
    k_steps
    refine unhere (wpAny_If ?_)
    k_steps
    refine ex4 _ _ _ _ ⟨Src.values (knd := PySem.intKind PG w) rfl (by k_asm) (by k_asm) (by k_mem) (by k_mem) e3 (by rw [sizeLine_eq]; simp; omega), ?_⟩
    rintro s₂ ⟨hs2, rfl⟩
    refine restT_same (fun i ys => ∃ ns, IntsAre ys ns ∧ ((σ.chans.take i).any fun c => c.2.name == nm && (mode != "I" || c.2.mode != "I")) = decide (ns ≠ [])) ⟨[], .nil, rfl⟩ ?_ ?_
    · rintro ys ⟨ns, hi, hy⟩ D h4 tk4 F4 N4 off4
      rw [show (σ.chans.map fun c => (c.1, Value.ref (t.sp c.1))).length = σ.chans.length from List.length_map .., List.take_length] at hy
      k_steps
      · have he : elseT σ mode nm = false := hy.trans (dec_ne ‹decide (ns = []) = true›)
        refine unhere (cutT (C := mode = "I" → ∃ x, vat σ.files nm = some x) ?_ ?_)
        · refine wpAny_If ?_
          cases hf : vat σ.files nm with
          | none =>
            have b5 := text_none (t := t) hf
            k_steps
            · exact ff he (eq_of_beq ‹(mode == Str.ofString "I") = true›) hf _ _ _ _ (by k_asm) (by k_asm) (by intro p hp; simp [hp])
            · exact CutT.mk fun q => absurd (beq_iff_eq.mpr q) (by rw [‹(mode == Str.ofString "I") = false›]; decide)
          | some x =>
            have b5 := text_some (t := t) hf
            have b6 := text_some' (t := t) hf
            k_steps
            all_goals exact CutT.mk fun _ => ⟨_, rfl⟩
        intro hC tk5
        k_steps
        refine unhere (cutF t.tf (fun n' => ∃ t' σ' x, OpenT w news t σ left mode nm n' t' σ' x) (by k_asm) (by k_asm) ?_ ?_)
        · refine wpAny_If (cutB (C := fun b => (b = true ∧ (mode = "O" ∨ (mode = "A" ∧ vat σ.files nm = none))) ∨ (b = false ∧ mode ≠ "O" ∧ ∃ x, vat σ.files nm = some x)) ?_ ?_)
          · cases hf : vat σ.files nm with
            | none =>
              have b5 := text_none (t := t) hf
              k_steps
              · exact CutT.mk (.inl ⟨rfl, .inl (eq_of_beq ‹(mode == Str.ofString "O") = true›)⟩)
              · refine CutT.mk (.inl ⟨rfl, .inr ⟨?_, rfl⟩⟩)
                exact only_A hm hC hf ‹(mode == Str.ofString "O") = false›
            | some x =>
              have b5 := text_some (t := t) hf
              have b6 := text_some' (t := t) hf
              k_steps
              · exact CutT.mk (.inl ⟨rfl, .inl (eq_of_beq ‹(mode == Str.ofString "O") = true›)⟩)
              · exact CutT.mk (.inr ⟨rfl, ne_of_beq_false ‹(mode == Str.ofString "O") = false›, x, rfl⟩)
          rintro b hb tk6
          rcases hb with ⟨rfl, hO⟩ | ⟨rfl, hO, x, hf⟩
          · k_steps
            k_dflt (refine setD_at (knd := PySem.strKind PG w) (by k_asm) (by k_asm) (by k_mem) e2 (strKind_is _ _ _ _) (by simp <;> omega) ?_)
            rintro l0 h1 n1 o1 rfl F1 N1 m1 K1 q1
            have A1 := H.new (b := l0) (by walk_at "mine lt")
            have H1 := TRep.addFile (x := "") (H.up (by intro p hp; simp [hp])) A1 (.head _) ⟨[], 0, rfl, .nil⟩ K1 m1 q1
            have u0 : ∀ p ∈ news, p.1 < l0 := by walk_at "mine lt"
            k_steps
            exact ⟨_, _, n1, rfl, by k_asm, by k_asm, fun p hp hn => K1 p (.tail _ hp) hn, _, _, "", OpenT.new H1 hfn u0 m1 (fun p hp hn => K1 p (by simp [hp]) hn) hO⟩
          · k_steps
            exact ⟨_, _, _, rfl, by k_asm, by k_asm, fun p hp _ => hp, _, _, x, OpenT.old (H.up (by intro p hp; simp [hp])) hf (hsz _ (vat_mem hf)) hO (by intro p hp; simp [hp])⟩
        rintro h7 tk7 n7 F7 N7 K7 ⟨t', σ', x, O⟩
        obtain ⟨c1, c2⟩ := cells_keep (by assumption) j2 K7 (by walk_at "mine mem") (by walk_at "mine mem")
        have hv' := vat_chans O.ch hv
        have hcl' : σ'.chans.length ≤ 100 := by rw [O.ch]; exact hcl
        have hx := O.hx
        have b5 := text_some (t := t') O.hf
        have b6 := text_some' (t := t') O.hf
        have H1 := O.rep
        refine H1.goDict fun oT j1 e1 => ?_; refine H1.goFiles fun oG j2 e2 => ?_; refine H1.goOpens fun oP j3 e3 => ?_; have y1 := H1.low _ dd_td; have y2 := H1.low _ dd_tf; have y3 := H1.low _ dd_to
        refine H1.goTexts _ (vat_mem O.hf) fun oF j5 e5 => ?_
        rw [O.td] at j1
        dsimp only at j5 e5
        k_steps
        refine unhere (cutV (C := fun v => ∃ tr, v = .int ((if mode = "A" then x.length else 0 : Nat) : Int) tr) ?_ ?_)
        · refine wpAny_IfExp ?_
          k_steps
          · exact CutT.mk ⟨_, by rw [if_pos (eq_of_beq ‹(mode == Str.ofString "A") = true›)]⟩
          · exact CutT.mk ⟨_, by rw [if_neg (ne_of_beq_false ‹(mode == Str.ofString "A") = false›)]; rfl⟩
        rintro v ⟨tr, rfl⟩ tk8
        k_steps
        k_dflt (refine setD_at (knd := PySem.intKind PG w) (by k_asm) (by k_asm) (by k_mem) e3 (intKind_is _ _ _ _) (by simp <;> omega) ?_)
        rintro b0 h3 n3 o3 rfl F3 N3 m3 K3 q3
        have hdx := ‹Obj.IsDictOf (PySem.strKind _ _) _ (strPairs _)›
        dsimp only [strPairs] at hdx
        have H3 := spot_fin (c := ⟨mode, nm, if mode = "A" then x.length else 0⟩) H1 (by intro p hp; simp [hp]) hv' (by walk_at "mine lt") (by assumption) (by walk_at "mine mem") ⟨_, _, _, hdx⟩ (by walk_at "mine lt") (by walk_at "mine mem") (by assumption) (Nat.ne_of_lt (by omega)) K3 m3 q3
        k_steps
        obtain ⟨f1, f2⟩ := O.fin H3 (by intro p hp; simp [hp]) K3 (by walk_at "mine lt") (by walk_at "mine lt")
        exact opened_last hm O.hf (retI he) (retA he) (retO he) (retAn he) O.which _ _ n3 _ (by k_asm) (by k_asm) H3 f1 f2 O.td
      · exact busy (hy.trans (dec_ne' ‹decide (ns = []) = false›)) _ _ _ _ (by k_asm) (by k_asm) (by intro p hp; simp [hp])
    · rintro i ys v I oI C oC D m2 h3 tk3 E' hi' ⟨ns, hi, hy⟩ ⟨k', hk⟩ hC hx F3 N3 off ne
      obtain ⟨c, hc, rfl⟩ := map_at (f := fun c => Value.ref (t.sp c.1)) hk
      refine H.goSpots _ (List.mem_of_getElem? hc) fun oS j4 t1 t2 t3 d4 => ?_
      have y4 := H.low _ (dd_sp (List.mem_of_getElem? hc))
      k_steps
      · exact LCg.CompEnd.intro (by k_asm) (by k_asm) _ (fun p hp => hp) off (by simp [j3]) ⟨rfl, _, ints_snoc hi _ _, any_snoc hy hc true (by simp [*]) _ (by simp)⟩
      · exact LCg.CompEnd.intro (by k_asm) (by k_asm) _ (fun p hp => hp) off (by simp [j3]) ⟨rfl, _, ints_snoc hi _ _, any_snoc hy hc true (by simp [*]) _ (by simp)⟩
      all_goals exact LCg.CompEnd.intro (by k_asm) (by k_asm) _ (fun p hp => hp) off (by simp [j3]) ⟨rfl, _, hi, any_snoc hy hc false (by simp [*]) _ (by simp)⟩
end

end
/-! T3 -/
section
open PyProof.V
theorem gone_ne {w : World} {news : List (Addr × Obj)} {t : TL} {σ : St} {left : Int → Str} {nm x : Str} (H : TRep w news t σ left) (hf : vat σ.files nm = some x) : ∀ a ∈ t.all { σ with files := sdel σ.files nm }, a ≠ t.fl nm := fun a ha => by
  have A := H.apart
  have hm := vat_mem hf
  rcases all_cases ha with rfl | rfl | rfl | ⟨f, hf', rfl⟩ | ⟨c, hc, rfl⟩ | ⟨c, hc, rfl⟩
  · exact (A.f _ hm).1.symm
  · exact (A.f _ hm).2.1.symm
  · exact (A.f _ hm).2.2.symm
  · exact A.ff f (mem_sdel hf').1 _ hm (mem_sdel hf').2
  · exact ((A.fc _ hm c hc).1).symm
  · exact ((A.fc _ hm c hc).2).symm
set_option maxRecDepth 100000 in
set_option maxHeartbeats 8000000 in
theorem put_go {w : World} {dp un : Nat} {gd : Option (List Code)} {cn : Str} {cs : Scope} {a : Addr} {ccd : Value} {cl : List (Str × Addr)} {outer : List Env} {A₀ : Around} {base h₀ : Heap} {L : Addr} {m mg mb : Str → Option Value}
    {news : List (Addr × Obj)} {s : Shared} {Q E : Value → Shared → Prop} {loose : List Str} {mean : ExcName → Option Value}
    (B : Below A₀ base outer h₀) (F : Fr h₀ L s.heap m) (N : News h₀ L s.heap news) (XB : (hd.heap_1 w.params).In base) (TB : Top topProg loose mean mg mb base) (hk : cs.kind = .function) (hdp : dp + 12 < recursionLimit) (hu : un + 120 < cLine)
    {t : TL} {σ : St} {left : Int → Str} (H : TRep w news t σ left) {k : Int} {tk ty : Tok} {y : Str} (hy : y.length ≤ 1000)
    (none_ : vat σ.chans k = none → ∀ tr h' tk' news', Fr h₀ L h' m → News h₀ L h' news' → (∀ p ∈ news, p ∈ news') → Q (.str "refused BN" tr) { s with heap := h', toks := tk' })
    (bad : ∀ c, vat σ.chans k = some c → (c.mode == "I") = true → ∀ tr h' tk' news', Fr h₀ L h' m → News h₀ L h' news' → (∀ p ∈ news, p ∈ news') → Q (.str "refused BM" tr) { s with heap := h', toks := tk' })
    (ok : ∀ c, vat σ.chans k = some c → (c.mode == "I") = false → ∃ x, vat σ.files c.name = some x ∧ x.length ≤ 1000 ∧ TRet w h₀ L m news t σ { files := sset σ.files c.name (x ++ y), chans := sset σ.chans k { c with at_ := c.at_ + y.length } } left s (Q .none)) :
    wpAny (model PySem.Challenge.rw_pq0172_01.row.prog w) (ktrTop dp un gd cn cs L a ccd cl outer) (call (.ref 191) [.ref t.td, .int k tk, .str y ty]) Q E s := by
  revert XB; k_fill; intro XB
  have X := XB.keeps B.stays
  have T := TB.keeps B.stays
  refine H.goDict fun oT j1 e1 => ?_; refine H.goFiles fun oG j2 e2 => ?_; refine H.goOpens fun oP j3 e3 => ?_; have y1 := H.low _ dd_td; have y2 := H.low _ dd_tf; have y3 := H.low _ dd_to
  refine wpAny_call ?_
  k_dflt ktr_enter
  walk_at "mine fold"
  cases hv : vat σ.chans k with
  | none =>
    have b1 := spot_none (t := t) hv
    k_steps
    exact none_ hv _ _ _ _ (by k_asm) (by k_asm) (by intro p hp; simp [hp])
  | some c =>
    have b1 := spot_some' (t := t) hv
    have b2 := spot_some (t := t) hv
    refine H.goSpots _ (vat_mem hv) fun oS j4 t1 t2 t3 d4 => ?_
    have y4 := H.low _ (dd_sp (vat_mem hv))
    cases hm : c.mode == "I" with
    | true =>
      k_steps
      exact bad c hv hm _ _ _ _ (by k_asm) (by k_asm) (by intro p hp; simp [hp])
    | false =>
      obtain ⟨x, hf, hx, ret⟩ := ok c hv hm
      obtain ⟨oF, j5, vs, n5, rfl, e5⟩ := H.texts _ (vat_mem hf)
      have i5 : IsSigns (listOf vs.toArray n5) x := ⟨vs, n5, rfl, e5⟩
      have b5 := text_some (t := t) hf
      dsimp only at j4 d4 y4 j5
      k_steps
      k_dflt (refine extend_signs (by k_asm) (by k_asm) (by k_mem) i5 (by walk_at "mine mem") (by assumption) hx hy ?_)
      intro h1 n1 o1 F1 N1 m1 K1 q1
      have H1 := TRep.setText (H.up (fun _ h => .tail _ h)) hf K1 m1 q1
      refine H1.goDict fun oT j1 e1 => ?_; refine H1.goFiles fun oG j2 e2 => ?_; refine H1.goOpens fun oP j3 e3 => ?_; have y1 := H1.low _ dd_td; have y2 := H1.low _ dd_tf; have y3 := H1.low _ dd_to
      refine H1.goSpots _ (vat_mem hv) fun oS j4 t1 t2 t3 d4 => ?_
      dsimp only at j1 j2 j3 e1 e2 e3 j4 d4
      k_steps
      k_dflt (refine setD (knd := strKind PG w) (by k_asm) (by k_asm) (by k_mem) d4 (strKind_is _ _ _ _) (by simp <;> omega) ?_)
      intro h2 n2 o2 F2 N2 m2 K2 q2
      have H2 := TRep.setSpot (c' := { c with at_ := c.at_ + y.length }) H1 hv K2 m2 ⟨_, _, _, q2⟩
      k_steps
      exact ret _ _ n2 t (by k_asm) (by k_asm) H2 (fun p hp hn => K2 p (K1 p (.tail _ hp) fun q => hn (q ▸ in_fl (vat_mem hf))) fun q => hn (q ▸ in_sp (vat_mem hv))) (fun a ha => .inl (Eq.mp (congrArg (a ∈ ·) ((tall_chans (t := t) (σ := { σ with files := sset σ.files c.name (x ++ y) }) (c := { c with at_ := c.at_ + y.length }) (vat_some_key hv)).trans (tall_files (vat_some_key hf)))) ha)) rfl
section
local macro_rules | `(tactic| walk_at "exec If BoolOp") => `(tactic| (k_here; with_reducible refine here_if ?_))
set_option maxRecDepth 100000 in
set_option maxHeartbeats 8000000 in
theorem named_go {w : World} {dp un : Nat} {gd : Option (List Code)} {cn : Str} {cs : Scope} {a : Addr} {ccd : Value} {cl : List (Str × Addr)} {outer : List Env} {A₀ : Around} {base h₀ : Heap} {L : Addr} {m mg mb : Str → Option Value}
    {news : List (Addr × Obj)} {s : Shared} {Q E : Value → Shared → Prop} {loose : List Str} {mean : ExcName → Option Value}
    (B : Below A₀ base outer h₀) (F : Fr h₀ L s.heap m) (N : News h₀ L s.heap news) (XB : (hd.heap_1 w.params).In base) (TB : Top topProg loose mean mg mb base) (hk : cs.kind = .function) (hdp : dp + 12 < recursionLimit) (hu : un + 120 < cLine)
    {t : TL} {σ : St} {left : Int → Str} (H : TRep w news t σ left) (hfn : (σ.files.map (·.1)).Nodup) {tk : Tok} {nm : Str} {new : Value} (hnew : new = .none ∨ ∃ nw tw, new = .str nw tw) (hcl : σ.chans.length ≤ 100) (hfl : σ.files.length ≤ 100)
    (free : vat σ.files nm = none → ∀ tr h' tk' news', Fr h₀ L h' m → News h₀ L h' news' → (∀ p ∈ news, p ∈ news') → Q (.str "refused FF" tr) { s with heap := h', toks := tk' })
    (busy : (∃ x, vat σ.files nm = some x) → named σ nm = true → ∀ tr h' tk' news', Fr h₀ L h' m → News h₀ L h' news' → (∀ p ∈ news, p ∈ news') → Q (.str "refused AO" tr) { s with heap := h', toks := tk' })
    (taken : (∃ x, vat σ.files nm = some x) → named σ nm = false → ∀ nw tw y, new = .str nw tw → vat σ.files nw = some y → ∀ tr h' tk' news', Fr h₀ L h' m → News h₀ L h' news' → (∀ p ∈ news, p ∈ news') → Q (.str "refused NM" tr) { s with heap := h', toks := tk' })
    (gone : (∃ x, vat σ.files nm = some x) → named σ nm = false → new = .none → TRet w h₀ L m news t σ { σ with files := sdel σ.files nm } left s (Q .none))
    (moved : ∀ x, vat σ.files nm = some x → named σ nm = false → ∀ nw tw, new = .str nw tw → vat σ.files nw = none → TRet w h₀ L m news t σ { σ with files := sset (sdel σ.files nm) nw x } left s (Q .none)) :
    wpAny (model PySem.Challenge.rw_pq0172_01.row.prog w) (ktrTop dp un gd cn cs L a ccd cl outer) (call (.ref 203) [.ref t.td, .str nm tk, new]) Q E s := by
  revert XB; k_fill; intro XB
  have X := XB.keeps B.stays
  have T := TB.keeps B.stays
  refine H.goDict fun oT j1 e1 => ?_; refine H.goFiles fun oG j2 e2 => ?_; refine H.goOpens fun oP j3 e3 => ?_; have y1 := H.low _ dd_td; have y2 := H.low _ dd_tf; have y3 := H.low _ dd_to
  refine wpAny_call ?_
  k_dflt (walk_at "mine enterC")
  walk_at "mine fold"
  cases hf : vat σ.files nm with
  | none =>
    have b1 := text_none (t := t) hf
    k_steps
    exact free hf _ _ _ _ (by k_asm) (by k_asm) (by intro p hp; simp [hp])
  | some x =>
    have b1 := text_some' (t := t) hf
    have b2 := text_some (t := t) hf
    have busy := busy ⟨x, hf⟩; have taken := taken ⟨x, hf⟩; have gone := gone ⟨x, hf⟩; have moved := moved x hf
    k_steps
    refine ex4 _ _ _ _ ⟨Src.values (knd := PySem.intKind PG w) rfl (by k_asm) (by k_asm) (by k_mem) (by k_mem) e3 (by rw [sizeLine_eq]; simp; omega), ?_⟩
    rintro s₂ ⟨hs2, rfl⟩
    refine restT_same (fun i ys => ∃ ns, IntsAre ys ns ∧ ((σ.chans.take i).any fun c => c.2.name == nm) = decide (ns ≠ [])) ⟨[], .nil, rfl⟩ ?_ ?_
    · rintro ys ⟨ns, hi, hy⟩ D h4 tk4 F4 N4 off4
      rw [show (σ.chans.map fun c => (c.1, Value.ref (t.sp c.1))).length = σ.chans.length from List.length_map .., List.take_length] at hy
      k_steps
      · have hm : named σ nm = false := hy.trans (dec_ne ‹decide (ns = []) = true›)
        refine unhere (cutT (C := new = .none ∨ ∃ nw tw, new = .str nw tw ∧ vat σ.files nw = none) ?_ ?_)
        · refine wpAny_If ?_
          rcases hnew with rfl | ⟨nw, tw, rfl⟩
          · k_steps
            exact CutT.mk (.inl rfl)
          · cases hw : vat σ.files nw with
            | none =>
              have b3 := text_none (t := t) hw
              k_steps
              exact CutT.mk (.inr ⟨_, _, rfl, hw⟩)
            | some y =>
              have b3 := text_some' (t := t) hw
              k_steps
              exact taken hm nw tw y rfl hw _ _ _ _ (by k_asm) (by k_asm) (by intro p hp; simp [hp])
        intro hC tk5
        k_steps
        k_dflt (refine popD (knd := PySem.strKind PG w) (by k_asm) (by k_asm) (by k_mem) e2 (strKind_is _ _ _ _) (by rfl) (PySem.F.args_dict_pop_2 _ _) b2 (by simp <;> omega) ?_)
        intro h1 n1 o1 F1 N1 m1 K1 q1
        have H1 := TRep.delFile (H.up (by intro p hp; simp [hp])) K1 m1 q1
        k_steps
        rcases hC with rfl | ⟨nw, tw, rfl, hw⟩
        · k_steps
          exact gone hm rfl _ _ n1 t (by k_asm) (by k_asm) H1 (fun p hp hn => K1 p (by simp [hp]) fun q => hn (q ▸ in_tf)) (fun a ha => .inl (all_sub (σ' := { σ with files := sdel σ.files nm }) (fun f hf => (mem_sdel hf).1) (fun _ h => h) ha)) rfl
        · refine H.goTexts _ (vat_mem hf) fun oF j5 e5 => ?_
          have j6 : (t.fl nm, oF) ∈ n1 := K1.mem (by simp [j5]) (H.apart.f _ (vat_mem hf)).2.1
          have hle : (sdel σ.files nm).length ≤ 100 := Nat.le_trans (List.length_filter_le ..) hfl
          refine H1.goDict fun oT j1 e1 => ?_; refine H1.goFiles fun oG j2 e2 => ?_; refine H1.goOpens fun oP j3 e3 => ?_; have y1 := H1.low _ dd_td; have y2 := H1.low _ dd_tf; have y3 := H1.low _ dd_to
          dsimp only at j1 j2 j3 e1 e2 e3
          k_steps
          k_dflt (refine setD (knd := strKind PG w) (by k_asm) (by k_asm) (by k_mem) e2 (strKind_is _ _ _ _) (by simp <;> omega) ?_)
          intro h2 n2 o2 F2 N2 m2 K2 q2
          have H2 := TRep.addFile (x := x) H1 (gone_ne H hf) j6 e5 K2 m2 q2
          k_steps
          exact moved hm nw tw rfl hw _ _ n2 _ (by k_asm) (by k_asm) H2 (fun p hp hn => K2 p (K1 p (by simp [hp]) fun q => hn (q ▸ in_tf)) fun q => hn (q ▸ in_tf)) (fun a ha => .inl ((addFile_all ha).elim (all_sub (σ' := { σ with files := sdel σ.files nm }) (fun f hf => (mem_sdel hf).1) (fun _ h => h)) fun q => q ▸ in_fl (vat_mem hf))) rfl
      · exact busy (hy.trans (dec_ne' ‹decide (ns = []) = false›)) _ _ _ _ (by k_asm) (by k_asm) (by intro p hp; simp [hp])
    · rintro i ys v I oI C oC D m2 h3 tk3 E' hi' ⟨ns, hi, hy⟩ ⟨k', hk⟩ hC hx F3 N3 off ne
      obtain ⟨c, hc, rfl⟩ := map_at (f := fun c => Value.ref (t.sp c.1)) hk
      refine H.goSpots _ (List.mem_of_getElem? hc) fun oS j4 t1 t2 t3 d4 => ?_
      have y4 := H.low _ (dd_sp (List.mem_of_getElem? hc))
      k_steps
      · exact LCg.CompEnd.intro (by k_asm) (by k_asm) _ (fun p hp => hp) off (by simp [j3]) ⟨rfl, _, ints_snoc hi _ _, any_snoc hy hc true (by simp [*]) _ (by simp)⟩
      · exact LCg.CompEnd.intro (by k_asm) (by k_asm) _ (fun p hp => hp) off (by simp [j3]) ⟨rfl, _, hi, any_snoc hy hc false (by simp [*]) _ (by simp)⟩
end

end
/-! T4 -/
section
open PyProof.V
theorem sset_sset {K α : Type} [DecidableEq K] {l : List (K × α)} {k : K} {a b : α} (h : k ∈ l.map (·.1)) : sset (sset l k a) k b = sset l k b := by
  have h2 : k ∈ (sset l k a).map (·.1) := by rw [sset_keys_in h]; exact h
  unfold sset at h2 ⊢
  rw [if_pos h] at h2 ⊢
  rw [if_pos h2, if_pos h, List.map_map]
  refine List.map_congr_left fun x _ => ?_
  simp only [Function.comp]
  by_cases q : x.1 = k <;> simp [q]
theorem sset_self {K α : Type} [DecidableEq K] {l : List (K × α)} (hn : (l.map (·.1)).Nodup) {k : K} {a : α} (h : vat l k = some a) : sset l k a = l := by
  unfold sset
  rw [if_pos (vat_some_key h)]
  refine (List.map_congr_left fun x hx => ?_).trans (List.map_id _)
  by_cases q : x.1 = k
  · rw [if_pos q]
    exact (nodup_inj hn x hx _ (vat_mem h) q).symm ▸ rfl
  · rw [if_neg q]; rfl
abbrev Sg (l : List Nat) : Str := ⟨l.toArray⟩
theorem Sg_snoc {p : List Nat} {e : Nat} : Sg p ++ (⟨#[e]⟩ : Str) = Sg (p ++ [e]) := by
  show (⟨p.toArray ++ #[e]⟩ : Str) = _
  simp
theorem sign_eq {e : Nat} (h : ((⟨#[e]⟩ : Str) == "\n") = true) : e = 10 := by
  have := congrArg (fun z : Str => z.cps.toList) (eq_of_beq h)
  exact (List.cons.inj this).1
theorem sign_ne {e : Nat} (h : ((⟨#[e]⟩ : Str) == "\n") = false) : e ≠ 10 := fun q => by
  subst q
  exact absurd h (by decide)
theorem Sg_ne {c : Nat} {l : List Nat} : Sg (c :: l) ≠ "" := fun q => by
  have := congrArg (fun z : Str => z.cps.toList) q
  exact List.cons_ne_nil c l this
def WhileHere (prog : Program) (w : World) (A : Around) (E : Value → Shared → Prop) (env : Env) (test : PySem.Expr) (body : List Stmt) (pos : Pos) (Q : Flow → Shared → Prop) (s : Shared) : Prop :=
  wpAny (model prog w) A (exec (.While test body [] pos) env) Q E s
theorem while_here {prog : Program} {w : World} {A : Around} {E : Value → Shared → Prop} {s : Shared} {env : Env} {test : PySem.Expr} {body : List Stmt} {pos : Pos} {Q : Flow → Shared → Prop} (h : WhileHere prog w A E env test body pos Q s) : wpAny (model prog w) A (exec (.While test body [] pos) env) Q E s := h
theorem while_inv {prog : Program} {w : World} {A : Around} {E : Value → Shared → Prop} {s : Shared} {env : Env} {test : PySem.Expr} {body : List Stmt} {pos : Pos} {Q : Flow → Shared → Prop} {h₀ : Heap} {L : Addr} {m : Str → Option Value} {news : List (Addr × Obj)}
    (J : Nat → (Str → Option Value) → List (Addr × Obj) → Prop) (n₀ : Nat) (F : Fr h₀ L s.heap m) (N : News h₀ L s.heap news) (hJ : J n₀ m news)
    (turn : ∀ n m₁ news₁ h₁ tk₁, Fr h₀ L h₁ m₁ → News h₀ L h₁ news₁ → J n m₁ news₁ →
      wpAny (model prog w) A (isTrue test env (eval test env)) (fun b s₂ =>
        if b = true then wpAny (model prog w) A (execs body env) (WhileStep2 h₀ L s J Q n) (fun _ _ => False) s₂ else Q .next s₂) (fun _ _ => False) { s with heap := h₁, toks := tk₁ }) :
    WhileHere prog w A E env test body pos Q s :=
  wpAny_noRaise (While_inv2 J F N hJ turn PassesOwn.never)
end
local macro_rules | `(tactic| walk_at "exec While") => `(tactic| (k_here; k_dflt (refine while_here ?_)))
local macro_rules | `(tactic| walk_at "exec While BoolOp") => `(tactic| (k_here; k_dflt (refine while_here ?_)))
local macro_rules | `(tactic| walk_at "last exec While") => `(tactic| (k_here; k_dflt (refine while_here ?_)))
section
open PyProof.V
section
variable {prog : Program} {w : World} {A : Around} {E : Value → Shared → Prop} {s : Shared} {h₀ : Heap} {L a b : Addr} {m : Str → Option Value} {news : List (Addr × Obj)} {o : Obj} {l : List Nat} {c n : Nat} {Q : Value → Shared → Prop}
theorem ne_cons (N : News h₀ L s.heap news) (hm : (a, o) ∈ news) (hs : IsSigns o (Sg (c :: l))) (hx : (Sg (c :: l)).cps.all (· < 128) = true) (hm' : (b, listOf #[] n) ∈ news) (hu : A.units + 64 < cLine)
    (h : Q (.bool true) s) : wpAny (model prog w) A (compareOp .NotEq (.ref a) (.ref b)) Q E s :=
  ne_signs N hm hs hx hm' hu (by rw [decide_eq_false Sg_ne]; exact h)
theorem ne_nil (N : News h₀ L s.heap news) (hm : (a, o) ∈ news) (hs : IsSigns o (Sg [])) (hm' : (b, listOf #[] n) ∈ news) (hu : A.units + 64 < cLine)
    (h : Q (.bool false) s) : wpAny (model prog w) A (compareOp .NotEq (.ref a) (.ref b)) Q E s :=
  ne_signs N hm hs (by simp) hm' hu (by rw [decide_eq_true (by rfl)]; exact h)
theorem eq_cons (N : News h₀ L s.heap news) (hm : (a, o) ∈ news) (hs : IsSigns o (Sg (c :: l))) (hx : (Sg (c :: l)).cps.all (· < 128) = true) (hm' : (b, listOf #[] n) ∈ news) (hu : A.units + 64 < cLine)
    (h : Q (.bool false) s) : wpAny (model prog w) A (compareOp .Eq (.ref a) (.ref b)) Q E s :=
  eq_signs N hm hs hx hm' hu (by rw [decide_eq_false Sg_ne]; exact h)
theorem eq_nil (N : News h₀ L s.heap news) (hm : (a, o) ∈ news) (hs : IsSigns o (Sg [])) (hm' : (b, listOf #[] n) ∈ news) (hu : A.units + 64 < cLine)
    (h : Q (.bool true) s) : wpAny (model prog w) A (compareOp .Eq (.ref a) (.ref b)) Q E s :=
  eq_signs N hm hs (by simp) hm' hu (by rw [decide_eq_true (by rfl)]; exact h)
end
end
local macro_rules | `(tactic| walk_at "compareOp NotEq ref ref") => `(tactic| (k_here; k_dflt (first
  | (refine ne_nil (by k_asm) (by k_mem) (by assumption) (by walk_at "mine mem") (by ktr_units) ?_; )
  | (refine ne_cons (by k_asm) (by k_mem) (by assumption) (by assumption) (by walk_at "mine mem") (by ktr_units) ?_; ))))
local macro_rules | `(tactic| walk_at "compareOp Eq ref ref") => `(tactic| (k_here; k_dflt (first
  | (refine eq_nil (by k_asm) (by k_mem) (by assumption) (by walk_at "mine mem") (by ktr_units) ?_; )
  | (refine eq_cons (by k_asm) (by k_mem) (by assumption) (by assumption) (by walk_at "mine mem") (by ktr_units) ?_; ))))
local macro_rules | `(tactic| walk_at "call builtin:str.join") => `(tactic| (k_here; (try dsimp only [List.cons_append, List.nil_append]); (with_reducible show wpAny _ _ (call (Value.builtin "str.join") [Value.str _ _, Value.ref _]) _ _ _); k_dflt (refine join_signs (by k_asm) (by k_mem) (by assumption) (by assumption) ?_; ); intro t' tk'))
section
open PyProof.V
set_option maxRecDepth 100000 in
set_option maxHeartbeats 8000000 in
theorem got_none {w : World} {dp un : Nat} {gd : Option (List Code)} {cn : Str} {cs : Scope} {a : Addr} {ccd : Value} {cl : List (Str × Addr)} {outer : List Env} {A₀ : Around} {base h₀ : Heap} {L : Addr} {m mg mb : Str → Option Value}
    {news : List (Addr × Obj)} {s : Shared} {Q E : Value → Shared → Prop} {loose : List Str} {mean : ExcName → Option Value}
    (B : Below A₀ base outer h₀) (F : Fr h₀ L s.heap m) (N : News h₀ L s.heap news) (XB : (hd.heap_1 w.params).In base) (TB : Top topProg loose mean mg mb base) (hk : cs.kind = .function) (hdp : dp + 12 < recursionLimit) (hu : un + 120 < cLine)
    {t : TL} {σ : St} {left : Int → Str} (H : TRep w news t σ left) {k : Int} {tk : Tok} {many : Value} (hv : vat σ.chans k = none)
    (ret : ∀ tr h' tk' news', Fr h₀ L h' m → News h₀ L h' news' → (∀ p ∈ news, p ∈ news') → Q (.str "refused BN" tr) { s with heap := h', toks := tk' }) :
    wpAny (model PySem.Challenge.rw_pq0172_01.row.prog w) (ktrTop dp un gd cn cs L a ccd cl outer) (call (.ref 198) [.ref t.td, .int k tk, many]) Q E s := by
  revert XB; k_fill; intro XB
  have X := XB.keeps B.stays
  have T := TB.keeps B.stays
  refine H.goDict fun oT j1 e1 => ?_; refine H.goFiles fun oG j2 e2 => ?_; refine H.goOpens fun oP j3 e3 => ?_; have y1 := H.low _ dd_td; have y2 := H.low _ dd_tf; have y3 := H.low _ dd_to
  have b1 := spot_none (t := t) hv
  refine wpAny_call ?_
  k_dflt ktr_enter
  walk_at "mine fold"
  k_steps
  exact ret _ _ _ _ (by k_asm) (by k_asm) (by intro p hp; simp [hp])
set_option maxRecDepth 100000 in
set_option maxHeartbeats 8000000 in
theorem got_bad {w : World} {dp un : Nat} {gd : Option (List Code)} {cn : Str} {cs : Scope} {a : Addr} {ccd : Value} {cl : List (Str × Addr)} {outer : List Env} {A₀ : Around} {base h₀ : Heap} {L : Addr} {m mg mb : Str → Option Value}
    {news : List (Addr × Obj)} {s : Shared} {Q E : Value → Shared → Prop} {loose : List Str} {mean : ExcName → Option Value}
    (B : Below A₀ base outer h₀) (F : Fr h₀ L s.heap m) (N : News h₀ L s.heap news) (XB : (hd.heap_1 w.params).In base) (TB : Top topProg loose mean mg mb base) (hk : cs.kind = .function) (hdp : dp + 12 < recursionLimit) (hu : un + 120 < cLine)
    {t : TL} {σ : St} {left : Int → Str} (H : TRep w news t σ left) {k : Int} {tk : Tok} {many : Value} {c : Ch} (hv : vat σ.chans k = some c) (hm : (c.mode != "I") = true)
    (ret : ∀ tr h' tk' news', Fr h₀ L h' m → News h₀ L h' news' → (∀ p ∈ news, p ∈ news') → Q (.str "refused BM" tr) { s with heap := h', toks := tk' }) :
    wpAny (model PySem.Challenge.rw_pq0172_01.row.prog w) (ktrTop dp un gd cn cs L a ccd cl outer) (call (.ref 198) [.ref t.td, .int k tk, many]) Q E s := by
  revert XB; k_fill; intro XB
  have X := XB.keeps B.stays
  have T := TB.keeps B.stays
  refine H.goDict fun oT j1 e1 => ?_; refine H.goFiles fun oG j2 e2 => ?_; refine H.goOpens fun oP j3 e3 => ?_; have y1 := H.low _ dd_td; have y2 := H.low _ dd_tf; have y3 := H.low _ dd_to
  have b1 := spot_some' (t := t) hv
  have b2 := spot_some (t := t) hv
  refine H.goSpots _ (vat_mem hv) fun oS j4 t1 t2 t3 d4 => ?_
  have y4 := H.low _ (dd_sp (vat_mem hv))
  dsimp only at j4 d4 y4
  refine wpAny_call ?_
  k_dflt ktr_enter
  walk_at "mine fold"
  k_steps
  exact ret _ _ _ _ (by k_asm) (by k_asm) (by intro p hp; simp [hp])
inductive LoopJ (w : World) (news : List (Addr × Obj)) (t : TL) (σ : St) (left : Int → Str) (k : Int) (c : Ch) (l : List Nat) (P : List Nat → Prop) (mv : Value) (n : Nat) (m' : Str → Option Value) (n' : List (Addr × Obj)) : Prop
  | mk (p r : List Nat) (Fd : Addr) (oF : Obj) (h1 : l = p ++ r) (h2 : r.length = n) (h3 : P p) (m1 : m' "spot" = some (.ref (t.sp k))) (m2 : m' "many" = some mv) (m3 : m' "found" = some (.ref Fd)) (f1 : (Fd, oF) ∈ n') (f2 : IsSigns oF (Sg p)) (f3 : ∀ a ∈ t.all σ, a ≠ Fd)
    (H : TRep w n' t { σ with chans := sset σ.chans k { c with at_ := c.at_ + p.length } } (fun i => if i = k then Sg r else left i)) (f4 : ∀ q ∈ news, q.1 ∉ t.all σ → q ∈ n') (f5 : ∀ q ∈ news, q.1 ≠ Fd)
theorem here_or {M : Model} {A : Around} {E : Value → Shared → Prop} {s : Shared} {env : Env} {vs : List PySem.Expr} {b o : List Stmt} {p p' : Pos} {Q : Flow → Shared → Prop} (h : Here (wpAny M A (exec (.If (.BoolOp .Or vs p') b o p) env) Q E s)) : wpAny M A (exec (.If (.BoolOp .Or vs p') b o p) env) Q E s := h
section
local macro_rules | `(tactic| walk_at "exec If BoolOp") => `(tactic| (k_here; with_reducible refine here_or ?_))
set_option maxRecDepth 100000 in
set_option maxHeartbeats 8000000 in
theorem row_go {w : World} {dp un : Nat} {gd : Option (List Code)} {cn : Str} {cs : Scope} {a : Addr} {ccd : Value} {cl : List (Str × Addr)} {outer : List Env} {A₀ : Around} {base h₀ : Heap} {L : Addr} {m mg mb : Str → Option Value}
    {news : List (Addr × Obj)} {s : Shared} {Q E : Value → Shared → Prop} {loose : List Str} {mean : ExcName → Option Value}
    (B : Below A₀ base outer h₀) (F : Fr h₀ L s.heap m) (N : News h₀ L s.heap news) (XB : (hd.heap_1 w.params).In base) (TB : Top topProg loose mean mg mb base) (hk : cs.kind = .function) (hdp : dp + 12 < recursionLimit) (hu : un + 120 < cLine)
    {t : TL} {σ : St} {left : Int → Str} (H : TRep w news t σ left) (hkn : (σ.chans.map (·.1)).Nodup) {k : Int} {tk : Tok} {c : Ch} (hv : vat σ.chans k = some c) (hm : (c.mode != "I") = false) {l₀ : List Nat} (hl : left k = Sg l₀) (hA : ∀ z ∈ l₀, z < 128) (hz : l₀.length ≤ 901)
    (endE : l₀ = [] → ∀ tr h' tk' news', Fr h₀ L h' m → News h₀ L h' news' → (∀ p ∈ news, p ∈ news') → Q (.str "refused EF" tr) { s with heap := h', toks := tk' })
    (retN : ∀ p r, l₀ = p ++ 10 :: r → (∀ z ∈ p, z ≠ 10) → ∀ tr, TRet w h₀ L m news t σ { σ with chans := sset σ.chans k { c with at_ := c.at_ + (p.length + 1) } } (fun i => if i = k then Sg r else left i) s (Q (.str (Sg p) tr)))
    (retE : l₀ ≠ [] → (∀ z ∈ l₀, z ≠ 10) → ∀ tr, TRet w h₀ L m news t σ { σ with chans := sset σ.chans k { c with at_ := c.at_ + l₀.length } } (fun i => if i = k then Sg [] else left i) s (Q (.str (Sg l₀) tr))) :
    wpAny (model PySem.Challenge.rw_pq0172_01.row.prog w) (ktrTop dp un gd cn cs L a ccd cl outer) (call (.ref 198) [.ref t.td, .int k tk, .none]) Q E s := by
  revert XB; k_fill; intro XB
  have X := XB.keeps B.stays
  have T := TB.keeps B.stays
  refine H.goDict fun oT j1 e1 => ?_; refine H.goFiles fun oG j2 e2 => ?_; refine H.goOpens fun oP j3 e3 => ?_; have y1 := H.low _ dd_td; have y2 := H.low _ dd_tf; have y3 := H.low _ dd_to
  have b1 := spot_some' (t := t) hv
  have b2 := spot_some (t := t) hv
  refine H.goSpots _ (vat_mem hv) fun oS j4 t1 t2 t3 d4 => ?_
  refine H.goLefts _ (vat_mem hv) fun oL j5 e5 => ?_
  have y4 := H.low _ (dd_sp (vat_mem hv))
  dsimp only at j4 d4 y4 j5 e5
  rw [hl] at e5
  refine wpAny_call ?_
  k_dflt ktr_enter
  walk_at "mine fold"
  k_steps
  refine unhere (wpAny_If ?_)
  cases l₀ with
  | nil =>
    k_steps
    exact endE rfl _ _ _ _ (by k_asm) (by k_asm) (by intro p hp; simp [hp])
  | cons d l =>
    have hA' : (Sg (d :: l)).cps.all (· < 128) = true := by simpa using hA
    have hz : l.length ≤ 900 := by simpa using hz
    k_steps
    refine while_inv (LoopJ w news t σ left k c (d :: l) (fun p => ∀ z ∈ p, z ≠ 10) .none) (d :: l).length (by k_asm) (by k_asm) ?_ ?_
    · refine ⟨[], d :: l, _, _, rfl, rfl, by simp, rfl, rfl, rfl, .head _, ⟨[], 0, rfl, .nil⟩, H.new (by walk_at "mine lt"), ?_, fun q hq _ => by simp [hq], fun q hq => Nat.ne_of_lt ((by walk_at "mine lt" : ∀ q ∈ news, q.1 < _) q hq)⟩
      have e : (fun i => if i = k then Sg (d :: l) else left i) = left := by
        funext i; split
        · rename_i q; rw [q, hl]
        · rfl
      rw [e, show ({ c with at_ := c.at_ + ([] : List Nat).length } : Ch) = c from rfl, sset_self hkn hv]
      exact H.up (by intro p hp; simp [hp])
    · rintro n m₁ n₁ h₁ tk₁ F₁ N₁ ⟨p, r, Fd, oF, hpr, hn, hp, m1, m2, m3, f1, f2, f3, H1, f4, f5⟩
      have hv1 : vat (sset σ.chans k { c with at_ := c.at_ + p.length }) k = some { c with at_ := c.at_ + p.length } := vat_sset_same hkn
      have hlen := congrArg List.length hpr
      simp only [List.length_append, List.length_cons] at hlen
      have hpl : (Sg p).length ≤ 1000 := by show p.toArray.size ≤ 1000; rw [List.size_toArray]; omega
      refine H1.goDict fun oT j1 e1 => ?_; refine H1.goFiles fun oG j2 e2 => ?_; refine H1.goOpens fun oP j3 e3 => ?_; have y1 := H1.low _ dd_td; have y2 := H1.low _ dd_tf; have y3 := H1.low _ dd_to
      refine H1.goSpots _ (vat_mem hv1) fun oS j4 t1 t2 t3 d4 => ?_
      refine H1.goLefts _ (vat_mem hv1) fun oL j5 e5 => ?_
      dsimp only at j1 j2 j3 e1 e2 e3 j4 d4 j5 e5
      rw [if_pos rfl] at e5
      cases r with
      | nil =>
        k_steps
        obtain rfl : p = d :: l := by simpa using hpr.symm
        exact retE (by simp) hp _ _ _ _ t (by k_asm) (by k_asm) (H1.up (by intro p hp; simp [hp])) (fun q hq hn => by simp [f4 q hq hn]) (fun a ha => .inl (by rw [← tall_chans (vat_some_key hv)]; exact ha)) rfl
      | cons e r =>
        have hA1 : (Sg (e :: r)).cps.all (· < 128) = true := by
          have : ∀ z ∈ e :: r, z < 128 := fun z hz => hA z (by rw [hpr]; exact List.mem_append_right _ hz)
          simpa using this
        simp only [List.length_cons] at hlen hn
        obtain ⟨vs, nl, rfl, hi⟩ := e5
        have e5 : IsSigns (listOf vs.toArray nl) (Sg (e :: r)) := ⟨vs, nl, rfl, hi⟩
        obtain ⟨us, ul, rfl, ui⟩ := f2
        have f2 : IsSigns (listOf us.toArray ul) (Sg p) := ⟨us, ul, rfl, ui⟩
        k_steps
        k_dflt (refine pop0_signs (by k_asm) (by k_asm) (by k_mem) e5 (by omega) ?_)
        intro h2 n2 o2 tt F2 N2 w2 K2 q2
        have H2 := TRep.setLeft (H1.up (fun _ h => .tail _ h)) hv1 K2 w2 q2
        have g1 := K2.mem (.tail _ f1) (f3 _ (in_lf (vat_mem hv))).symm
        refine H2.goDict fun oT j1 e1 => ?_; refine H2.goFiles fun oG j2 e2 => ?_; refine H2.goOpens fun oP j3 e3 => ?_; have y1 := H2.low _ dd_td; have y2 := H2.low _ dd_tf; have y3 := H2.low _ dd_to
        refine H2.goSpots _ (vat_mem hv1) fun oS j4 t1 t2 t3 d4 => ?_
        dsimp only at j1 j2 j3 e1 e2 e3 j4 d4
        k_steps
        k_dflt (refine setD (knd := strKind PG w) (by k_asm) (by k_asm) (by k_mem) d4 (strKind_is _ _ _ _) (by simp <;> omega) ?_)
        intro h3 n3 o3 F3 N3 w3 K3 q3
        have H3 := TRep.setSpot (c' := { c with at_ := c.at_ + (p.length + 1) }) H2 hv1 K3 w3 ⟨_, _, _, q3⟩
        have g2 := K3.mem g1 (f3 _ (in_sp (vat_mem hv))).symm
        dsimp only at H3
        rw [sset_sset (vat_some_key hv), show (fun i => if i = k then Sg r else if i = k then Sg (e :: r) else left i) = fun i => if i = k then Sg r else left i from funext fun i => by by_cases q : i = k <;> simp [q]] at H3
        k_steps
        · obtain rfl := sign_eq (by assumption)
          dsimp only [WhileStep2]
          k_steps
          exact retN p r hpr hp _ _ _ n3 t (by k_asm) (by k_asm) H3 (fun q hq hn => K3 q (K2 q (.tail _ (f4 q hq hn)) fun z => hn (z ▸ in_lf (vat_mem hv))) fun z => hn (z ▸ in_sp (vat_mem hv))) (fun a ha => .inl (by rw [← tall_chans (vat_some_key hv)]; exact ha)) rfl
        · have he := sign_ne (e := e) (by assumption)
          k_dflt (refine push_signs (by k_asm) (by k_asm) (by k_mem) f2 hpl ?_)
          intro h4 n4 o4 F4 N4 w4 K4 q4
          k_steps
          refine ⟨_, _, _, n4, r.length, rfl, by k_asm, by k_asm, by omega, p ++ [e], r, Fd, o4, by rw [hpr]; simp, rfl, ?_, by walk_at "mine look", by walk_at "mine look", by walk_at "mine look", w4, by rw [← Sg_snoc]; exact q4, f3, ?_, ?_, f5⟩
          · intro z hz
            rcases List.mem_append.mp hz with hz | hz
            · exact hp z hz
            · rw [List.mem_singleton.mp hz]; exact he
          · rw [show (p ++ [e]).length = p.length + 1 by simp]
            exact H3.mono fun q hq hn => K4 q hq (f3 _ (by rw [← tall_chans (vat_some_key hv)]; exact hn))
          · intro q hq hn
            exact K4 q (K3 q (K2 q (.tail _ (f4 q hq hn)) fun z => hn (z ▸ in_lf (vat_mem hv))) fun z => hn (z ▸ in_sp (vat_mem hv))) (f5 q hq)
end


end
/-! T5 -/
section
open PyProof.V
theorem take_drop {l p r : List Nat} {n : Nat} (h : l = p ++ r) (hn : p.length = n) : l.take n = p ∧ l.drop n = r := by
  subst h; subst hn; simp
section
local macro_rules | `(tactic| walk_at "exec If BoolOp") => `(tactic| (k_here; with_reducible refine here_or ?_))
set_option maxRecDepth 100000 in
set_option maxHeartbeats 8000000 in
theorem signs_take {w : World} {dp un : Nat} {gd : Option (List Code)} {cn : Str} {cs : Scope} {a : Addr} {ccd : Value} {cl : List (Str × Addr)} {outer : List Env} {A₀ : Around} {base h₀ : Heap} {L : Addr} {m mg mb : Str → Option Value}
    {news : List (Addr × Obj)} {s : Shared} {Q E : Value → Shared → Prop} {loose : List Str} {mean : ExcName → Option Value}
    (B : Below A₀ base outer h₀) (F : Fr h₀ L s.heap m) (N : News h₀ L s.heap news) (XB : (hd.heap_1 w.params).In base) (TB : Top topProg loose mean mg mb base) (hk : cs.kind = .function) (hdp : dp + 12 < recursionLimit) (hu : un + 120 < cLine)
    {t : TL} {σ : St} {left : Int → Str} (H : TRep w news t σ left) (hkn : (σ.chans.map (·.1)).Nodup) {k : Int} {tk : Tok} {c : Ch} (hv : vat σ.chans k = some c) (hm : (c.mode != "I") = false) {n₀ : Nat} {tn : Tok} {l : List Nat} (hl : left k = Sg l) (hA : ∀ z ∈ l, z < 128) (hz : (Sg l).length ≤ 1000)
    (endE : (Sg l).length < n₀ → ∀ tr h' tk' news', Fr h₀ L h' m → News h₀ L h' news' → (∀ p ∈ news, p ∈ news') → Q (.str "refused EF" tr) { s with heap := h', toks := tk' })
    (ret : ¬ (Sg l).length < n₀ → ∀ tr, TRet w h₀ L m news t σ { σ with chans := sset σ.chans k { c with at_ := c.at_ + n₀ } } (fun i => if i = k then Sg (l.drop n₀) else left i) s (Q (.str (Sg (l.take n₀)) tr))) :
    wpAny (model PySem.Challenge.rw_pq0172_01.row.prog w) (ktrTop dp un gd cn cs L a ccd cl outer) (call (.ref 198) [.ref t.td, .int k tk, .int n₀ tn]) Q E s := by
  revert XB; k_fill; intro XB
  have X := XB.keeps B.stays
  have T := TB.keeps B.stays
  refine H.goDict fun oT j1 e1 => ?_; refine H.goFiles fun oG j2 e2 => ?_; refine H.goOpens fun oP j3 e3 => ?_; have y1 := H.low _ dd_td; have y2 := H.low _ dd_tf; have y3 := H.low _ dd_to
  have b1 := spot_some' (t := t) hv
  have b2 := spot_some (t := t) hv
  refine H.goSpots _ (vat_mem hv) fun oS j4 t1 t2 t3 d4 => ?_
  refine H.goLefts _ (vat_mem hv) fun oL j5 e5 => ?_
  have y4 := H.low _ (dd_sp (vat_mem hv))
  dsimp only at j4 d4 y4 j5 e5
  rw [hl] at e5
  have hz1 : l.length ≤ 1000 := by have : (Sg l).length = l.length := List.size_toArray; omega
  refine wpAny_call ?_
  k_dflt ktr_enter
  walk_at "mine fold"
  k_steps
  refine unhere (wpAny_If ?_)
  by_cases hq : (Sg l).length < n₀
  · k_steps
    exact endE hq _ _ _ _ (by k_asm) (by k_asm) (by intro p hp; simp [hp])
  · have hn0 : n₀ ≤ (Sg l).length := Nat.le_of_not_lt hq
    have hn1 : n₀ ≤ l.length := by have : (Sg l).length = l.length := List.size_toArray; omega
    have ret := ret hq
    k_steps
    refine while_inv (LoopJ w news t σ left k c l (fun p => p.length ≤ n₀) (.int n₀ tn)) l.length (by k_asm) (by k_asm) ?_ ?_
    · refine ⟨[], l, _, _, rfl, rfl, Nat.zero_le _, rfl, rfl, rfl, .head _, ⟨[], 0, rfl, .nil⟩, H.new (by walk_at "mine lt"), ?_, fun q hq _ => by simp [hq], fun q hq => Nat.ne_of_lt ((by walk_at "mine lt" : ∀ q ∈ news, q.1 < _) q hq)⟩
      have e : (fun i => if i = k then Sg l else left i) = left := by
        funext i; split
        · rename_i q; rw [q, hl]
        · rfl
      rw [e, show ({ c with at_ := c.at_ + ([] : List Nat).length } : Ch) = c from rfl, sset_self hkn hv]
      exact H.up (by intro p hp; simp [hp])
    · rintro n m₁ n₁ h₁ tk₁ F₁ N₁ ⟨p, r, Fd, oF, hpr, hn, hp, m1, m2, m3, f1, f2, f3, H1, f4, f5⟩
      have hv1 : vat (sset σ.chans k { c with at_ := c.at_ + p.length }) k = some { c with at_ := c.at_ + p.length } := vat_sset_same hkn
      have hlen := congrArg List.length hpr
      simp only [List.length_append] at hlen
      have hsz : (Sg p).length = p.length := List.size_toArray
      have hpl : (Sg p).length ≤ 1000 := by omega
      refine H1.goDict fun oT j1 e1 => ?_; refine H1.goFiles fun oG j2 e2 => ?_; refine H1.goOpens fun oP j3 e3 => ?_; have y1 := H1.low _ dd_td; have y2 := H1.low _ dd_tf; have y3 := H1.low _ dd_to
      refine H1.goSpots _ (vat_mem hv1) fun oS j4 t1 t2 t3 d4 => ?_
      refine H1.goLefts _ (vat_mem hv1) fun oL j5 e5 => ?_
      dsimp only at j1 j2 j3 e1 e2 e3 j4 d4 j5 e5
      rw [if_pos rfl] at e5
      have fin : p.length = n₀ → ∀ n2, (∀ p ∈ n₁, p ∈ n2) → TRep w n2 t { σ with chans := sset σ.chans k { c with at_ := c.at_ + n₀ } } (fun i => if i = k then Sg (l.drop n₀) else left i) ∧ l.take n₀ = p := fun e n2 hs => by
        obtain ⟨a1, a2⟩ := take_drop hpr e
        rw [a2, ← e]
        exact ⟨H1.up hs, by rw [e]; exact a1⟩
      cases r with
      | nil =>
        k_steps
        obtain ⟨H5, hp5⟩ := fin (by simp only [List.length_nil] at hlen; omega) _ (fun _ h => .tail _ h)
        rw [hp5] at ret
        exact ret _ _ _ _ t (by k_asm) (by k_asm) H5 (fun q hq hn => by simp [f4 q hq hn]) (fun a ha => .inl (by rw [← tall_chans (vat_some_key hv)]; exact ha)) rfl
      | cons e r =>
        have hA1 : (Sg (e :: r)).cps.all (· < 128) = true := by
          have : ∀ z ∈ e :: r, z < 128 := fun z hz => hA z (by rw [hpr]; exact List.mem_append_right _ hz)
          simpa using this
        simp only [List.length_cons] at hlen hn
        obtain ⟨vs, nl, rfl, hi⟩ := e5
        have e5 : IsSigns (listOf vs.toArray nl) (Sg (e :: r)) := ⟨vs, nl, rfl, hi⟩
        obtain ⟨us, ul, rfl, ui⟩ := f2
        have f2 : IsSigns (listOf us.toArray ul) (Sg p) := ⟨us, ul, rfl, ui⟩
        k_steps
        · k_dflt (refine pop0_signs (by k_asm) (by k_asm) (by k_mem) e5 (by omega) ?_)
          intro h2 n2 o2 tt F2 N2 w2 K2 q2
          have H2 := TRep.setLeft (H1.up (fun _ h => .tail _ h)) hv1 K2 w2 q2
          have g1 := K2.mem (.tail _ f1) (f3 _ (in_lf (vat_mem hv))).symm
          refine H2.goDict fun oT j1 e1 => ?_; refine H2.goFiles fun oG j2 e2 => ?_; refine H2.goOpens fun oP j3 e3 => ?_; have y1 := H2.low _ dd_td; have y2 := H2.low _ dd_tf; have y3 := H2.low _ dd_to
          refine H2.goSpots _ (vat_mem hv1) fun oS j4 t1 t2 t3 d4 => ?_
          dsimp only at j1 j2 j3 e1 e2 e3 j4 d4
          k_steps
          k_dflt (refine setD (knd := strKind PG w) (by k_asm) (by k_asm) (by k_mem) d4 (strKind_is _ _ _ _) (by simp <;> omega) ?_)
          intro h3 n3 o3 F3 N3 w3 K3 q3
          have H3 := TRep.setSpot (c' := { c with at_ := c.at_ + (p.length + 1) }) H2 hv1 K3 w3 ⟨_, _, _, q3⟩
          have g2 := K3.mem g1 (f3 _ (in_sp (vat_mem hv))).symm
          dsimp only at H3
          rw [sset_sset (vat_some_key hv), show (fun i => if i = k then Sg r else if i = k then Sg (e :: r) else left i) = fun i => if i = k then Sg r else left i from funext fun i => by by_cases q : i = k <;> simp [q]] at H3
          k_steps
          k_dflt (refine push_signs (by k_asm) (by k_asm) (by k_mem) f2 hpl ?_)
          intro h4 n4 o4 F4 N4 w4 K4 q4
          k_steps
          refine ⟨_, _, _, n4, r.length, rfl, by k_asm, by k_asm, by omega, p ++ [e], r, Fd, o4, by rw [hpr]; simp, rfl, ?_, by walk_at "mine look", by walk_at "mine look", by walk_at "mine look", w4, by rw [← Sg_snoc]; exact q4, f3, ?_, ?_, f5⟩
          · rw [List.length_append]
            simp only [List.length_cons, List.length_nil]
            omega
          · rw [show (p ++ [e]).length = p.length + 1 by simp]
            exact H3.mono fun q hq hn => K4 q hq (f3 _ (by rw [← tall_chans (vat_some_key hv)]; exact hn))
          · intro q hq hn
            exact K4 q (K3 q (K2 q (.tail _ (f4 q hq hn)) fun z => hn (z ▸ in_lf (vat_mem hv))) fun z => hn (z ▸ in_sp (vat_mem hv))) (f5 q hq)
        · obtain ⟨H5, hp5⟩ := fin (by omega) _ (fun _ h => .tail _ h)
          rw [hp5] at ret
          exact ret _ _ _ _ t (by k_asm) (by k_asm) H5 (fun q hq hn => by simp [f4 q hq hn]) (fun a ha => .inl (by rw [← tall_chans (vat_some_key hv)]; exact ha)) rfl
end


end
/-! F1 -/
section
/-! the feed -/
structure FL where
  fd : Addr
  fc : Addr
structure FRep (news : List (Addr × Obj)) (f : FL) (lim : Int) : Prop where
  has : ∃ (turn : Int) (tk : Tok) (vs : List Value) (ns : List Int) (n1 n2 : Nat), (f.fd, listOf #[.ref f.fc, .int turn tk] n1) ∈ news ∧ (f.fc, listOf vs.toArray n2) ∈ news ∧ IntsAre vs ns ∧ 0 ≤ turn ∧ turn ≤ lim ∧ ns.length ≤ 100
  ne : f.fc ≠ f.fd
theorem FRep.mono {news news' : List (Addr × Obj)} {f : FL} {lim : Int} (H : FRep news f lim) (c : ∀ p ∈ news, p.1 = f.fd ∨ p.1 = f.fc → p ∈ news') : FRep news' f lim :=
  ⟨let ⟨turn, tk, vs, ns, n1, n2, a, b, r⟩ := H.has; ⟨turn, tk, vs, ns, n1, n2, c _ a (.inl rfl), c _ b (.inr rfl), r⟩, H.ne⟩
set_option maxRecDepth 100000 in
set_option maxHeartbeats 8000000 in
theorem next_ok {w : World} {dp un : Nat} {gd : Option (List Code)} {cn : Str} {cs : Scope} {a : Addr} {ccd : Value} {cl : List (Str × Addr)} {outer : List Env} {A₀ : Around} {base h₀ : Heap} {L : Addr} {m mg mb : Str → Option Value}
    {news : List (Addr × Obj)} {s : Shared} {Q E : Value → Shared → Prop} {loose : List Str} {mean : ExcName → Option Value}
    (B : Below A₀ base outer h₀) (F : Fr h₀ L s.heap m) (N : News h₀ L s.heap news) (XB : (hd.heap_1 w.params).In base) (TB : Top topProg loose mean mg mb base) (hk : cs.kind = .function) (hdp : dp + 3 < recursionLimit) (hu : un + 30 < cLine)
    {f : FL} {lim : Int} (H : FRep news f lim) (hT : lim ≤ 900) {many : Int} {tm : Tok} (hm : 0 < many) (hm2 : many ≤ 100)
    (ret : ∀ (r : Int) t h' tk' news', 0 ≤ r → r < many → Fr h₀ L h' m → News h₀ L h' news' → FRep news' f (lim + 1) → (∀ p ∈ news, p.1 ≠ f.fd → p ∈ news') → Q (.int r t) { s with heap := h', toks := tk' }) :
    wpAny (model PySem.Challenge.rw_pq0172_01.row.prog w) (ktrTop dp un gd cn cs L a ccd cl outer) (call (.ref 172) [.ref f.fd, .int many tm]) Q E s := by
  revert XB; k_fill; intro XB
  have X := XB.keeps B.stays
  have T := TB.keeps B.stays
  obtain ⟨turn, tk, vs, ns, n1, n2, m1, m2, hi, h0, h1, hl⟩ := H.has
  have hne := H.ne
  refine wpAny_call ?_
  k_dflt ktr_enter
  walk_at "mine fold"
  k_steps
  k_dflt (refine' setL ?F ?N m1 (by decide) (by decide) (by simp) ?_; (case F => k_asm); (case N => k_asm))
  intro h2 news2 n2 F2 N2 m1' K2
  have m2' := K2.mem m2 hne
  (try dsimp only at m1')
  have H2 : FRep news2 f (lim + 1) := ⟨⟨turn + 1, _, vs, ns, n2, _, m1', m2', hi, by omega, by omega, hl⟩, hne⟩
  k_steps
  · exact ret _ _ _ _ news2 (Int.fmod_nonneg_of_pos _ hm) (Int.fmod_lt_of_pos _ hm) (by k_asm) (by k_asm) H2 K2
  · exact ret _ _ _ _ news2 (Int.fmod_nonneg_of_pos _ hm) (Int.fmod_lt_of_pos _ hm) (by k_asm) (by k_asm) H2 K2


end
/-! En -/
section
set_option maxRecDepth 100000
/-! into a def and out of it, where the ground may turn -/
def LeaveT (R : Result → Shared → Prop) (v : Value) (s' : Shared) : Prop := R (.ok (.ret v)) s'
section
variable {prog : Program} {w : World} {A₀ A : Around} {s : Shared} {base h₀ : Heap} {outer : List Env} {L : Addr} {m mg mb : Str → Option Value} {env : Env} {news : List (Addr × Obj)} {K : Frag} {p : Program} {loose : List Str} {mean : ExcName → Option Value}
  {R : Result → Shared → Prop} {name qual : Str} {params : Arguments} {body : List Stmt} {scope : Scope} {dV kV doc pm cdv ct oc : Value} {an od : Option Addr} {osl : Array (Option Value)} {f : Addr} {args : Args} {binds : List (Str × Value)}
theorem defT (B : Below A₀ base outer h₀) (F : Fr h₀ L s.heap m) (X₀ : K.In h₀) (N : News h₀ L s.heap news) (T : Top p loose mean mg mb h₀) (hA : A.frames = some (env :: outer)) (hf : env.frame = some L) (hke : env.scope.kind = .function)
    (ho : K.lookup f = some ⟨oc, od, .func (fnOf name qual params body scope dV kV doc pm an cdv ct), osl⟩) (hcd : codeIn K cdv qual = true) (hroom : A.depth < recursionLimit)
    (hbind : BindsTo s (fnOf name qual params body scope dV kV doc pm an cdv ct) args binds) (hloc : ∀ y ∈ binds, scope.names.lookup y.1 = some .local)
    (h : ∀ g L' h₁, Fr h₀ L g m → Fr g L' h₁ (fun y => binds.reverse.lookup y) → News g L' h₁ news → Below A base (env :: outer) g → K.In g → Top p loose mean mg mb g → (∀ p ∈ news, p.1 < L') →
      wpAny (model prog w) (A.deeper (envOf qual scope L' f cdv)) (execs body (envOf qual scope L' f cdv))
        (fun fl s' => LeaveT R (match fl with | .ret v => v | _ => .none) s')
        (fun e s' => wpAny (model prog w) (A.deeper (envOf qual scope L' f cdv)) (leaving (envOf qual scope L' f cdv) e) (fun _ s'' => R (.error e) s'') (fun e' s'' => R (.error e') s'') s')
        { s with heap := h₁, toks := s.toks + binds.length })
    (hco : scope.isCoroutine = false) (hgen : scope.isGenerator = false) (hk : scope.kind = .function) (hcell : ∀ x ∈ scope.names, x.2 ≠ .cell) : codeAny (model prog w) A (.call (.ref f) args) R s := by
  obtain ⟨FG, BG, st, _⟩ := groundX (R := R) B F N hA hf hke
  have XH := X₀.keeps F.keep
  refine codeAny_call_def (fd := fnOf name qual params body scope dV kV doc pm an cdv ct) (body := body) (binds := binds) hroom (XH _ _ ho) rfl (T.nolimit.keeps F.keep) (codeRec_of XH hcd) rfl hbind hcell hloc (fun h₁ ns up => ?_) hco hgen hk
  refine h _ _ h₁ FG ⟨ns, fun b o e => up b o (of_hideAll _ e), Nat.le_of_eq (hideAll_size _ _)⟩ (fun q hq => ?_) BG (X₀.keeps st) (T.keeps st) fun q hq => Heap.lt_size (N q hq).1
  exact ⟨up _ _ (N q hq).1, Nat.ne_of_lt (Heap.lt_size (N q hq).1), hideAll_none _ (List.mem_map_of_mem hq)⟩
theorem defCT (B : Below A₀ base outer h₀) (F : Fr h₀ L s.heap m) (X₀ : K.In h₀) (N : News h₀ L s.heap news) (T : Top p loose mean mg mb h₀) (hA : A.frames = some (env :: outer)) (hf : env.frame = some L) (hke : env.scope.kind = .function)
    (ho : K.lookup f = some ⟨oc, od, .func (fnOf name qual params body scope dV kV doc pm an cdv ct), osl⟩) (hcd : codeIn K cdv qual = true) (hroom : A.depth < recursionLimit)
    (hbind : BindsTo s (fnOf name qual params body scope dV kV doc pm an cdv ct) args binds) (hkind : (binds.all fun y => scope.names.lookup y.1 == some .local || scope.names.lookup y.1 == some .cell) = true)
    (hnd : ((cellsFrom 0 scope.names []).map (·.1)).Nodup)
    (h : ∀ g L' h₁ tk cells, Fr h₀ L g m → Fr g L' h₁ (bindL (envOfC qual scope L' f cdv).kindOf binds fun _ => none) → News g L' h₁ (cells ++ news) →
      CellsAre (bindC (envOfC qual scope L' f cdv).kindOf binds fun _ => none) (cellsFrom (L' + 1) scope.names []) cells → Below A base (env :: outer) g → K.In g → Top p loose mean mg mb g → (∀ p ∈ news, p.1 < L') →
      wpAny (model prog w) (A.deeper (envOfC qual scope L' f cdv)) (execs body (envOfC qual scope L' f cdv))
        (fun fl s' => LeaveT R (match fl with | .ret v => v | _ => .none) s')
        (fun e s' => wpAny (model prog w) (A.deeper (envOfC qual scope L' f cdv)) (leaving (envOfC qual scope L' f cdv) e) (fun _ s'' => R (.error e) s'') (fun e' s'' => R (.error e') s'') s')
        { s with heap := h₁, toks := tk })
    (hco : scope.isCoroutine = false) (hgen : scope.isGenerator = false) (hk : scope.kind = .function) : codeAny (model prog w) A (.call (.ref f) args) R s := by
  obtain ⟨FG, BG, st, _⟩ := groundX (R := R) B F N hA hf hke
  have XH := X₀.keeps F.keep
  have up0 := T.nolimit.keeps F.keep
  refine codeAny_call_function hroom (XH _ _ ho) rfl hco hgen rfl (codeRec_of XH hcd) (hbind _ _ _ _ ?_)
  refine wpAny_newFunctionEnv_cells hk (kindsX hkind _) fun env' he s' x => ?_
  subst he
  refine ⟨up0.keeps x.toInCall.keep, codeAny_func ?_⟩
  obtain ⟨h₁, tk, rfl, _⟩ := x.done
  have up := x.toInCall.keep
  obtain ⟨cells, NC, Y⟩ := Cl.news (h₀ := s.heap) (Nat.le_refl _) fun n c hm => ⟨x.cell n c (lookup_of_mem_nodup (cellsFrom_names scope.names 0 (s.heap.objs.size + 1) [] [] rfl ▸ hnd) hm), x.above n c hm⟩
  refine h _ _ h₁ tk cells FG ⟨x.toInCall.ns, fun b o e => up b o (of_hideAll _ e), Nat.le_of_eq (hideAll_size _ _)⟩ (fun q hq => ?_) Y BG (X₀.keeps st) (T.keeps st) fun q hq => Heap.lt_size (N q hq).1
  rcases List.mem_append.mp hq with hq | hq
  · exact ⟨(NC q hq).1, (NC q hq).2.1, kts_none (fun b o e => of_hideAll _ e) (NC q hq).2.2⟩
  · exact ⟨up _ _ (N q hq).1, Nat.ne_of_lt (Heap.lt_size (N q hq).1), hideAll_none _ (List.mem_map_of_mem hq)⟩
end
end
local macro_rules | `(tactic| walk_at "mine enterT") => `(tactic| (refine' defT ?k1 ?k2 ?k3 ?k4 ?k5 ?kA ?kF ?kK ?k6 ?k7 ?k8 ?k9 ?kB ?_ ?c2 ?c3 ?c4 ?c5; (case kA => exact rfl); (case kF => exact rfl); (case kK => assumption); (case k1 => k_asm); (case k2 => k_asm); (case k3 => k_asm); (case k4 => k_asm); (case k5 => k_asm); (case k6 => k_is); (case k7 => k_is); (case k8 => ktr_room); (case k9 => exact BindsTo.of_eq rfl); (case c5 => decide); (case kB => exact locs rfl); (case c2 => exact rfl); (case c3 => exact rfl); (case c4 => exact rfl); k_whole; intro g' L' h' FG' F' N' B' X' T' l1; (try dsimp only); (try k_fold)))
local macro_rules | `(tactic| walk_at "mine enterCT") => `(tactic| (refine' defCT ?k1 ?k2 ?k3 ?k4 ?k5 ?kA ?kF ?kK ?k6 ?k7 ?k8 ?k9 ?kB ?kD ?_ ?c2 ?c3 ?c4; (case kA => exact rfl); (case kF => exact rfl); (case kK => assumption); (case k1 => k_asm); (case k2 => k_asm); (case k3 => k_asm); (case k4 => k_asm); (case k5 => k_asm); (case k6 => k_is); (case k7 => k_is); (case k8 => ktr_room); (case k9 => exact BindsTo.of_eq rfl); (case kB => exact rfl); (case kD => decide +kernel); (case c2 => exact rfl); (case c3 => exact rfl); (case c4 => exact rfl); k_whole; intro g' L' h' tk' cells' FG' F' N' Y' B' X' T' l1; k_cells Y'; (try simp only [List.cons_append, List.nil_append] at N'); (try dsimp only); (try k_fold)))

/-! H1 -/
section
def CallSpec (w : World) (base : Heap) (fv : Value) (news : List (Addr × Obj)) (V : Value → List (Addr × Obj) → Prop) (X : Str → Prop) : Prop :=
  ∀ (dp un : Nat) (gd : Option (List Code)) (cn : Str) (cs : Scope) (L a : Addr) (ccd : Value) (cl : List (Str × Addr)) (outer : List Env) (A₀ : Around) (h₀ : Heap) (m : Str → Option Value) (s : Shared) (Q E : Value → Shared → Prop),
    Below A₀ base outer h₀ → Fr h₀ L s.heap m → News h₀ L s.heap news → cs.kind = .function → dp + 18 < recursionLimit → un + 180 < cLine →
    (∀ v h' tk' news', Fr h₀ L h' m → News h₀ L h' news' → V v news' → Q v { s with heap := h', toks := tk' }) → (∀ code, X code → Err A₀ base outer h₀ L m news code s E) →
    wpAny (model PySem.Challenge.rw_pq0172_01.row.prog w) (ktrTop dp un gd cn cs L a ccd cl outer) (call fv []) Q E s
def HRes (V : Value → List (Addr × Obj) → Prop) (X : Str → Prop) (news : List (Addr × Obj)) (v : Value) (news' : List (Addr × Obj)) : Prop :=
  V v news' ∨ ∃ code tr, X code ∧ v = .str ("refused " ++ code) tr ∧ ∀ p ∈ news, p ∈ news'
theorem LeaveT.close {A₀ A₁ : Around} {base h₀ g g' : Heap} {outer : List Env} {L L' : Addr} {m m' : Str → Option Value} {news' : List (Addr × Obj)} {s' : Shared} {v : Value} {env : Env} {R : Result → Shared → Prop} (_B : Below A₁ base (env :: outer) g') (B : Below A₀ base outer h₀) (FG : Fr h₀ L g m) (hf : env.frame = some L) (T : KtsTurn ((env :: outer).filterMap (·.frame)) g g') (F : Fr g' L' s'.heap m') (N : News g' L' s'.heap news')
    (ret : ∀ h₀', KtsTurn (outer.filterMap (·.frame)) h₀ h₀' → Fr h₀' L s'.heap m → News h₀' L s'.heap news' → Below A₀ base outer h₀' → R (.ok (.ret v)) s') : LeaveT R v s' := by
  obtain ⟨h₀', a, b, c, d⟩ := exitX B FG hf T F N
  exact ret h₀' a b c d
end
local macro_rules | `(tactic| walk_at "mine leaveT") => `(tactic| (refine' LeaveT.close ?B1 ?B ?FG ?hf ?T ?F ?N ?_; (case F => k_asm); (case N => k_asm); (case B1 => assumption); (case T => first | assumption | exact KtsTurn.refl); (case FG => assumption); (case B => assumption); (case hf => exact rfl); intro h0' T0' F0' N0' B0'; (try dsimp only)))
section
set_option maxRecDepth 100000 in
set_option maxHeartbeats 8000000 in
theorem heard_ok {w : World} {dp un : Nat} {gd : Option (List Code)} {cn : Str} {cs : Scope} {a : Addr} {ccd : Value} {cl : List (Str × Addr)} {outer : List Env} {A₀ : Around} {base h₀ : Heap} {L : Addr} {m mg mb : Str → Option Value}
    {news : List (Addr × Obj)} {s : Shared} {Q E : Value → Shared → Prop} {loose : List Str} {mean : ExcName → Option Value}
    (B : Below A₀ base outer h₀) (F : Fr h₀ L s.heap m) (N : News h₀ L s.heap news) (XB : (hd.heap_1 w.params).In base) (TB : Top topProg loose mean mg mb base) (hk : cs.kind = .function) (hdp : dp + 22 < recursionLimit) (hu : un + 220 < cLine)
    {f : Addr} {V : Value → List (Addr × Obj) → Prop} {X : Str → Prop} (S : CallSpec w base (.ref f) news V X) (hX : ∀ code, X code → code.length ≤ 100) {oc : Value} {od : Option Addr} {fd : FuncData} {sl : Array (Option Value)} (hfn : (f, (⟨oc, od, .func fd, sl⟩ : Obj)) ∈ news)
    (ret : ∀ v h' tk' g' news', KtsTurn (outer.filterMap (·.frame)) h₀ g' → Fr g' L h' m → News g' L h' news' → Below A₀ base outer g' → HRes V X news v news' → Q v { s with heap := h', toks := tk' }) :
    wpAny (model PySem.Challenge.rw_pq0172_01.row.prog w) (ktrTop dp un gd cn cs L a ccd cl outer) (call (.ref 179) [.ref f]) Q E s := by
  revert XB; k_fill; intro XB
  have X := XB.keeps B.stays
  have T := TB.keeps B.stays
  refine wpAny_call ?_
  k_dflt (walk_at "mine enterT")
  k_steps
  k_dflt (refine callWith_F0 (FnAt.of (by k_asm) hfn) ?_)
  dsimp only [List.nil_append]
  k_dflt (refine S _ _ _ _ _ _ _ _ _ _ _ _ _ _ _ _ (by k_asm) (by k_asm) (by k_asm) rfl (by ktr_room) (by ktr_units) ?_ ?_)
  · intro v h2 tk2 n2 F2 N2 v2
    k_steps
    k_dflt (walk_at "mine leaveT")
    exact ret v _ _ _ n2 (by assumption) (by assumption) (by assumption) (by assumption) (.inl v2)
  · intro code hc e h2 tk2 g2 n2 lo T2 F2 N2 B2 x2 c2 l2
    dsimp only
    refine catchG B2 F2 N2 XB TB x2 (by k_dflt k_is) (by kernel_rfl) ?_
    intro h3 g3 n3 tk3 T3 F3 N3 x3 K3 B3 X3 P3
    have T23 := KtsTurn.trans T2 T3
    have hlen := hX code hc
    k_steps
    obtain ⟨oe, vs, T₀, oT₀, ts₀, d, es, n, tc, y1, y2, y3, y4, y5, y6, y7, y8, y9, y10, y11, y12, y13, y14, y15⟩ := id x3
    obtain ⟨cd, hc1, hmro, hdc⟩ : ∃ cd, clsIn (hd.heap_1 w.params) 34 = some cd ∧ cd.mro = .ref 34 :: excTail ∧ cd.hasDict = true := ⟨_, by k_dflt k_is, rfl, rfl⟩
    have hfo : findObj (hd.heap_1 w.params) 34 (some (dictOf es n)) "code" = some (.value (.str code tc)) := by
      have a2 : findIn (hd.heap_1 w.params) (.ref 34) "code" = some none := by k_dflt k_is
      have a3 : PySem.W.ownOf cd (some (dictOf es n)) "code" = some (some (.str code tc)) := by
        unfold PySem.W.ownOf
        rw [if_pos hdc]
        exact y11
      unfold findObj
      rw [hc1, Option.bind_some, a2]
      simp only [Option.bind_some, a3]
    have hI : PySem.W.InstAt h3 e oe 34 (some (dictOf es n)) := by
      refine ⟨(N3 _ y1).1, y2, ?_, ?_⟩
      · unfold notCls; rw [y4]
      · rw [y3]; exact (N3 _ y10).1
    refine exc_attr (C := 34) (v := .str code tc) (X3.keeps F3.keep) hI (by k_dflt k_is) (by k_dflt k_is) (by k_dflt k_is) hfo rfl ?_
    k_steps
    k_dflt (walk_at "mine leaveT")
    exact ret _ _ _ _ n3 (by assumption) (by assumption) (by assumption) (by assumption) (.inr ⟨code, _, hc, rfl, fun p hp => K3 p (c2 p hp) (l2 p hp)⟩)


end
/-! Lm -/
section
set_option maxRecDepth 100000
/-! lambdas: the table of the codes made -/
def tri : List (Pos × Addr) → List Value
  | [] => []
  | q :: r => rawInt q.1.line :: rawInt q.1.col :: .ref q.2 :: tri r
theorem tri_snoc (l : List (Pos × Addr)) (p : Pos) (c : Addr) : tri (l ++ [(p, c)]) = tri l ++ [rawInt p.line, rawInt p.col, .ref c] := by
  induction l with
  | nil => rfl
  | cons q r ih => simp only [List.cons_append, tri, ih]
theorem tri_ok (l : List (Pos × Addr)) : TriplesOk (tri l) := by
  induction l with
  | nil => trivial
  | cons q r ih => exact ih
theorem tri_some {l : List (Pos × Addr)} {p : Pos} {v : Value} (h : codeAmong p (tri l) = some v) : ∃ q ∈ l, v = .ref q.2 := by
  induction l with
  | nil => cases h
  | cons q r ih =>
    simp only [tri, rawInt, codeAmong] at h
    split at h
    · exact ⟨q, .head _, (Option.some.inj h).symm⟩
    · obtain ⟨q', hq, e⟩ := ih h
      exact ⟨q', .tail _ hq, e⟩
def TabRep (news : List (Addr × Obj)) (P : Addr) (qual : Str) : Prop :=
  ∃ l : List (Pos × Addr), (P, tabObj (tri l).toArray) ∈ news ∧ ∀ q ∈ l, q.2 ≠ P ∧ ∃ oc vs t, (q.2, oc) ∈ news ∧ oc.data = .fields vs ∧ vs[1]? = some (.str qual t)
theorem TabRep.mono {news news' : List (Addr × Obj)} {P : Addr} {qual : Str} (H : TabRep news P qual) (k : ∀ p ∈ news, (∀ vs, p.2.data = .fields vs → p ∈ news')) : TabRep news' P qual := by
  obtain ⟨l, a, b⟩ := H
  refine ⟨l, k _ a _ rfl, fun q hq => ?_⟩
  obtain ⟨n, oc, vs, t, c, d, e⟩ := b q hq
  exact ⟨n, oc, vs, t, k _ c _ d, d, e⟩
section
variable {M : Model} {A : Around} {E : Value → Shared → Prop} {s : Shared} {h₀ : Heap} {L a c P : Addr} {m mg mb : Str → Option Value} {cn : Str} {cs : Scope} {ccd : Value} {cl : List (Str × Addr)} {news : List (Addr × Obj)}
  {p : Program} {loose : List Str} {mean : ExcName → Option Value} {params : Arguments} {body : PySem.Expr} {scope : Scope} {pos : Pos} {clos : List (Str × Addr)} {Q : Value → Shared → Prop} {qual : Str}
theorem lam_eval (F : Fr h₀ L s.heap m) (N : News h₀ L s.heap news) (T : Top p loose mean mg mb h₀) (C : CodeHd h₀ c P) (H : TabRep news P qual) (hcd : ccd = .ref c) (hq : (envX cn cs L a ccd cl).qual ++ "<lambda>" = qual) (hdef : defaultsOf params (envX cn cs L a ccd cl) = ([], [])) (hcl : closureFor scope (envX cn cs L a ccd cl) = pure clos)
    (h : ∀ f c' oc vs t pm ctv h' tk news', Fr h₀ L h' m → News h₀ L h' news' → (f, kla_obj "<lambda>" qual params body scope clos pm c' ctv) ∈ news' → (c', oc) ∈ news' → oc.data = .fields vs → vs[1]? = some (.str qual t) → TabRep news' P qual →
      (∀ p ∈ news, p.1 ≠ P → p ∈ news') → (∀ p ∈ news, p.1 < f) → Q (.ref f) { s with heap := h', toks := tk }) : wpAny M A (eval (.Lambda params body scope pos) (envX cn cs L a ccd cl)) Q E s := by
  subst hq
  obtain ⟨l, hm, hall⟩ := H
  refine kla_eval hdef ?_
  cases q : codeAmong pos (tri l) with
  | some v =>
    obtain ⟨r, hr, rfl⟩ := tri_some q
    obtain ⟨n, oc, vs, t, c1, c2, c3⟩ := hall r hr
    exact kla_hit F N T C hcd hm (tri_ok l) q hcl fun f ctv h' tk F' N' lt => h f r.2 oc vs t _ ctv h' tk _ F' N' (.head _) (.tail _ c1) c2 c3 ⟨l, .tail _ hm, fun z hz => let ⟨n, oc, vs, t, c1, c2, c3⟩ := hall z hz; ⟨n, oc, vs, t, .tail _ c1, c2, c3⟩⟩ (fun p hp _ => .tail _ hp) lt
  | none =>
    have N2 : News h₀ L s.heap ((P, tabObj (tri l).toArray) :: news.filter fun p => p.1 != P) := fun p hp => by
      rcases List.mem_cons.mp hp with rfl | hp
      · exact N _ hm
      · exact N p (List.mem_filter.mp hp).1
    refine kla_nest F N2 T C hcd (.head fun p hp => by simpa using (List.mem_filter.mp hp).2) (tri_ok l) q hcl fun f c' oc vs t ctv h' tk F' N' d1 d2 l1 l2 => ?_
    have lP : P < c' := l1 _ (.head _)
    have lt : ∀ p ∈ news, p.1 < c' := fun p hp => by
      by_cases e : p.1 = P
      · rw [e]; exact lP
      · exact l1 p (.tail _ (List.mem_filter.mpr ⟨hp, by simpa using e⟩))
    refine h f c' oc vs t _ ctv h' tk _ F' N' (.head _) (.tail _ (.head _)) d1 d2 ⟨l ++ [(pos, c')], ?_, fun z hz => ?_⟩ (fun p hp hn => .tail _ (.tail _ (.tail _ (List.mem_filter.mpr ⟨hp, by simpa using hn⟩)))) fun p hp => Nat.lt_trans (lt p hp) l2
    · rw [tri_snoc]
      refine .tail _ (.tail _ ?_)
      simp
      exact .head _
    · rcases List.mem_append.mp hz with hz | hz
      · obtain ⟨n, oc, vs, t, c1, c2, c3⟩ := hall z hz
        exact ⟨n, oc, vs, t, .tail _ (.tail _ (.tail _ (List.mem_filter.mpr ⟨c1, by simpa using n⟩))), c2, c3⟩
      · rw [List.mem_singleton.mp hz]
        exact ⟨Nat.ne_of_gt lP, oc, vs, t, .tail _ (.head _), d1, d2⟩
end

end
/-! G1 -/
section
def endedR (σ : St) (k : Int) : Except Str Bool := match vat σ.chans k with
  | none => .error "BN"
  | some c => if c.mode = "I" then .ok (decide (((vat σ.files c.name).getD "").length ≤ c.at_)) else .error "BM"
def placeR (σ : St) (k : Int) : Except Str Nat := match vat σ.chans k with
  | none => .error "BN"
  | some c => .ok c.at_
def lengthR (σ : St) (k : Int) : Except Str Nat := match vat σ.chans k with
  | none => .error "BN"
  | some c => .ok ((vat σ.files c.name).getD "").length
theorem WF.file {σ : St} {b : Nat} (H : WF σ b) {k : Int} {c : Ch} (hv : vat σ.chans k = some c) : ∃ t, vat σ.files c.name = some t ∧ (c.mode = "I" → c.at_ ≤ t.length) ∧ t.length ≤ 1000 := by
  obtain ⟨t, a, e⟩ := H.has _ (vat_mem hv)
  exact ⟨t, a, e, Nat.le_trans (H.size _ (vat_mem a)) H.bound⟩
theorem WF.mode3 {σ : St} {b : Nat} (H : WF σ b) {k : Int} {c : Ch} (hv : vat σ.chans k = some c) : c.mode = "I" ∨ c.mode = "O" ∨ c.mode = "A" := H.mode _ (vat_mem hv)
set_option maxRecDepth 100000 in
set_option maxHeartbeats 8000000 in
theorem ended_gen {w : World} {dp un : Nat} {gd : Option (List Code)} {cn : Str} {cs : Scope} {a : Addr} {ccd : Value} {cl : List (Str × Addr)} {outer : List Env} {A₀ : Around} {base h₀ : Heap} {L : Addr} {m mg mb : Str → Option Value}
    {news : List (Addr × Obj)} {s : Shared} {Q E : Value → Shared → Prop} {loose : List Str} {mean : ExcName → Option Value}
    (B : Below A₀ base outer h₀) (F : Fr h₀ L s.heap m) (N : News h₀ L s.heap news) (XB : (hd.heap_1 w.params).In base) (TB : Top topProg loose mean mg mb base) (hk : cs.kind = .function) (hdp : dp + 12 < recursionLimit) (hu : un + 120 < cLine)
    {l : WL} {σ : St} (H : WRep w news l σ) {b : Nat} (wf : WF σ b) {k : Int} {tk : Tok}
    (he : ∀ code, endedR σ k = .error code → Err A₀ base outer h₀ L m news code s E)
    (ret : ∀ r, endedR σ k = .ok r → ∀ h' tk' news', Fr h₀ L h' m → News h₀ L h' news' → (∀ p ∈ news, p ∈ news') → Q (.bool r) { s with heap := h', toks := tk' }) :
    wpAny (model PySem.Challenge.rw_pq0172_01.row.prog w) (ktrTop dp un gd cn cs L a ccd cl outer) (call (.ref 129) [.ref l.wi, .int k tk]) Q E s := by
  cases hv : vat σ.chans k with
  | none => exact ended_err B F N XB TB hk hdp hu H (.inl ⟨hv, rfl⟩) (he _ (by rw [endedR, hv]))
  | some c =>
    obtain ⟨t, hf, _, hl⟩ := wf.file hv
    rcases wf.mode3 hv with hm | hm | hm
    · have e : endedR σ k = .ok (decide ((t.length : Int) ≤ (c.at_ : Int))) := by
        rw [endedR, hv]
        simp [hm, hf]
      exact ended_ok B F N XB TB hk hdp hu H hv (by rw [hm]; decide) (by rw [hm]; decide) hf hl (ret _ e)
    · exact ended_err B F N XB TB hk hdp hu H (.inr ⟨_, hv, by rw [hm]; decide, rfl⟩) (he _ (by rw [endedR, hv]; simp only [hm]; rw [if_neg (by decide)]))
    · exact ended_err B F N XB TB hk hdp hu H (.inr ⟨_, hv, by rw [hm]; decide, rfl⟩) (he _ (by rw [endedR, hv]; simp only [hm]; rw [if_neg (by decide)]))
set_option maxRecDepth 100000 in
set_option maxHeartbeats 8000000 in
theorem place_gen {w : World} {dp un : Nat} {gd : Option (List Code)} {cn : Str} {cs : Scope} {a : Addr} {ccd : Value} {cl : List (Str × Addr)} {outer : List Env} {A₀ : Around} {base h₀ : Heap} {L : Addr} {m mg mb : Str → Option Value}
    {news : List (Addr × Obj)} {s : Shared} {Q E : Value → Shared → Prop} {loose : List Str} {mean : ExcName → Option Value}
    (B : Below A₀ base outer h₀) (F : Fr h₀ L s.heap m) (N : News h₀ L s.heap news) (XB : (hd.heap_1 w.params).In base) (TB : Top topProg loose mean mg mb base) (hk : cs.kind = .function) (hdp : dp + 12 < recursionLimit) (hu : un + 120 < cLine)
    {l : WL} {σ : St} (H : WRep w news l σ) {b : Nat} (wf : WF σ b) {k : Int} {tk : Tok}
    (he : ∀ code, placeR σ k = .error code → Err A₀ base outer h₀ L m news code s E)
    (ret : ∀ r, placeR σ k = .ok r → ∀ tr h' tk' news', Fr h₀ L h' m → News h₀ L h' news' → (∀ p ∈ news, p ∈ news') → Q (.int r tr) { s with heap := h', toks := tk' }) :
    wpAny (model PySem.Challenge.rw_pq0172_01.row.prog w) (ktrTop dp un gd cn cs L a ccd cl outer) (call (.ref 136) [.ref l.wi, .int k tk]) Q E s := by
  cases hv : vat σ.chans k with
  | none => exact place_none B F N XB TB hk hdp hu H hv (he _ (by rw [placeR, hv]))
  | some c =>
    have e : placeR σ k = .ok c.at_ := by rw [placeR, hv]
    rcases wf.mode3 hv with hm | hm | hm <;> exact place_ok B F N XB TB hk hdp hu H hv (by rw [hm]; decide) (by rw [hm]; decide) (ret _ e)
set_option maxRecDepth 100000 in
set_option maxHeartbeats 8000000 in
theorem length_gen {w : World} {dp un : Nat} {gd : Option (List Code)} {cn : Str} {cs : Scope} {a : Addr} {ccd : Value} {cl : List (Str × Addr)} {outer : List Env} {A₀ : Around} {base h₀ : Heap} {L : Addr} {m mg mb : Str → Option Value}
    {news : List (Addr × Obj)} {s : Shared} {Q E : Value → Shared → Prop} {loose : List Str} {mean : ExcName → Option Value}
    (B : Below A₀ base outer h₀) (F : Fr h₀ L s.heap m) (N : News h₀ L s.heap news) (XB : (hd.heap_1 w.params).In base) (TB : Top topProg loose mean mg mb base) (hk : cs.kind = .function) (hdp : dp + 12 < recursionLimit) (hu : un + 120 < cLine)
    {l : WL} {σ : St} (H : WRep w news l σ) {b : Nat} (wf : WF σ b) {k : Int} {tk : Tok}
    (he : ∀ code, lengthR σ k = .error code → Err A₀ base outer h₀ L m news code s E)
    (ret : ∀ r, lengthR σ k = .ok r → ∀ tr h' tk' news', Fr h₀ L h' m → News h₀ L h' news' → (∀ p ∈ news, p ∈ news') → Q (.int r tr) { s with heap := h', toks := tk' }) :
    wpAny (model PySem.Challenge.rw_pq0172_01.row.prog w) (ktrTop dp un gd cn cs L a ccd cl outer) (call (.ref 143) [.ref l.wi, .int k tk]) Q E s := by
  cases hv : vat σ.chans k with
  | none => exact length_none B F N XB TB hk hdp hu H hv (he _ (by rw [lengthR, hv]))
  | some c =>
    obtain ⟨t, hf, _, hl⟩ := wf.file hv
    have e : lengthR σ k = .ok t.length := by rw [lengthR, hv]; simp [hf]
    rcases wf.mode3 hv with hm | hm | hm <;> exact length_ok B F N XB TB hk hdp hu H hv (by rw [hm]; decide) hf hl (ret _ e)


end
/-! G2 -/
section
open PyProof.V
def CallHere (prog : Program) (w : World) (A : Around) (f : Addr) (args : List Value) (Q : Value → Shared → Prop) (E : Value → Shared → Prop) (s : Shared) : Prop := wpAny (model prog w) A (call (.ref f) args) Q E s
theorem call_here {prog : Program} {w : World} {A : Around} {f : Addr} {args : List Value} {Q : Value → Shared → Prop} {E : Value → Shared → Prop} {s : Shared} (h : CallHere prog w A f args Q E s) : wpAny (model prog w) A (call (.ref f) args) Q E s := h
def markers : List Addr := [172, 179, 184, 191, 198, 203, 210, 215, 129, 136, 143, 49, 87, 94, 70, 115, 122, 75, 80]
theorem call_hereL {prog : Program} {w : World} {A : Around} {f : Addr} {args : List Value} {Q : Value → Shared → Prop} {E : Value → Shared → Prop} {s : Shared} (_ : markers.contains f = true) (h : CallHere prog w A f args Q E s) : wpAny (model prog w) A (call (.ref f) args) Q E s := h
end
local macro_rules | `(tactic| walk_at "call ref") => `(tactic| (k_here; k_dflt (refine' call_hereL ?a ?_; (case a => decide))))
local macro_rules | `(tactic| walk_at "mine lam") => `(tactic| (refine' kla_code ?k1 ?k2 ?k3 ?k4 ?k5 ?kA ?kF ?kK ?k6 ?k7 ?k8 ?k9 ?kB ?_ ?c2 ?c3 ?c4 ?c5; (case kA => exact rfl); (case kF => exact rfl); (case kK => assumption); (case k1 => k_asm); (case k2 => k_asm); (case k3 => k_asm); (case k4 => k_asm); (case k5 => k_asm); (case k6 => assumption); (case k7 => exact codeRec_news (by k_asm) (by assumption) (by assumption) (by assumption)); (case k8 => ktr_room); (case k9 => exact rfl); (case c5 => decide); (case kB => exact locs rfl); (case c2 => exact rfl); (case c3 => exact rfl); (case c4 => exact rfl); k_whole; intro g' L' h' FG' F' N' B' X' T'; (try dsimp only); (try k_fold)))
section
open PyProof.V
theorem HRes.sub {V : Value → List (Addr × Obj) → Prop} {X : Str → Prop} {news n' : List (Addr × Obj)} {v : Value} (hV : ∀ v n', V v n' → ∀ p ∈ news, p ∈ n') (h : HRes V X news v n') : ∀ p ∈ news, p ∈ n' := by
  rcases h with h | ⟨_, _, _, _, h⟩
  · exact hV _ _ h
  · exact h
theorem WRep.on {w : World} {news news' : List (Addr × Obj)} {l : WL} {σ : St} (H : WRep w news l σ) (k : ∀ p ∈ news, p.1 ∈ l.all σ → p ∈ news') : WRep w news' l σ where
  inst := k _ H.inst (by simp [WL.all])
  dict := let ⟨es, n, a, r⟩ := H.dict; ⟨es, n, k _ a (by simp [WL.all]), r⟩
  fields := let ⟨o, a, r⟩ := H.fields; ⟨o, k _ a (by simp [WL.all]), r⟩
  files := let ⟨o, tk, a, r⟩ := H.files; ⟨o, tk, k _ a (by simp [WL.all]), r⟩
  opens := let ⟨o, a, r⟩ := H.opens; ⟨o, k _ a (by simp [WL.all]), r⟩
  chans := fun c hc => let ⟨o, a, r⟩ := H.chans c hc; ⟨o, k _ a (by
    simp only [WL.all, List.mem_cons, List.mem_map]
    exact .inr (.inr (.inr (.inr (.inr ⟨c, hc, rfl⟩))))), r⟩
  nodup := H.nodup
  low := H.low
theorem placeR_len {σ : St} {k : Int} {code : Str} (h : placeR σ k = .error code) : code.length ≤ 100 := by
  unfold placeR at h
  split at h <;> cases h; decide
theorem lengthR_len {σ : St} {k : Int} {code : Str} (h : lengthR σ k = .error code) : code.length ≤ 100 := by
  unfold lengthR at h
  split at h <;> cases h; decide
def Lf (σ : St) (left : Int → Str) : Prop := ∀ c ∈ σ.chans, c.2.mode = "I" → ∃ x, vat σ.files c.2.name = some x ∧ left c.1 = Sg (x.cps.toList.drop c.2.at_)
def Asc (σ : St) : Prop := ∀ f ∈ σ.files, ∀ z ∈ f.2.cps.toList, z < 128
theorem refBN : ("refused " : Str) ++ "BN" = "refused BN" := by decide
theorem refBM : ("refused " : Str) ++ "BM" = "refused BM" := by decide
theorem HRes.err {c' : Str} {V : Value → List (Addr × Obj) → Prop} {X : Str → Prop} {news n' : List (Addr × Obj)} {v : Value} {c : Str} (hcc : ("refused " : Str) ++ c = c') (h : HRes V X news v n') (hV : ∀ v n', ¬ V v n') (hX : ∀ code, X code → code = c) : ∃ tr, v = .str c' tr := by
  subst hcc
  rcases h with h | ⟨code, tr, h, e, _⟩
  · exact absurd h (hV _ _)
  · rw [hX _ h] at e; exact ⟨tr, e⟩
theorem HRes.ok {V : Value → List (Addr × Obj) → Prop} {X : Str → Prop} {news n' : List (Addr × Obj)} {v : Value} (h : HRes V X news v n') (hX : ∀ code, ¬ X code) : V v n' := by
  rcases h with h | ⟨code, tr, h, e, _⟩
  · exact h
  · exact absurd h (hX _)
theorem endedR_len {σ : St} {k : Int} {code : Str} (h : endedR σ k = .error code) : code.length ≤ 100 := by
  unfold endedR at h
  split at h
  · cases h; decide
  · split at h
    · cases h
    · cases h; decide
def SameA (a b : Value) : Prop := (a = .none ∧ b = .none) ∨ (∃ r, a = .bool r ∧ b = .bool r) ∨ ∃ x t1 t2, a = .str x t1 ∧ b = .str x t2
theorem eq_sameA {prog : Program} {w : World} {A : Around} {E : Value → Shared → Prop} {s : Shared} {a b : Value} {Q : Value → Shared → Prop} (h : SameA a b) (k : Q (.bool true) s) : wpAny (model prog w) A (compareOp .Eq a b) Q E s := by
  rcases h with ⟨rfl, rfl⟩ | ⟨r, rfl, rfl⟩ | ⟨x, t1, t2, rfl, rfl⟩ <;> walk1 <;> simpa using k
def CutV (s : Shared) (g : Heap) (L : Addr) (m : Str → Option Value) (n0 : List (Addr × Obj)) (C : Prop) (s' : Shared) : Prop := ∃ h' tk n', s' = { s with heap := h', toks := tk } ∧ Fr g L h' m ∧ News g L h' n' ∧ (∀ p ∈ n0, p ∈ n') ∧ C
theorem cutVF {M : Model} {A : Around} {E : Value → Shared → Prop} {s : Shared} {ex : PySem.Expr} {env : Env} {g : Heap} {L : Addr} {m : Str → Option Value} {n0 : List (Addr × Obj)} {C : Value → Prop} {Q : Value → Shared → Prop} (_ : Fr g L s.heap m) (_ : News g L s.heap n0)
    (h : wpAny M A (eval ex env) (fun v s' => CutV s g L m n0 (C v) s') E s) (k : ∀ v, C v → ∀ h' tk n', Fr g L h' m → News g L h' n' → (∀ p ∈ n0, p ∈ n') → Q v { s with heap := h', toks := tk }) : wpAny M A (eval ex env) Q E s := by
  refine wpAny_mono h (fun v s' z => ?_) fun _ _ e => e
  obtain ⟨h', tk, n', rfl, a, b, c, d⟩ := z; exact k v d h' tk n' a b c
section
local macro_rules | `(tactic| walk_at "mine memT") => `(tactic| first | assumption | exact .head _ | (refine .tail _ ?_; walk_at "mine memT"))
local macro_rules | `(tactic| k_mem) => `(tactic| (refine mem_up (by assumption) ?_; walk_at "mine memT"))
local macro_rules | `(tactic| walk_at "eval IfExp") => `(tactic| (k_here; with_reducible refine here_ifexp ?_))
set_option maxRecDepth 100000 in
set_option maxHeartbeats 8000000 in
theorem told_ok {w : World} {dp un : Nat} {gd : Option (List Code)} {cn : Str} {cs : Scope} {a : Addr} {ccd : Value} {cl : List (Str × Addr)} {outer : List Env} {A₀ : Around} {base h₀ : Heap} {L : Addr} {m mg mb : Str → Option Value}
    {news : List (Addr × Obj)} {s : Shared} {Q E : Value → Shared → Prop} {loose : List Str} {mean : ExcName → Option Value}
    (B : Below A₀ base outer h₀) (F : Fr h₀ L s.heap m) (N : News h₀ L s.heap news) (XB : (hd.heap_1 w.params).In base) (TB : Top topProg loose mean mg mb base) (hk : cs.kind = .function) (hdp : dp + 26 < recursionLimit) (hu : un + 260 < cLine)
    {l : WL} {t : TL} {σ : St} {left : Int → Str} {b : Nat} (C5 : CodeHd base 209 205) (HT : TabRep news 205 "_law_told_right.<locals>.<lambda>") (HW : WRep w news l σ) (H : TRep w news t σ left) (wf : WF σ b) {k : Int} {tk : Tok} (hiW : ∀ a ∈ l.all σ, (212 : Nat) < a) (hiT : ∀ a ∈ t.all σ, (212 : Nat) < a)
    (hL : Lf σ left) (hA : Asc σ)
    (ret : ∀ h' tk' g' news', KtsTurn (outer.filterMap (·.frame)) h₀ g' → Fr g' L h' m → News g' L h' news' → Below A₀ base outer g' → TabRep news' 205 "_law_told_right.<locals>.<lambda>" → (∀ p ∈ news, p.1 ≠ 205 → p ∈ news') → Q (.bool true) { s with heap := h', toks := tk' }) :
    wpAny (model PySem.Challenge.rw_pq0172_01.row.prog w) (ktrTop dp un gd cn cs L a ccd cl outer) (call (.ref 210) [.ref l.wi, .ref t.td, .int k tk]) Q E s := by
  revert XB; k_fill; intro XB
  have X := XB.keeps B.stays
  have T := TB.keeps B.stays
  refine wpAny_call ?_
  k_dflt (refine' defCT ?k1 ?k2 ?k3 ?k4 ?k5 ?kA ?kF ?kK ?k6 ?k7 ?k8 ?k9 ?kB ?kD ?_ ?c2 ?c3 ?c4; (case kA => exact rfl); (case kF => exact rfl); (case kK => assumption); (case k1 => k_asm); (case k2 => k_asm); (case k3 => k_asm); (case k4 => k_asm); (case k5 => k_asm); (case k6 => k_is); (case k7 => k_is); (case k8 => ktr_room); (case k9 => exact BindsTo.of_eq rfl); (case kB => exact rfl); (case kD => decide +kernel); (case c2 => exact rfl); (case c3 => exact rfl); (case c4 => exact rfl); k_whole)
  intro gI LI hI tkI cellsI FGI FI NI YI BI XI TI lI
  k_cells YI
  try simp only [List.cons_append, List.nil_append] at NI
  try dsimp only
  try k_fold
  walk_at "mine fold"
  have H5 : (205 : Nat) < LI := by
    obtain ⟨tl, ht, _⟩ := HT
    exact lI _ ht
  k_steps
  k_dflt (refine lam_eval (P := 205) (c := 209) (qual := "_law_told_right.<locals>.<lambda>") (by k_asm) (by k_asm) (by k_asm) (C5.keeps BI.stays) (HT.mono fun p hp _ _ => .tail _ (.tail _ hp)) rfl (by rfl) (by rfl) (by rfl) ?_)
  intro f1 c1 oc1 vs1 tt1 pm1 ctv1 h1 tk1 n1 F1 N1 a1 a2 a3 a4 HT1 K1 lt1
  have e1 := K1 _ (.head _) (Nat.ne_of_gt (Nat.lt_of_lt_of_le H5 (Nat.le_add_right LI 2)))
  have e2 := K1 _ (.tail _ (.head _)) (Nat.ne_of_gt (Nat.lt_of_lt_of_le H5 (Nat.le_add_right LI 1)))
  have HW1 : WRep w n1 l σ := HW.on fun p hp ha => K1 p (.tail _ (.tail _ hp)) (Nat.ne_of_gt (Nat.lt_trans (by decide) (hiW _ ha)))
  k_steps
  k_dflt (refine heard_ok (V := fun v n' => (∀ p ∈ n1, p ∈ n') ∧ ∃ r, endedR σ k = .ok r ∧ v = .bool r) (X := fun code => endedR σ k = .error code) (by k_asm) (by k_asm) (by k_asm) XB TB rfl (by ktr_room) (by ktr_units) ?_ (fun code hc => endedR_len hc) a1 ?_)
  · intro dpA unA gdA cnA csA LA aA ccdA clA outerA AA hA mA sA QA EA BA FA NA hkA hdA huA retA heA
    have XA := XB.keeps BA.stays
    have TA := TB.keeps BA.stays
    refine wpAny_call ?_
    k_dflt (walk_at "mine lam")
    k_steps
    k_dflt (refine ended_gen (by k_asm) (by k_asm) (by k_asm) XB TB rfl (by ktr_room) (by ktr_units) HW1 wf ?_ ?_)
    · intro code hc e' h' tk' g' n' lo' T' F' N' B' x' c' l'
      have he3 := heA code hc
      k_steps
      k_dflt (walk_at "mine err")
    · intro r hr h' tk' n' F' N' c'
      k_steps
      exact retA _ _ _ n' (by k_asm) (by k_asm) ⟨c', r, hr, rfl⟩
  intro v1 h2 tk2 g2 n2 T2 F2 N2 B2 R1
  have s1 := HRes.sub (fun v n' h => h.1) R1
  have X2 := XB.keeps B2.stays
  have P2 := TB.keeps B2.stays
  have e1 := s1 _ e1
  have e2 := s1 _ e2
  have HW2 := HW1.mono s1
  have HT2 := HT1.mono fun p hp _ _ => s1 p hp
  (try clear F1); (try clear N1); (try clear FI); (try clear NI); (try clear HW1); (try clear HT1); (try clear XI); (try clear TI); (try clear BI)
  k_steps
  k_dflt (refine lam_eval (P := 205) (c := 209) (qual := "_law_told_right.<locals>.<lambda>") (by k_asm) (by k_asm) (by k_asm) (C5.keeps B2.stays) HT2 rfl (by rfl) (by rfl) (by rfl) ?_)
  intro f3 c3 oc3 vs3 tt3 pm3 ctv3 h3 tk3 n3 F3 N3 a1 a2 a3 a4 HT3 K3 lt3
  have e1 := K3 _ e1 (Nat.ne_of_gt (Nat.lt_of_lt_of_le H5 (Nat.le_add_right LI 2)))
  have e2 := K3 _ e2 (Nat.ne_of_gt (Nat.lt_of_lt_of_le H5 (Nat.le_add_right LI 1)))
  have HW3 : WRep w n3 l σ := HW2.on fun p hp ha => K3 p hp (Nat.ne_of_gt (Nat.lt_trans (by decide) (hiW _ ha)))
  k_steps
  k_dflt (refine heard_ok (V := fun v n' => (∀ p ∈ n3, p ∈ n') ∧ ∃ (r : Nat) (tr : Tok), placeR σ k = .ok r ∧ v = .int r tr) (X := fun code => placeR σ k = .error code) (by k_asm) (by k_asm) (by k_asm) XB TB rfl (by ktr_room) (by ktr_units) ?_ (fun code hc => placeR_len hc) a1 ?_)
  · intro dpA unA gdA cnA csA LA aA ccdA clA outerA AA hA mA sA QA EA BA FA NA hkA hdA huA retA heA
    have XA := XB.keeps BA.stays
    have TA := TB.keeps BA.stays
    refine wpAny_call ?_
    k_dflt (walk_at "mine lam")
    k_steps
    k_dflt (refine place_gen (by k_asm) (by k_asm) (by k_asm) XB TB rfl (by ktr_room) (by ktr_units) HW3 wf ?_ ?_)
    · intro code hc e' h' tk' g' n' lo' T' F' N' B' x' c' l'
      have he3 := heA code hc
      k_steps
      k_dflt (walk_at "mine err")
    · intro r hr tr h' tk' n' F' N' c'
      k_steps
      exact retA _ _ _ n' (by k_asm) (by k_asm) ⟨c', r, tr, hr, rfl⟩
  intro v2 h4 tk4 g4 n4 T4 F4 N4 B4 R2
  have s2 := HRes.sub (fun v n' h => h.1) R2
  have X4 := XB.keeps B4.stays
  have P4 := TB.keeps B4.stays
  have e1 := s2 _ e1
  have e2 := s2 _ e2
  have HW4 := HW3.mono s2
  have HT4 := HT3.mono fun p hp _ _ => s2 p hp
  (try clear F3); (try clear N3); (try clear F2); (try clear N2); (try clear HW3); (try clear HT3); (try clear X2); (try clear P2); (try clear B2)
  k_steps
  k_dflt (refine lam_eval (P := 205) (c := 209) (qual := "_law_told_right.<locals>.<lambda>") (by k_asm) (by k_asm) (by k_asm) (C5.keeps B4.stays) HT4 rfl (by rfl) (by rfl) (by rfl) ?_)
  intro f5 c5 oc5 vs5 tt5 pm5 ctv5 h5 tk5 n5 F5 N5 a1 a2 a3 a4 HT5 K5 lt5
  have e1 := K5 _ e1 (Nat.ne_of_gt (Nat.lt_of_lt_of_le H5 (Nat.le_add_right LI 2)))
  have e2 := K5 _ e2 (Nat.ne_of_gt (Nat.lt_of_lt_of_le H5 (Nat.le_add_right LI 1)))
  have HW5 : WRep w n5 l σ := HW4.on fun p hp ha => K5 p hp (Nat.ne_of_gt (Nat.lt_trans (by decide) (hiW _ ha)))
  k_steps
  k_dflt (refine heard_ok (V := fun v n' => (∀ p ∈ n5, p ∈ n') ∧ ∃ (r : Nat) (tr : Tok), lengthR σ k = .ok r ∧ v = .int r tr) (X := fun code => lengthR σ k = .error code) (by k_asm) (by k_asm) (by k_asm) XB TB rfl (by ktr_room) (by ktr_units) ?_ (fun code hc => lengthR_len hc) a1 ?_)
  · intro dpA unA gdA cnA csA LA aA ccdA clA outerA AA hA mA sA QA EA BA FA NA hkA hdA huA retA heA
    have XA := XB.keeps BA.stays
    have TA := TB.keeps BA.stays
    refine wpAny_call ?_
    k_dflt (walk_at "mine lam")
    k_steps
    k_dflt (refine length_gen (by k_asm) (by k_asm) (by k_asm) XB TB rfl (by ktr_room) (by ktr_units) HW5 wf ?_ ?_)
    · intro code hc e' h' tk' g' n' lo' T' F' N' B' x' c' l'
      have he3 := heA code hc
      k_steps
      k_dflt (walk_at "mine err")
    · intro r hr tr h' tk' n' F' N' c'
      k_steps
      exact retA _ _ _ n' (by k_asm) (by k_asm) ⟨c', r, tr, hr, rfl⟩
  intro v3 h6 tk6 g6 n6 T6 F6 N6 B6 R3
  have s3 := HRes.sub (fun v n' h => h.1) R3
  have X6 := XB.keeps B6.stays
  have P6 := TB.keeps B6.stays
  have e1 := s3 _ e1
  have e2 := s3 _ e2
  have HW6 := HW5.mono s3
  have HT6 := HT5.mono fun p hp _ _ => s3 p hp
  (try clear F5); (try clear N5); (try clear F4); (try clear N4); (try clear HW5); (try clear HT5); (try clear X4); (try clear P4); (try clear B4)
  k_steps
  have kf : ∀ p ∈ news, p.1 ≠ 205 → p ∈ n6 := fun p hp hn => s3 _ (K5 _ (s2 _ (K3 _ (s1 _ (K1 _ (.tail _ (.tail _ hp)) hn)) hn)) hn)
  have H6 : TRep w n6 t σ left := H.mono fun p hp ha => kf p hp (Nat.ne_of_gt (Nat.lt_trans (by decide) (hiT _ ha)))
  have TT := KtsTurn.trans (KtsTurn.trans T2 T4) T6
  refine H6.goDict fun oT j1 e1 => ?_; refine H6.goFiles fun oG j2 e2 => ?_; refine H6.goOpens fun oP j3 e3 => ?_; have y1 := H6.low _ dd_td; have y2 := H6.low _ dd_tf; have y3 := H6.low _ dd_to
  cases hv : vat σ.chans k with
  | none =>
    have b1 := spot_none (t := t) hv
    obtain ⟨r1, rfl⟩ := HRes.err refBN R1 (by rintro v n' ⟨_, r, h, _⟩; rw [endedR, hv] at h; cases h) (by intro code h; rw [endedR, hv] at h; cases h; rfl)
    obtain ⟨r2, rfl⟩ := HRes.err refBN R2 (by rintro v n' ⟨_, r, _, h, _⟩; rw [placeR, hv] at h; cases h) (by intro code h; rw [placeR, hv] at h; cases h; rfl)
    obtain ⟨r3, rfl⟩ := HRes.err refBN R3 (by rintro v n' ⟨_, r, _, h, _⟩; rw [lengthR, hv] at h; cases h) (by intro code h; rw [lengthR, hv] at h; cases h; rfl)
    k_steps
    k_dflt (refine KMa.mul (ws := [_, _, _]) (by k_asm) (by k_asm) (News.isList (by k_asm) (.head _)) (by decide) (by decide) (Nat.le_of_ble_eq_true rfl) rfl ?_)
    intro DM hM FM NM lM
    k_steps
    k_dflt (walk_at "mine leaveT")
    exact ret _ _ _ n6 (by assumption) (by assumption) (news_sub (by assumption) (by intro p hp; simp [hp])) (by assumption) HT6 kf
  | some c =>
    have b1 := spot_some' (t := t) hv
    have b2 := spot_some (t := t) hv
    refine H6.goSpots _ (vat_mem hv) fun oS j4 t1 t2 t3 d4 => ?_
    have y4 := H6.low _ (dd_sp (vat_mem hv))
    refine H6.goLefts _ (vat_mem hv) fun oL j5 e5 => ?_
    obtain ⟨x, hf, hle, hl⟩ := wf.file hv
    have b5 := text_some (t := t) hf
    refine H6.goTexts _ (vat_mem hf) fun oF j6 e6 => ?_
    dsimp only at j4 d4 y4 j5 e5 j6 e6
    obtain ⟨_, r2, tr2, h2, rfl⟩ := HRes.ok R2 (by intro code h; rw [placeR, hv] at h; cases h)
    obtain ⟨_, r3, tr3, h3, rfl⟩ := HRes.ok R3 (by intro code h; rw [lengthR, hv] at h; cases h)
    obtain rfl : r2 = c.at_ := by rw [placeR, hv] at h2; exact (Except.ok.inj h2).symm
    obtain rfl : r3 = x.length := by rw [lengthR, hv] at h3; simp only [hf] at h3; exact (Except.ok.inj h3).symm
    k_steps
    refine unhere (cutVF (C := SameA v1) (by k_asm) (by k_asm) ?_ ?_)
    · refine wpAny_IfExp ?_
      by_cases hm : c.mode = "I"
      · have hm' : (c.mode == "I") = true := by rw [hm]; decide
        obtain ⟨_, r1, h1, rfl⟩ := HRes.ok R1 (by intro code h; rw [endedR, hv] at h; simp only [hm, if_true] at h; cases h)
        have hr1 : r1 = decide (x.length ≤ c.at_) := by rw [endedR, hv] at h1; simp only [hm, hf, if_true] at h1; exact (Except.ok.inj h1).symm
        obtain ⟨x', hf', hl'⟩ := hL _ (vat_mem hv) hm
        obtain rfl : x' = x := Option.some.inj (hf'.symm.trans hf)
        rw [hl'] at e5
        have hlen : x'.length = x'.cps.toList.length := by simp [Str.length]
        cases hd : x'.cps.toList.drop c.at_ with
        | nil =>
          rw [hd] at e5
          have hq : x'.length ≤ c.at_ := by have := List.drop_eq_nil_iff.mp hd; omega
          obtain rfl : r1 = true := hr1.trans (decide_eq_true hq)
          k_steps
          exact ⟨_, _, _, rfl, by k_asm, by k_asm, by intro p hp; simp [hp], .inr (.inl ⟨_, rfl, rfl⟩)⟩
        | cons d r =>
          rw [hd] at e5
          have hq : ¬ x'.length ≤ c.at_ := fun q => by
            have := List.drop_eq_nil_iff.mpr (show x'.cps.toList.length ≤ c.at_ by omega)
            rw [hd] at this; cases this
          have hA1 : (Sg (d :: r)).cps.all (· < 128) = true := by
            have : ∀ z ∈ d :: r, z < 128 := fun z hz => hA _ (vat_mem hf) z (List.mem_of_mem_drop (by rw [hd]; exact hz))
            simpa using this
          obtain rfl : r1 = false := hr1.trans (decide_eq_false hq)
          k_steps
          exact ⟨_, _, _, rfl, by k_asm, by k_asm, by intro p hp; simp [hp], .inr (.inl ⟨_, rfl, rfl⟩)⟩
      · have hm' : (c.mode == "I") = false := by simpa using hm
        obtain ⟨r1, rfl⟩ := HRes.err refBM R1 (by rintro v n' ⟨_, r, h, _⟩; rw [endedR, hv] at h; simp only at h; rw [if_neg hm] at h; cases h) (by intro code h; rw [endedR, hv] at h; simp only at h; rw [if_neg hm] at h; cases h; rfl)
        k_steps
        exact ⟨_, _, _, rfl, by k_asm, by k_asm, by intro p hp; exact hp, .inr (.inr ⟨_, _, _, rfl, rfl⟩)⟩
    intro v hS h9 tk9 n9 F9 N9 K9
    k_steps
    refine eq_sameA hS ?_
    k_steps
    k_dflt (walk_at "mine leaveT")
    exact ret _ _ _ n6 (by assumption) (by assumption) (news_sub (by assumption) (by intro p hp; simp [K9 _, hp])) (by assumption) HT6 kf
end


end
/-! P1 -/
section
open PyProof.V
set_option maxRecDepth 100000
/-! plain: rows of a text -/
theorem Sg_list (x : Str) : Sg x.cps.toList = x := by
  obtain ⟨⟨l⟩⟩ := x; rfl
theorem Sg_len (l : List Nat) : (Sg l).length = l.length := List.size_toArray
theorem str_len (x : Str) : x.length = x.cps.toList.length := by simp [Str.length]
theorem slice_drop {x : Str} {n : Nat} (h : n ≤ x.length) : Txt.slice x (some (n : Int)) none = Sg (x.cps.toList.drop n) := by
  have e := slice_from_eq (x := x) (i := (n : Int)) (b := (x.length : Int)) (by omega) (by omega) rfl
  rw [e]
  have h2 : ((x.length : Int) - (n : Int)).toNat = (x.cps.toList.drop n).length := by
    rw [List.length_drop, ← str_len]; omega
  rw [h2, Int.toNat_natCast, List.take_length]
theorem slice_take {l : List Nat} {n : Nat} (h : n ≤ l.length) : Txt.slice (Sg l) none (some (n : Int)) = Sg (l.take n) := by
  have e := eq_of_beq (slice_closes_to (x := Sg l) (j := (n : Int)) ⟨by omega, by simpa using h⟩)
  rw [e]
  simp
theorem nl_mk : ("\n" : Str) = ⟨#[10]⟩ := by decide
theorem nl_at {l : List Nat} {i : Nat} : StrLaws.At (Sg l) "\n" (Sg l).length i ↔ l[i]? = some 10 := by
  rw [nl_mk]
  exact PySem.StrLaws.subAt_one (Sg l) 10 i
theorem row_no {l : List Nat} (h : ∀ z ∈ l, z ≠ 10) : rowOf (Sg l) = Sg l := by
  rcases find_whole (Sg l) "\n" with ⟨e, _⟩ | ⟨i, e, ha, _⟩
  · exact rowOf_neg (by rw [e]; decide)
  · exact absurd rfl (h 10 (List.mem_of_getElem? (nl_at.mp ha)))
theorem row_nl {p r : List Nat} (h : ∀ z ∈ p, z ≠ 10) : rowOf (Sg (p ++ 10 :: r)) = Sg p := by
  have h1 : (p ++ 10 :: r)[p.length]? = some 10 := by simp
  rcases find_whole (Sg (p ++ 10 :: r)) "\n" with ⟨_, e⟩ | ⟨i, e, ha, hb⟩
  · exact absurd (nl_at.mpr h1) (e _)
  · have hi : i = p.length := by
      rcases Nat.lt_trichotomy i p.length with q | q | q
      · have := nl_at.mp ha
        rw [List.getElem?_append_left q] at this
        exact absurd rfl (h 10 (List.mem_of_getElem? this))
      · exact q
      · exact absurd (nl_at.mpr h1) (hb _ q)
    subst hi
    rw [rowOf_pos (by rw [e]; omega), e, slice_take (by simp)]
    simp

end
/-! P2 -/
section
open PyProof.V
set_option maxRecDepth 100000
/-! plain: what holds of the state is kept -/
structure Good (σ : St) (left : Int → Str) (b : Nat) : Prop where
  wf : WF σ b
  lf : Lf σ left
  asc : Asc σ
section
variable {K α : Type} [DecidableEq K] {l : List (K × α)} {k k' : K} {a : α}
theorem nodup_sset (h : (l.map (·.1)).Nodup) : ((sset l k a).map (·.1)).Nodup := by
  by_cases q : k ∈ l.map (·.1)
  · rw [sset_keys_in q]; exact h
  · rw [sset_new q, List.map_append, List.nodup_append]
    exact ⟨h, by simp, fun x hx y hy => by
      rw [List.map_cons, List.map_nil, List.mem_singleton] at hy
      rw [hy]; exact fun e => q (by rw [← show x = k from e]; exact hx)⟩
theorem nodup_sdel (h : (l.map (·.1)).Nodup) : ((sdel l k).map (·.1)).Nodup := (List.Sublist.map _ List.filter_sublist).nodup h
theorem vat_of_mem (h : (l.map (·.1)).Nodup) (hm : (k, a) ∈ l) : vat l k = some a := by
  obtain ⟨i, hi⟩ := List.mem_iff_getElem?.mp hm
  exact vat_at h hi
theorem mem_sset_ne {x : K × α} (h : x ∈ l) (hn : x.1 ≠ k) : x ∈ sset l k a := by
  unfold sset
  split
  · exact List.mem_map.mpr ⟨x, h, if_neg hn⟩
  · exact List.mem_append_left _ h
theorem vat_sset_ne (h : (l.map (·.1)).Nodup) (hn : k' ≠ k) : vat (sset l k a) k' = vat l k' := by
  cases q : vat l k' with
  | some c => exact vat_of_mem (nodup_sset h) (mem_sset_ne (vat_mem q) hn)
  | none =>
    cases q2 : vat (sset l k a) k' with
    | none => rfl
    | some c =>
      rcases mem_sset (vat_mem q2) with e | ⟨e, _⟩
      · exact absurd (congrArg (·.1) e) hn
      · rw [vat_of_mem h e] at q; cases q
theorem vat_sdel_ne (h : (l.map (·.1)).Nodup) (hn : k' ≠ k) : vat (sdel l k) k' = vat l k' := by
  cases q : vat l k' with
  | some c => exact vat_of_mem (nodup_sdel h) (List.mem_filter.mpr ⟨vat_mem q, by simpa using hn⟩)
  | none =>
    cases q2 : vat (sdel l k) k' with
    | none => rfl
    | some c => rw [vat_of_mem h (mem_sdel (vat_mem q2)).1] at q; cases q
end
section
variable {σ : St} {left left' : Int → Str} {b : Nat} {k : Int} {nm nw mode x y : Str} {c : Ch} {n : Nat}
theorem Good.more (H : Good σ left b) {b' : Nat} (h : b ≤ b') (hb : b' ≤ 1000) : Good σ left b' :=
  ⟨{ H.wf with size := fun f hf => Nat.le_trans (H.wf.size f hf) h, ats := fun c hc => Nat.le_trans (H.wf.ats c hc) h, bound := hb }, H.lf, H.asc⟩
/-- a channel is opened on a file that is there -/
theorem Good.addChan (H : Good σ left b) (hk : k = 1 ∨ k = 2 ∨ k = 3) (hv : vat σ.chans k = none) (hn : IsName nm) (hm : mode = "I" ∨ mode = "O" ∨ mode = "A") (hf : vat σ.files nm = some x) (ha : n ≤ x.length) (hex : ∀ c ∈ σ.chans, c.2.name = nm → c.2.mode = "I" ∧ mode = "I")
    (hL : mode = "I" → left' k = Sg (x.cps.toList.drop n)) (hl : ∀ i, i ≠ k → left' i = left i) : Good { σ with chans := sset σ.chans k ⟨mode, nm, n⟩ } left' b := by
  have w := H.wf
  have hfresh : ∀ c ∈ σ.chans, c.1 ≠ k := fun c hc q => by
    rw [← q, vat_of_mem w.keys (a := c.2) hc] at hv; cases hv
  refine ⟨⟨nodup_sset w.keys, w.names, fun c hc => ?_, w.nsub, fun c hc => ?_, fun c hc => ?_, fun c hc => ?_, w.size, fun c hc => ?_, fun c hc c' hc' hne he => ?_, w.bound⟩, fun c hc hm' => ?_, H.asc⟩
  · rcases mem_sset hc with rfl | ⟨hc, _⟩
    · exact hk
    · exact w.ksub c hc
  · rcases mem_sset hc with rfl | ⟨hc, _⟩
    · exact hm
    · exact w.mode c hc
  · rcases mem_sset hc with rfl | ⟨hc, _⟩
    · exact hn
    · exact w.cname c hc
  · rcases mem_sset hc with rfl | ⟨hc, _⟩
    · exact ⟨x, hf, fun _ => ha⟩
    · exact w.has c hc
  · rcases mem_sset hc with rfl | ⟨hc, _⟩
    · exact Nat.le_trans ha (w.size _ (vat_mem hf))
    · exact w.ats c hc
  · rcases mem_sset hc with rfl | ⟨hc, _⟩
    · rcases mem_sset hc' with rfl | ⟨hc', _⟩
      · exact absurd rfl hne
      · exact (hex c' hc' he.symm).symm
    · rcases mem_sset hc' with rfl | ⟨hc', _⟩
      · exact hex c hc he
      · exact w.excl c hc c' hc' hne he
  · rcases mem_sset hc with rfl | ⟨hc, _⟩
    · exact ⟨x, hf, hL hm'⟩
    · obtain ⟨x', a1, a2⟩ := H.lf c hc hm'
      exact ⟨x', a1, by rw [hl _ (hfresh c hc)]; exact a2⟩
/-- an empty file is laid where nobody reads or writes -/
theorem Good.blank (H : Good σ left b) (hn : IsName nm ∨ nm = "D") (hno : ∀ c ∈ σ.chans, c.2.name ≠ nm) : Good { σ with files := sset σ.files nm "" } left b := by
  have w := H.wf
  refine ⟨⟨w.keys, nodup_sset w.names, w.ksub, fun f hf => ?_, w.mode, w.cname, fun c hc => ?_, fun f hf => ?_, w.ats, w.excl, w.bound⟩, fun c hc hm' => ?_, fun f hf => ?_⟩
  · rcases mem_sset hf with rfl | ⟨hf, _⟩
    · exact hn
    · exact w.nsub f hf
  · rw [vat_sset_ne w.names (hno c hc)]; exact w.has c hc
  · rcases mem_sset hf with rfl | ⟨hf, _⟩
    · exact Nat.zero_le _
    · exact w.size f hf
  · rw [vat_sset_ne w.names (hno c hc)]; exact H.lf c hc hm'
  · rcases mem_sset hf with rfl | ⟨hf, _⟩
    · intro z hz
      rw [show (Str.ofString "").cps.toList = [] from rfl] at hz
      cases hz
    · exact H.asc f hf
/-- a writer's text is laid on -/
theorem Good.put (H : Good σ left b) (hv : vat σ.chans k = some c) (hm : c.mode ≠ "I") (hf : vat σ.files c.name = some x) (hy : y.length ≤ 10) (hya : ∀ z ∈ y.cps.toList, z < 128) (hb : b + 10 ≤ 1000) :
    Good { files := sset σ.files c.name (x ++ y), chans := sset σ.chans k { c with at_ := c.at_ + y.length } } left (b + 10) := by
  have w := H.wf
  have hc := vat_mem hv
  have hx := w.size _ (vat_mem hf)
  dsimp only at hx
  have hxy : (x ++ y).length ≤ b + 10 := by rw [Str.length_append]; omega
  have hone : ∀ c' ∈ σ.chans, c'.1 ≠ k → c'.2.name ≠ c.name := fun c' hc' hn he => hm (w.excl c' hc' _ hc hn he).2
  refine ⟨⟨nodup_sset w.keys, nodup_sset w.names, fun c' hc' => ?_, fun f hf' => ?_, fun c' hc' => ?_, fun c' hc' => ?_, fun c' hc' => ?_, fun f hf' => ?_, fun c' hc' => ?_, fun c1 h1 c2 h2 hne he => ?_, hb⟩, fun c' hc' hm' => ?_, fun f hf' => ?_⟩
  · rcases mem_sset hc' with rfl | ⟨hc', _⟩
    · exact w.ksub (k, c) hc
    · exact w.ksub c' hc'
  · rcases mem_sset hf' with rfl | ⟨hf', _⟩
    · exact w.nsub (c.name, x) (vat_mem hf)
    · exact w.nsub f hf'
  · rcases mem_sset hc' with rfl | ⟨hc', _⟩
    · exact w.mode (k, c) hc
    · exact w.mode c' hc'
  · rcases mem_sset hc' with rfl | ⟨hc', _⟩
    · exact w.cname (k, c) hc
    · exact w.cname c' hc'
  · rcases mem_sset hc' with rfl | ⟨hc', hn⟩
    · exact ⟨_, vat_sset_same w.names, fun q => absurd q hm⟩
    · rw [vat_sset_ne w.names (hone c' hc' hn)]; exact w.has c' hc'
  · rcases mem_sset hf' with rfl | ⟨hf', _⟩
    · exact hxy
    · exact Nat.le_trans (w.size f hf') (Nat.le_add_right _ _)
  · rcases mem_sset hc' with rfl | ⟨hc', _⟩
    · have := w.ats _ hc
      dsimp only at this ⊢
      omega
    · exact Nat.le_trans (w.ats c' hc') (Nat.le_add_right _ _)
  · rcases mem_sset h1 with rfl | ⟨h1, n1⟩
    · rcases mem_sset h2 with rfl | ⟨h2, n2⟩
      · exact absurd rfl hne
      · exact absurd he.symm (hone c2 h2 n2)
    · rcases mem_sset h2 with rfl | ⟨h2, n2⟩
      · exact absurd he (hone c1 h1 n1)
      · exact w.excl c1 h1 c2 h2 hne he
  · rcases mem_sset hc' with rfl | ⟨hc', hn⟩
    · exact absurd hm' hm
    · rw [vat_sset_ne w.names (hone c' hc' hn)]; exact H.lf c' hc' hm'
  · rcases mem_sset hf' with rfl | ⟨hf', _⟩
    · intro z hz
      have e : (x ++ y).cps = x.cps ++ y.cps := rfl
      rw [e, Array.toList_append] at hz
      rcases List.mem_append.mp hz with hz | hz
      · exact H.asc _ (vat_mem hf) z hz
      · exact hya z hz
    · exact H.asc f hf'
theorem Good.close (H : Good σ left b) : Good { σ with chans := sdel σ.chans k } left b := by
  have w := H.wf
  have s : ∀ c ∈ sdel σ.chans k, c ∈ σ.chans := fun c hc => (mem_sdel hc).1
  exact ⟨⟨nodup_sdel w.keys, w.names, fun c hc => w.ksub c (s c hc), w.nsub, fun c hc => w.mode c (s c hc), fun c hc => w.cname c (s c hc), fun c hc => w.has c (s c hc), w.size, fun c hc => w.ats c (s c hc), fun c hc c' hc' => w.excl c (s c hc) c' (s c' hc'), w.bound⟩,
    fun c hc => H.lf c (s c hc), H.asc⟩
/-- a reader goes on -/
theorem Good.read (H : Good σ left b) (hv : vat σ.chans k = some c) (hf : vat σ.files c.name = some x) (hn : n ≤ x.length) :
    Good { σ with chans := sset σ.chans k { c with at_ := n } } (fun i => if i = k then Sg (x.cps.toList.drop n) else left i) b := by
  have w := H.wf
  have hc := vat_mem hv
  have e : ∀ c' ∈ sset σ.chans k { c with at_ := n }, ∃ g ∈ σ.chans, g.1 = c'.1 ∧ g.2.mode = c'.2.mode ∧ g.2.name = c'.2.name := fun c' hc' => by
    rcases mem_sset hc' with rfl | ⟨hc', _⟩
    · exact ⟨_, hc, rfl, rfl, rfl⟩
    · exact ⟨c', hc', rfl, rfl, rfl⟩
  refine ⟨⟨nodup_sset w.keys, w.names, fun c' hc' => ?_, w.nsub, fun c' hc' => ?_, fun c' hc' => ?_, fun c' hc' => ?_, w.size, fun c' hc' => ?_, fun c1 h1 c2 h2 hne he => ?_, w.bound⟩, fun c' hc' hm' => ?_, H.asc⟩
  · obtain ⟨g, hg, e1, e2, e3⟩ := e c' hc'; rw [← e1]; exact w.ksub g hg
  · obtain ⟨g, hg, e1, e2, e3⟩ := e c' hc'; rw [← e2]; exact w.mode g hg
  · obtain ⟨g, hg, e1, e2, e3⟩ := e c' hc'; rw [← e3]; exact w.cname g hg
  · rcases mem_sset hc' with rfl | ⟨hc', _⟩
    · exact ⟨x, hf, fun _ => hn⟩
    · exact w.has c' hc'
  · rcases mem_sset hc' with rfl | ⟨hc', _⟩
    · exact Nat.le_trans hn (w.size _ (vat_mem hf))
    · exact w.ats c' hc'
  · obtain ⟨g1, hg1, a1, a2, a3⟩ := e c1 h1
    obtain ⟨g2, hg2, b1, b2, b3⟩ := e c2 h2
    rw [← a1, ← b1] at hne
    rw [← a3, ← b3] at he
    rw [← a2, ← b2]
    exact w.excl g1 hg1 g2 hg2 hne he
  · rcases mem_sset hc' with rfl | ⟨hc', hn'⟩
    · exact ⟨x, hf, if_pos rfl⟩
    · obtain ⟨x', a1, a2⟩ := H.lf c' hc' hm'
      exact ⟨x', a1, by rw [if_neg hn']; exact a2⟩
theorem named_no (h : named σ nm = false) : ∀ c ∈ σ.chans, c.2.name ≠ nm := fun c hc q => by
  have := List.any_eq_false.mp h c hc
  exact this (by simpa using q)
theorem Good.kill (H : Good σ left b) (hm : named σ nm = false) : Good { σ with files := sdel σ.files nm } left b := by
  have w := H.wf
  have s : ∀ c ∈ sdel σ.files nm, c ∈ σ.files := fun c hc => (mem_sdel hc).1
  have hno := named_no hm
  refine ⟨⟨w.keys, nodup_sdel w.names, w.ksub, fun f hf => w.nsub f (s f hf), w.mode, w.cname, fun c hc => ?_, fun f hf => w.size f (s f hf), w.ats, w.excl, w.bound⟩, fun c hc hm' => ?_, fun f hf => H.asc f (s f hf)⟩
  · rw [vat_sdel_ne w.names (hno c hc)]; exact w.has c hc
  · rw [vat_sdel_ne w.names (hno c hc)]; exact H.lf c hc hm'
theorem Good.move (H : Good σ left b) (hm : named σ nm = false) (hf : vat σ.files nm = some x) (hw : vat σ.files nw = none) (hn : IsName nw ∨ nw = "D") : Good { σ with files := sset (sdel σ.files nm) nw x } left b := by
  have K := H.kill hm
  have w := K.wf
  have hno : ∀ c ∈ σ.chans, c.2.name ≠ nw := fun c hc q => by
    obtain ⟨t, ht, _⟩ := H.wf.has c hc
    rw [q, hw] at ht; cases ht
  refine ⟨⟨w.keys, nodup_sset w.names, w.ksub, fun f hf' => ?_, w.mode, w.cname, fun c hc => ?_, fun f hf' => ?_, w.ats, w.excl, w.bound⟩, fun c hc hm' => ?_, fun f hf' => ?_⟩
  · rcases mem_sset hf' with rfl | ⟨hf', _⟩
    · exact hn
    · exact w.nsub f hf'
  · rw [vat_sset_ne w.names (hno c hc)]; exact w.has c hc
  · rcases mem_sset hf' with rfl | ⟨hf', _⟩
    · exact H.wf.size (nm, x) (vat_mem hf)
    · exact w.size f hf'
  · rw [vat_sset_ne w.names (hno c hc)]; exact K.lf c hc hm'
  · rcases mem_sset hf' with rfl | ⟨hf', _⟩
    · exact H.asc (nm, x) (vat_mem hf)
    · exact K.asc f hf'
/-- the twin asks the same of the others -/
theorem else_same (H : Good σ left b) (hm : mode = "I" ∨ mode = "O" ∨ mode = "A") : elseT σ mode nm = elseW σ mode nm := by
  have key : ∀ c ∈ σ.chans, (c.2.name == nm && (mode != "I" || c.2.mode != "I")) = (c.2.name == nm && ([("O" : Str), "A"].any (· == mode) || [("O" : Str), "A"].any (· == c.2.mode))) := fun c hc => by
    congr 1
    rcases H.wf.mode c hc with q | q | q <;> rcases hm with p | p | p <;> rw [q, p] <;> decide
  unfold elseT elseW
  rw [Bool.eq_iff_iff, List.any_eq_true, List.any_eq_true]
  constructor
  · rintro ⟨c, hc, h⟩; exact ⟨c, hc, by rw [← key c hc]; exact h⟩
  · rintro ⟨c, hc, h⟩; exact ⟨c, hc, by rw [key c hc]; exact h⟩
end

end
/-! Dp -/
section
open PyProof.V
set_option maxRecDepth 100000
theorem keys_no : typeLookup (.type "list") "keys" = pure none := am_miss_of_fast (by kernel_rfl)
theorem keys_miss {prog : Program} {w : World} {A : Around} {E : Value → Shared → Prop} {s : Shared} {a : Addr} {xs : Array Value} {k : Nat} {Q : Option Value → Shared → Prop}
    (hx : s.heap.get? a = some (listOf xs k)) (hA : A.handled = none) (h : ∀ h' tk, (∀ b o, s.heap.get? b = some o → h'.get? b = some o) → Q none { s with heap := h', toks := tk }) :
    wpAny (model prog w) A (getAttr? (.ref a) "keys") Q E s := by
  obtain ⟨hp, g, d, tk, os⟩ := s
  have hT : ∀ tk', (⟨hp, g, d, tk', os⟩ : Shared).TypeIs (.ref a) "list" := fun _ => ⟨_, hx, rfl⟩
  have f1 := sub_AttributeError
  have f3 := PySem.F.slot_list_getattribute.lookup
  have f4 := PySem.F.slot_list_getattribute.bind (.ref a)
  have f5 := am_list_getattr_none
  unfold getAttr? getAttrBy? getAttrBy
  repeat (any_goals (first | assumption | exact hT _ | ((with_reducible show wpAny _ _ (call (Value.builtin "list.__getattribute__") _ _) _ _ _); refine call_meets PySem.F.slot_list_getattribute (hT _) am_entry_list_getattribute (PySem.F.args_list_getattribute_2 _ _) (meets_getattribute_miss_list a xs k #[] "keys" _ keys_no (by decide) (by decide +kernel)) ⟨hx, hA, fun h' tk' e hx' => ?_⟩) | wp_step))
  obtain ⟨t', u', he⟩ := hx'.there
  show wpAny _ _ (getattributeRaised _ _ _ _ _ _ _) _ _ _
  unfold getattributeRaised
  repeat (any_goals (first | assumption | wp_step))
  exact h _ _ hx'.keeps
theorem entry_loop : entryFor table "dict.update.loop" = some Builtin.«dict.update.loop» := entryFor_of_tree (by kernel_rfl)
theorem plain_loop : plainId "dict.update.loop" = true := by decide +kernel
section
variable {prog : Program} {w : World} {A : Around} {R : Result → Shared → Prop} {K : Type} [DecidableEq K] {knd : KeyKind prog w K} {kvs : List (K × Value)} {items : Array Value} {d l I : Addr} {h₀ : Heap}
theorem stored_take {kvs : List (K × Value)} (hnd : (kvs.map (·.1)).Nodup) {i : Nat} {k : K} {v : Value} (h : kvs[i]? = some (k, v)) : stored (kvs.take i) k v = kvs.take (i + 1) := by
  have hi : i < kvs.length := (List.getElem?_eq_some_iff.mp h).1
  have hn : ¬ ((kvs.take i).any fun kv => decide (kv.1 = k)) = true := by
    rw [List.any_eq_true]
    rintro ⟨x, hx, e⟩
    obtain ⟨j, hj⟩ := List.mem_iff_getElem?.mp hx
    rw [List.getElem?_take] at hj
    split at hj
    · rename_i hji
      have e1 : (kvs.map (·.1))[j]? = some k := by rw [List.getElem?_map, hj]; simpa using e
      have e2 : (kvs.map (·.1))[i]? = some k := by rw [List.getElem?_map, h]; rfl
      have e3 := (List.getElem?_inj (by rw [List.length_map]; omega) hnd).mp (e1.trans e2.symm)
      omega
    · cases hj
  rw [stored, if_neg hn, List.take_add_one, h]
  rfl
theorem loopD (hh : A.handled = none) (hdI : d ≠ I) (hdl : d ≠ l) (hlI : l ≠ I) (hlen : items.size = kvs.length) (hsz : kvs.length ≤ 1000) (hnd : (kvs.map (·.1)).Nodup)
    (hit : ∀ (i : Nat) (k : K) (v : Value), kvs[i]? = some (k, v) → ∃ a key n, items[i]? = some (Value.ref a) ∧ knd.is k key = true ∧ a ≠ d ∧ a ≠ I ∧ h₀.get? a = some { cls := .type "tuple", data := .seq #[key, v] n }) :
    ∀ (n i : Nat) (ti : Tok) (s : Shared), kvs.length - i = n → i ≤ kvs.length → s.heap.IsListIter I l i → s.heap.IsList l items → s.heap.DictOf knd d (kvs.take i) → (∀ b o, b ≠ d → b ≠ I → h₀.get? b = some o → s.heap.get? b = some o) →
      (∀ h' tk, h'.DictOf knd d kvs → (∀ b o, b ≠ d → b ≠ I → h₀.get? b = some o → h'.get? b = some o) → R (.ok (.ret .none)) { s with heap := h', toks := tk }) →
      codeAny (model prog w) A (.builtin "dict.update.loop" (⟨[Value.ref d, Value.ref I, Value.int (i : Nat) ti, Value.none], []⟩ : Args)) R s := by
  intro n
  induction n with
  | zero =>
    intro i ti s hn hi st hl hD up hR
    have e : i = kvs.length := by omega
    subst e
    refine codeAny_builtin entry_loop ?_
    rw [Around.under_plainId plain_loop _]
    show wpAny _ A.in1 (pyNext (.ref I) >>= _) _ _ s
    refine wpAny_bind (wpAny_pyNext_list_end (by simpa using hh) st hl (by rw [Array.getElem?_eq_none]; omega) fun h' he' => ?_)
    show wpAny _ A.in1 (Builtin.Dict.addKeywords d [] >>= fun _ => ret Value.none) _ _ _
    refine wpAny_bind (wpAny_pure (wpAny_pure ?_))
    refine hR h' s.toks ?_ fun b o h1 h2 e => he' b o h2 (up b o h1 h2 e)
    rw [List.take_length] at hD
    obtain ⟨o, es, ep, ho, rest⟩ := hD
    exact ⟨o, es, ep, he' _ _ hdI ho, rest⟩
  | succ n ih =>
    intro i ti s hn hi st hl hD up hR
    have hi' : i < kvs.length := by omega
    obtain ⟨k, v, hkv⟩ : ∃ k v, kvs[i]? = some (k, v) := ⟨_, _, List.getElem?_eq_getElem hi'⟩
    obtain ⟨a, key, n₀, hia, hk, had, haI, hat⟩ := hit i k v hkv
    refine codeAny_builtin entry_loop ?_
    rw [Around.under_plainId plain_loop _]
    show wpAny _ A.in1 (pyNext (.ref I) >>= _) _ _ s
    refine wpAny_bind (wpAny_pyNext_list_item st hl hia fun h' st' hs' => ?_)
    have ha' : h'.get? a = some { cls := .type "tuple", data := .seq #[key, v] n₀ } := (hs'.2 a haI).trans (up a _ had haI hat)
    have hl' : h'.IsList l items := by
      obtain ⟨o, ho, r⟩ := hl
      exact ⟨o, (hs'.2 l hlI).trans ho, r⟩
    have hD' : h'.DictOf knd d (kvs.take i) := by
      obtain ⟨o, es, ep, ho, rest⟩ := hD
      exact ⟨o, es, ep, (hs'.2 d hdI).trans ho, rest⟩
    refine wpAny_bind (wpAny_holding (wpAny_bind (wpAny_tryCatch ?_)))
    unfold Builtin.Dict.pairItems
    refine wpAny_bind (wpAny_typeOf ⟨_, ha', rfl⟩ ?_)
    rw [if_pos (by decide)]
    refine wpAny_bind (wpAny_seqItems ha' rfl (wpAny_pure ?_))
    show wpAny _ A.in1 (holding [key, v] (dictSet d key v)) _ _ _
    refine wpAny_holding ?_
    unfold dictSet
    refine wpAny_holding (wpAny_bind (knd.pyHash hk ?_))
    refine wpAny_dictSetHashed_pairs (hsz := by rw [sizeLine_eq, List.length_take]; omega) hk hD' fun h'' hd'' hs'' => ?_
    rw [stored_take hnd hkv] at hd''
    refine wpAny_pure ⟨plainId_quiet plain_loop _, ?_⟩
    refine ih (i + 1) _ _ (by omega) (by omega) ?_ ?_ hd'' (fun b o h1 h2 e => (hs''.2 b h1).trans ((hs'.2 b h2).trans (up b o h1 h2 e))) fun h3 tk3 a3 b3 => hR h3 tk3 a3 b3
    · obtain ⟨o, ho, r⟩ := st'
      exact ⟨o, (hs''.2 _ hdI.symm).trans ho, r⟩
    · obtain ⟨o, ho, r⟩ := hl'
      exact ⟨o, (hs''.2 _ hdl.symm).trans ho, r⟩
theorem dict_pairs {E : Value → Shared → Prop} {s : Shared} {L : Addr} {m : Str → Option Value} {news : List (Addr × Obj)} {n : Nat} {Q : Value → Shared → Prop} (hh : A.handled = none) (F : Fr h₀ L s.heap m) (N : News h₀ L s.heap news) (hl : (l, listOf items n) ∈ news) (hbig : sysModules < h₀.objs.size)
    (hlen : items.size = kvs.length) (hsz : kvs.length ≤ 1000) (hnd : (kvs.map (·.1)).Nodup)
    (hit : ∀ (i : Nat) (k : K) (v : Value), kvs[i]? = some (k, v) → ∃ a key n, items[i]? = some (Value.ref a) ∧ knd.is k key = true ∧ (a, ({ cls := .type "tuple", data := .seq #[key, v] n } : Obj)) ∈ news)
    (h : ∀ D h' tk o, Fr h₀ L h' m → News h₀ L h' ((D, o) :: news) → (∀ p ∈ news, p.1 < D) → (D == sysModules) = false → o.IsDictOf knd kvs → Q (.ref D) { s with heap := h', toks := tk }) :
    wpAny (model prog w) A (call (.type "dict") [.ref l]) Q E s := by
  have lo := F.notModules hbig
  refine callType_codes (Q₁ := fun obj s₁ => obj = .ref s.heap.objs.size ∧ s₁ = { s with heap := s.heap.push { cls := .type "dict", data := .dict #[] } }) PySem.F.kt_called_dict (PySem.F.kt_typeCall_dict_1 _) PySem.F.entry_dict_init (kt_code_dict_new _ ⟨rfl, rfl⟩) ?_
  rintro obj s₁ ⟨rfl, rfl⟩
  have hnew : (s.heap.push { cls := .type "dict", data := .dict #[] }).DictOf knd s.heap.objs.size [] := Heap.DictOf.new s.heap
  have up1 : ∀ b o, s.heap.get? b = some o → (s.heap.push { cls := .type "dict", data := .dict #[] }).get? b = some o := fun b o e => Heap.get?_push_of_some _ e
  have hl1 := up1 _ _ (N _ hl).1
  refine ⟨hnew.typeIs, PySem.F.args_dict_init_2 _ _, ?_⟩
  unfold Builtin.«dict.__init__»
  refine wpAny_bind ?_
  unfold Builtin.Dict.selfAndRest
  refine wpAny_bind (wpAny_notOrdered_dict hnew.typeIs ?_)
  show wpAny _ _ (pure (s.heap.objs.size, [Value.ref l])) _ _ _
  refine wpAny_pure ?_
  show wpAny _ _ (Builtin.Dict.updateFrom "dict.__init__" s.heap.objs.size (.ref l) [] .none) _ _ _
  unfold Builtin.Dict.updateFrom
  refine wpAny_bind (wpAny_typeOf ⟨_, hl1, rfl⟩ ?_)
  rw [if_pos (by decide)]
  refine wpAny_bind (keys_miss hl1 (by simpa using hh) fun h2 tk2 up2 => ?_)
  have lts : ∀ b o, s.heap.get? b = some o → b < s.heap.objs.size := fun b o e => Heap.lt_size e
  have dlt : s.heap.objs.size < h2.objs.size := by
    obtain ⟨o, es, ep, ho, _⟩ := hnew
    exact Heap.lt_size (up2 _ _ ho)
  have dI : s.heap.objs.size ≠ h2.objs.size := Nat.ne_of_lt dlt
  have up3 : ∀ b o, s.heap.get? b = some o → (h2.push { cls := .type "list_iterator", data := .fields #[.ref l, .int 0 0] }).get? b = some o := fun b o e => Heap.get?_push_of_some _ (up2 _ _ (up1 _ _ e))
  simp only [Option.isNone_none, if_true]
  refine wpAny_bind (wpAny_rule (wpAny_bind (wpAny_pyIter_list ⟨_, up2 _ _ hl1, rfl, n, rfl⟩ ?_)))
  refine wpAny_pure ⟨plainId_quiet plain_loop _, ?_⟩
  refine loopD (A := A.in1) (knd := knd) (h₀ := s.heap) (I := h2.objs.size) (items := items) (l := l) (by simpa using hh) dI (Nat.ne_of_gt (lts _ _ (N _ hl).1)) (Nat.ne_of_lt (Nat.lt_trans (lts _ _ (N _ hl).1) dlt)) hlen hsz hnd (fun i k v e => ?_) (kvs.length - 0) 0 0 _ rfl (Nat.zero_le _) ⟨_, Heap.get?_push_size _ rfl, rfl, rfl⟩ ⟨_, up3 _ _ (N _ hl).1, rfl, n, rfl⟩ ?_ (fun b o _ _ e => up3 b o e) fun h' tk hd' up' => ⟨rfl, ?_⟩
  · obtain ⟨a, key, n', e1, e2, e3⟩ := hit i k v e
    have e4 := (N _ e3).1
    exact ⟨a, key, n', e1, e2, Nat.ne_of_lt (lts _ _ e4), Nat.ne_of_lt (Nat.lt_trans (lts _ _ e4) dlt), e4⟩
  · obtain ⟨o, es, ep, ho, rest⟩ := hnew
    exact ⟨o, es, ep, Heap.get?_push_of_some _ (up2 _ _ ho), rest⟩
  · obtain ⟨o', ho', hd''⟩ := Heap.dictOf_iff.mp hd'
    have up : ∀ b o, s.heap.get? b = some o → h'.get? b = some o := fun b o e => up' b o (Nat.ne_of_lt (lts b o e)) (Nat.ne_of_lt (Nat.lt_trans (lts b o e) dlt)) e
    exact h _ h' tk o' (F.keeps up) (news_pushed F N up ho' rfl) (fun p hp => lts _ _ (N p hp).1) lo hd''
end

end
/-! G3 -/
section
def wrX (σ : St) (k : Int) (code : Str) : Prop := (vat σ.chans k = none ∧ code = "BN") ∨ ∃ c, vat σ.chans k = some c ∧ c.mode = "I" ∧ code = "BM"
theorem wrX_len {σ : St} {k : Int} {code : Str} (h : wrX σ k code) : code.length ≤ 100 := by
  rcases h with ⟨_, rfl⟩ | ⟨_, _, _, rfl⟩ <;> decide
theorem nodup_len {α : Type} [DecidableEq α] : ∀ {l m : List α}, l.Nodup → (∀ a ∈ l, a ∈ m) → l.length ≤ m.length
  | [], _, _, _ => Nat.zero_le _
  | a :: r, m, hn, hs => by
    rw [List.nodup_cons] at hn
    have ha := hs a (.head _)
    have h := nodup_len (m := m.erase a) hn.2 fun x hx => (List.mem_erase_of_ne (fun q : x = a => hn.1 (q ▸ hx))).mpr (hs x (.tail _ hx))
    rw [List.length_erase_of_mem ha] at h
    have : 0 < m.length := List.length_pos_of_mem ha
    rw [List.length_cons]; omega
theorem ats_le {σ : St} {left : Int → Str} {b : Nat} (H : Good σ left b) {k : Int} {c : Ch} (hv : vat σ.chans k = some c) : c.at_ ≤ 1000 := Nat.le_trans (H.wf.ats _ (vat_mem hv)) H.wf.bound
theorem chans_le {σ : St} {left : Int → Str} {b : Nat} (H : Good σ left b) : σ.chans.length ≤ 100 := by
  have h : (σ.chans.map (·.1)).length ≤ [(1 : Int), 2, 3].length := by
    refine nodup_len H.wf.keys fun a ha => ?_
    obtain ⟨c, hc, rfl⟩ := List.mem_map.mp ha
    rcases H.wf.ksub c hc with q | q | q <;> rw [q] <;> simp
  rw [List.length_map] at h
  exact Nat.le_trans h (by decide)
theorem files_le {σ : St} {left : Int → Str} {b : Nat} (H : Good σ left b) : σ.files.length ≤ 100 := by
  have h : (σ.files.map (·.1)).length ≤ [("A" : Str), "B", "C", "D"].length := by
    refine nodup_len H.wf.names fun a ha => ?_
    obtain ⟨c, hc, rfl⟩ := List.mem_map.mp ha
    rcases H.wf.nsub c hc with (q | q | q) | q <;> rw [q] <;> simp
  rw [List.length_map] at h
  exact Nat.le_trans h (by decide)
set_option maxRecDepth 100000 in
set_option maxHeartbeats 8000000 in
theorem write_gen {w : World} {dp un : Nat} {gd : Option (List Code)} {cn : Str} {cs : Scope} {a : Addr} {ccd : Value} {cl : List (Str × Addr)} {outer : List Env} {A₀ : Around} {base h₀ : Heap} {L : Addr} {m mg mb : Str → Option Value}
    {news : List (Addr × Obj)} {s : Shared} {Q E : Value → Shared → Prop} {loose : List Str} {mean : ExcName → Option Value}
    (B : Below A₀ base outer h₀) (F : Fr h₀ L s.heap m) (N : News h₀ L s.heap news) (XB : (hd.heap_1 w.params).In base) (TB : Top topProg loose mean mg mb base) (hk : cs.kind = .function) (hdp : dp + 10 < recursionLimit) (hu : un + 100 < cLine)
    {l : WL} {σ : St} (H : WRep w news l σ) {left : Int → Str} {b : Nat} (G : Good σ left b) {k : Int} {tk tx : Tok} {y : Str} (hy : y.length ≤ 1000)
    (he : ∀ code, wrX σ k code → Err A₀ base outer h₀ L m news code s E)
    (ret : ∀ c x, vat σ.chans k = some c → c.mode ≠ "I" → vat σ.files c.name = some x → ∀ h' tk' news', Fr h₀ L h' m → News h₀ L h' news' → WRep w news' l { files := sset σ.files c.name (x ++ y), chans := sset σ.chans k { c with at_ := c.at_ + y.length } } → (∀ p ∈ news, p.1 ∉ l.all σ → p ∈ news') → Q .none { s with heap := h', toks := tk' }) :
    wpAny (model PySem.Challenge.rw_pq0172_01.row.prog w) (ktrTop dp un gd cn cs L a ccd cl outer) (call (.ref 87) [.ref l.wi, .int k tk, .str y tx]) Q E s := by
  cases hv : vat σ.chans k with
  | none => exact write_err B F N XB TB hk hdp hu H (.inl ⟨hv, rfl⟩) (he _ (.inl ⟨hv, rfl⟩))
  | some c =>
    obtain ⟨x, hf, _, hl⟩ := G.wf.file hv
    rcases G.wf.mode3 hv with hm | hm | hm
    · exact write_err B F N XB TB hk hdp hu H (.inr ⟨_, hv, by rw [hm]; decide, rfl⟩) (he _ (.inr ⟨c, hv, hm, rfl⟩))
    all_goals exact write_ok B F N XB TB hk hdp hu H hv (by rw [hm]; decide) hf hl hy (ats_le G hv) (files_le G) (ret c x hv (by rw [hm]; decide) hf)
set_option maxRecDepth 100000 in
set_option maxHeartbeats 8000000 in
theorem row_gen {w : World} {dp un : Nat} {gd : Option (List Code)} {cn : Str} {cs : Scope} {a : Addr} {ccd : Value} {cl : List (Str × Addr)} {outer : List Env} {A₀ : Around} {base h₀ : Heap} {L : Addr} {m mg mb : Str → Option Value}
    {news : List (Addr × Obj)} {s : Shared} {Q E : Value → Shared → Prop} {loose : List Str} {mean : ExcName → Option Value}
    (B : Below A₀ base outer h₀) (F : Fr h₀ L s.heap m) (N : News h₀ L s.heap news) (XB : (hd.heap_1 w.params).In base) (TB : Top topProg loose mean mg mb base) (hk : cs.kind = .function) (hdp : dp + 14 < recursionLimit) (hu : un + 140 < cLine)
    {l : WL} {σ : St} (H : WRep w news l σ) {left : Int → Str} {b : Nat} (G : Good σ left b) {k : Int} {tk tx : Tok} {y : Str} (hy : y.length ≤ 500)
    (he : ∀ code, wrX σ k code → Err A₀ base outer h₀ L m news code s E)
    (ret : ∀ c x, vat σ.chans k = some c → c.mode ≠ "I" → vat σ.files c.name = some x → ∀ h' tk' news', Fr h₀ L h' m → News h₀ L h' news' → WRep w news' l { files := sset σ.files c.name (x ++ (y ++ "\n")), chans := sset σ.chans k { c with at_ := c.at_ + (y ++ "\n").length } } → (∀ p ∈ news, p.1 ∉ l.all σ → p ∈ news') → Q .none { s with heap := h', toks := tk' }) :
    wpAny (model PySem.Challenge.rw_pq0172_01.row.prog w) (ktrTop dp un gd cn cs L a ccd cl outer) (call (.ref 94) [.ref l.wi, .int k tk, .str y tx]) Q E s := by
  cases hv : vat σ.chans k with
  | none => exact row_err B F N XB TB hk hdp hu H hy (.inl ⟨hv, rfl⟩) (he _ (.inl ⟨hv, rfl⟩))
  | some c =>
    obtain ⟨x, hf, _, hl⟩ := G.wf.file hv
    rcases G.wf.mode3 hv with hm | hm | hm
    · exact row_err B F N XB TB hk hdp hu H hy (.inr ⟨_, hv, by rw [hm]; decide, rfl⟩) (he _ (.inr ⟨c, hv, hm, rfl⟩))
    all_goals exact row_ok B F N XB TB hk hdp hu H hv (by rw [hm]; decide) hf hl hy (ats_le G hv) (files_le G) (ret c x hv (by rw [hm]; decide) hf)
set_option maxRecDepth 100000 in
set_option maxHeartbeats 8000000 in
theorem close_gen {w : World} {dp un : Nat} {gd : Option (List Code)} {cn : Str} {cs : Scope} {a : Addr} {ccd : Value} {cl : List (Str × Addr)} {outer : List Env} {A₀ : Around} {base h₀ : Heap} {L : Addr} {m mg mb : Str → Option Value}
    {news : List (Addr × Obj)} {s : Shared} {Q E : Value → Shared → Prop} {loose : List Str} {mean : ExcName → Option Value}
    (B : Below A₀ base outer h₀) (F : Fr h₀ L s.heap m) (N : News h₀ L s.heap news) (XB : (hd.heap_1 w.params).In base) (TB : Top topProg loose mean mg mb base) (hk : cs.kind = .function) (hdp : dp + 12 < recursionLimit) (hu : un + 120 < cLine)
    {l : WL} {σ : St} (H : WRep w news l σ) {left : Int → Str} {b : Nat} (G : Good σ left b) {k : Int} {tk : Tok}
    (ret : ∀ h' tk' news', Fr h₀ L h' m → News h₀ L h' news' → WRep w news' l { σ with chans := sdel σ.chans k } → (∀ p ∈ news, p.1 ∉ l.all σ → p ∈ news') → Q .none { s with heap := h', toks := tk' }) :
    wpAny (model PySem.Challenge.rw_pq0172_01.row.prog w) (ktrTop dp un gd cn cs L a ccd cl outer) (call (.ref 70) [.ref l.wi, .int k tk]) Q E s := by
  refine close_go B F N XB TB hk hdp hu H (chans_le G) (fun hv h' tk' n' F' N' c' => ?_) fun _ => ret
  have e : sdel σ.chans k = σ.chans := List.filter_eq_self.mpr fun x hx => by
    have := vat_none_key hv
    simp only [ne_eq, decide_eq_true_eq]
    exact fun q => this (q ▸ List.mem_map_of_mem hx)
  rw [e] at ret
  exact ret h' tk' n' F' N' (H.mono c') fun p hp _ => c' p hp
def klX (σ : St) (nm : Str) (code : Str) : Prop := (vat σ.files nm = none ∧ code = "FF") ∨ ((∃ x, vat σ.files nm = some x) ∧ named σ nm = true ∧ code = "AO")
theorem klX_len {σ : St} {nm : Str} {code : Str} (h : klX σ nm code) : code.length ≤ 100 := by
  rcases h with ⟨_, rfl⟩ | ⟨_, _, rfl⟩ <;> decide
set_option maxRecDepth 100000 in
set_option maxHeartbeats 8000000 in
theorem kill_gen {w : World} {dp un : Nat} {gd : Option (List Code)} {cn : Str} {cs : Scope} {a : Addr} {ccd : Value} {cl : List (Str × Addr)} {outer : List Env} {A₀ : Around} {base h₀ : Heap} {L : Addr} {m mg mb : Str → Option Value}
    {news : List (Addr × Obj)} {s : Shared} {Q E : Value → Shared → Prop} {loose : List Str} {mean : ExcName → Option Value}
    (B : Below A₀ base outer h₀) (F : Fr h₀ L s.heap m) (N : News h₀ L s.heap news) (XB : (hd.heap_1 w.params).In base) (TB : Top topProg loose mean mg mb base) (hk : cs.kind = .function) (hdp : dp + 16 < recursionLimit) (hu : un + 160 < cLine)
    {l : WL} {σ : St} (H : WRep w news l σ) {left : Int → Str} {b : Nat} (G : Good σ left b) {tn : Tok} {nm : Str}
    (he : ∀ code, klX σ nm code → Err A₀ base outer h₀ L m news code s E)
    (ret : ∀ x, vat σ.files nm = some x → named σ nm = false → ∀ h' tk' news', Fr h₀ L h' m → News h₀ L h' news' → WRep w news' l { σ with files := sdel σ.files nm } → (∀ p ∈ news, p.1 ∉ l.all σ → p ∈ news') → Q .none { s with heap := h', toks := tk' }) :
    wpAny (model PySem.Challenge.rw_pq0172_01.row.prog w) (ktrTop dp un gd cn cs L a ccd cl outer) (call (.ref 75) [.ref l.wi, .str nm tn]) Q E s := by
  exact kill_go B F N XB TB hk hdp hu H G.wf.keys (chans_le G) (files_le G) (fun hf => he _ (.inl ⟨hf, rfl⟩)) (fun hf hm => he _ (.inr ⟨hf, hm, rfl⟩)) ret
def rnX (σ : St) (nm nw : Str) (code : Str) : Prop := klX σ nm code ∨ ((∃ x, vat σ.files nm = some x) ∧ named σ nm = false ∧ (∃ y, vat σ.files nw = some y) ∧ code = "NM")
theorem rnX_len {σ : St} {nm nw : Str} {code : Str} (h : rnX σ nm nw code) : code.length ≤ 100 := by
  rcases h with h | ⟨_, _, _, rfl⟩
  · exact klX_len h
  · decide
set_option maxRecDepth 100000 in
set_option maxHeartbeats 8000000 in
theorem ren_gen {w : World} {dp un : Nat} {gd : Option (List Code)} {cn : Str} {cs : Scope} {a : Addr} {ccd : Value} {cl : List (Str × Addr)} {outer : List Env} {A₀ : Around} {base h₀ : Heap} {L : Addr} {m mg mb : Str → Option Value}
    {news : List (Addr × Obj)} {s : Shared} {Q E : Value → Shared → Prop} {loose : List Str} {mean : ExcName → Option Value}
    (B : Below A₀ base outer h₀) (F : Fr h₀ L s.heap m) (N : News h₀ L s.heap news) (XB : (hd.heap_1 w.params).In base) (TB : Top topProg loose mean mg mb base) (hk : cs.kind = .function) (hdp : dp + 16 < recursionLimit) (hu : un + 160 < cLine)
    {l : WL} {σ : St} (H : WRep w news l σ) {left : Int → Str} {b : Nat} (G : Good σ left b) {tn tw : Tok} {nm nw : Str} (hn : IsName nw ∨ nw = "D")
    (he : ∀ code, rnX σ nm nw code → Err A₀ base outer h₀ L m news code s E)
    (ret : ∀ x, vat σ.files nm = some x → named σ nm = false → vat σ.files nw = none → ∀ h' tk' news', Fr h₀ L h' m → News h₀ L h' news' → WRep w news' l { σ with files := sset (sdel σ.files nm) nw x } → (∀ p ∈ news, p.1 ∉ l.all σ → p ∈ news') → Q .none { s with heap := h', toks := tk' }) :
    wpAny (model PySem.Challenge.rw_pq0172_01.row.prog w) (ktrTop dp un gd cn cs L a ccd cl outer) (call (.ref 80) [.ref l.wi, .str nm tn, .str nw tw]) Q E s := by
  exact ren_go B F N XB TB hk hdp hu H G.wf.keys hn (chans_le G) (files_le G) (fun hf => he _ (.inl (.inl ⟨hf, rfl⟩))) (fun hf hm => he _ (.inl (.inr ⟨hf, hm, rfl⟩))) (fun hf hm y hw => he _ (.inr ⟨hf, hm, ⟨y, hw⟩, rfl⟩)) ret


end
/-! G4 -/
section
def opX (σ : St) (k : Int) (mode nm : Str) (code : Str) : Prop :=
  ((∃ c, vat σ.chans k = some c) ∧ code = "AO") ∨ (vat σ.chans k = none ∧ elseW σ mode nm = true ∧ code = "AO") ∨ (vat σ.chans k = none ∧ elseW σ mode nm = false ∧ mode = "I" ∧ vat σ.files nm = none ∧ code = "FF")
theorem opX_len {σ : St} {k : Int} {mode nm : Str} {code : Str} (h : opX σ k mode nm code) : code.length ≤ 100 := by
  rcases h with ⟨_, rfl⟩ | ⟨_, _, rfl⟩ | ⟨_, _, _, _, rfl⟩ <;> decide
def OpenW (σ : St) (k : Int) (mode nm : Str) (σ' : St) : Prop :=
  (mode = "I" ∧ ∃ x, vat σ.files nm = some x ∧ σ' = { σ with chans := sset σ.chans k ⟨"I", nm, 0⟩ }) ∨ (mode = "A" ∧ ∃ x, vat σ.files nm = some x ∧ σ' = { σ with chans := sset σ.chans k ⟨"A", nm, x.length⟩ }) ∨
    (mode = "O" ∧ σ' = { files := sset σ.files nm "", chans := sset σ.chans k ⟨"O", nm, 0⟩ }) ∨ (mode = "A" ∧ vat σ.files nm = none ∧ σ' = { files := sset σ.files nm "", chans := sset σ.chans k ⟨"A", nm, ("" : Str).length⟩ })
set_option maxRecDepth 100000 in
set_option maxHeartbeats 8000000 in
theorem open_gen {w : World} {dp un : Nat} {gd : Option (List Code)} {cn : Str} {cs : Scope} {a : Addr} {ccd : Value} {cl : List (Str × Addr)} {outer : List Env} {A₀ : Around} {base h₀ : Heap} {L : Addr} {m mg mb : Str → Option Value}
    {news : List (Addr × Obj)} {s : Shared} {Q E : Value → Shared → Prop} {loose : List Str} {mean : ExcName → Option Value}
    (B : Below A₀ base outer h₀) (F : Fr h₀ L s.heap m) (N : News h₀ L s.heap news) (XB : (hd.heap_1 w.params).In base) (TB : Top topProg loose mean mg mb base) (hk : cs.kind = .function) (hdp : dp + 16 < recursionLimit) (hu : un + 160 < cLine)
    {l : WL} {σ : St} (H : WRep w news l σ) {left : Int → Str} {b : Nat} (G : Good σ left b) {k : Int} (hk3 : k = 1 ∨ k = 2 ∨ k = 3) {tk tm tn ts : Tok} {mode nm : Str} (hm : mode = "O" ∨ mode = "I" ∨ mode = "A") (hn : IsName nm)
    (he : ∀ code, opX σ k mode nm code → Err A₀ base outer h₀ L m news code s E)
    (ret : ∀ σ', vat σ.chans k = none → elseW σ mode nm = false → OpenW σ k mode nm σ' → ∀ h' tk' news' b, Fr h₀ L h' m → News h₀ L h' news' → WRep w news' { l with ch := fun i => if i = k then b else l.ch i } σ' → (∀ p ∈ news, p.1 ∉ l.all σ → p ∈ news') → (∀ p ∈ news, p.1 < b) → Q .none { s with heap := h', toks := tk' }) :
    wpAny (model PySem.Challenge.rw_pq0172_01.row.prog w) (ktrTop dp un gd cn cs L a ccd cl outer) (call (.ref 49) [.ref l.wi, .str mode tm, .int k tk, .str nm tn, .int 0 ts]) Q E s := by
  have k1 : 1 ≤ k := by omega
  have k2 : k ≤ 3 := by omega
  exact open_go B F N XB TB hk hdp hu H G.wf.keys G.wf.names k1 k2 hm (.inl hn) (chans_le G) (files_le G) (fun f hf => Nat.le_trans (G.wf.size _ hf) G.wf.bound) (fun hv => he _ (.inl ⟨hv, rfl⟩)) (fun hv hb => he _ (.inr (.inl ⟨hv, hb, rfl⟩)))
    (fun hv hb e hf => he _ (.inr (.inr ⟨hv, hb, e, hf, rfl⟩))) (fun hv hb e x hf => ret _ hv hb (.inl ⟨e, x, hf, rfl⟩)) (fun hv hb e x hf => ret _ hv hb (.inr (.inl ⟨e, x, hf, rfl⟩)))
    (fun hv hb e => ret _ hv hb (.inr (.inr (.inl ⟨e, rfl⟩)))) (fun hv hb e hf => ret _ hv hb (.inr (.inr (.inr ⟨e, hf, rfl⟩))))
def leftOf (x : Str) (c : Ch) : List Nat := x.cps.toList.drop c.at_
def RowR (l : List Nat) (v : Str) (n : Nat) : Prop := (∃ p r, l = p ++ 10 :: r ∧ (∀ z ∈ p, z ≠ 10) ∧ v = Sg p ∧ n = p.length + 1) ∨ ((∀ z ∈ l, z ≠ 10) ∧ v = Sg l ∧ n = l.length)
theorem row_cases : ∀ l : List Nat, ∃ v n, RowR l v n
  | [] => ⟨_, _, .inr ⟨(fun _ h => nomatch h), rfl, rfl⟩⟩
  | a :: r => by
    by_cases h : a = 10
    · exact ⟨_, _, .inl ⟨[], r, by rw [h]; rfl, (fun _ h => nomatch h), rfl, rfl⟩⟩
    · obtain ⟨v, n, ⟨p, q, e, hp, _, _⟩ | ⟨hp, _, _⟩⟩ := row_cases r
      · exact ⟨_, _, .inl ⟨a :: p, q, by rw [e]; rfl, fun z hz => by
          rcases List.mem_cons.mp hz with rfl | hz
          · exact h
          · exact hp z hz, rfl, rfl⟩⟩
      · exact ⟨_, _, .inr ⟨fun z hz => by
          rcases List.mem_cons.mp hz with rfl | hz
          · exact h
          · exact hp z hz, rfl, rfl⟩⟩
theorem RowR.row {l : List Nat} {v : Str} {n : Nat} (h : RowR l v n) : rowOf (Sg l) = v ∧ ∀ a t, a + l.length = t → min (a + (v.length + 1)) t = a + n := by
  rcases h with ⟨p, r, rfl, hp, rfl, rfl⟩ | ⟨hp, rfl, rfl⟩
  · refine ⟨row_nl hp, fun a t e => ?_⟩
    rw [Sg_len]
    simp only [List.length_append, List.length_cons] at e
    omega
  · refine ⟨row_no hp, fun a t e => ?_⟩
    rw [Sg_len]
    omega
def rdX (σ : St) (k : Int) (P : List Nat → Prop) (code : Str) : Prop :=
  (vat σ.chans k = none ∧ code = "BN") ∨ (∃ c, vat σ.chans k = some c ∧ c.mode ≠ "I" ∧ code = "BM") ∨ ∃ c x, vat σ.chans k = some c ∧ c.mode = "I" ∧ vat σ.files c.name = some x ∧ P (leftOf x c) ∧ code = "EF"
theorem rdX_len {σ : St} {k : Int} {P : List Nat → Prop} {code : Str} (h : rdX σ k P code) : code.length ≤ 100 := by
  rcases h with ⟨_, rfl⟩ | ⟨_, _, _, rfl⟩ | ⟨_, _, _, _, _, _, rfl⟩ <;> decide
set_option maxRecDepth 100000 in
set_option maxHeartbeats 8000000 in
theorem read_gen {w : World} {dp un : Nat} {gd : Option (List Code)} {cn : Str} {cs : Scope} {a : Addr} {ccd : Value} {cl : List (Str × Addr)} {outer : List Env} {A₀ : Around} {base h₀ : Heap} {L : Addr} {m mg mb : Str → Option Value}
    {news : List (Addr × Obj)} {s : Shared} {Q E : Value → Shared → Prop} {loose : List Str} {mean : ExcName → Option Value}
    (B : Below A₀ base outer h₀) (F : Fr h₀ L s.heap m) (N : News h₀ L s.heap news) (XB : (hd.heap_1 w.params).In base) (TB : Top topProg loose mean mg mb base) (hk : cs.kind = .function) (hdp : dp + 16 < recursionLimit) (hu : un + 160 < cLine)
    {l : WL} {σ : St} (H : WRep w news l σ) {left : Int → Str} {b : Nat} (G : Good σ left b) {k : Int} {tk : Tok}
    (he : ∀ code, rdX σ k (· = []) code → Err A₀ base outer h₀ L m news code s E)
    (ret : ∀ c x v n, vat σ.chans k = some c → c.mode = "I" → vat σ.files c.name = some x → leftOf x c ≠ [] → RowR (leftOf x c) v n → ∀ tr h' tk' news', Fr h₀ L h' m → News h₀ L h' news' → WRep w news' l { σ with chans := sset σ.chans k { c with at_ := c.at_ + n } } → (∀ p ∈ news, p.1 ∉ l.all σ → p ∈ news') → Q (.str v tr) { s with heap := h', toks := tk' }) :
    wpAny (model PySem.Challenge.rw_pq0172_01.row.prog w) (ktrTop dp un gd cn cs L a ccd cl outer) (call (.ref 115) [.ref l.wi, .int k tk]) Q E s := by
  cases hv : vat σ.chans k with
  | none => exact read_err B F N XB TB hk hdp hu H (.inl ⟨hv, rfl⟩) (he _ (.inl ⟨hv, rfl⟩))
  | some c =>
    obtain ⟨x, hf, hle, hl⟩ := G.wf.file hv
    by_cases hm : c.mode = "I"
    · have e := slice_drop (hle hm)
      have hlen : c.at_ + (leftOf x c).length = x.length := by rw [leftOf, List.length_drop, ← str_len]; have := hle hm; omega
      refine read_go B F N XB TB hk hdp hu H hv (by rw [hm]; decide) hf hl (ats_le G hv) (fun q => he _ (.inr (.inr ⟨c, x, hv, hm, hf, ?_, rfl⟩))) fun tr h' tk' n' q F' N' H' c' => ?_
      · rw [e] at q
        cases hd : x.cps.toList.drop c.at_ with
        | nil => exact hd
        | cons d r => rw [hd] at q; exact absurd q Sg_ne
      · rw [e] at q H' ⊢
        obtain ⟨v, n, hr⟩ := row_cases (leftOf x c)
        obtain ⟨r1, r2⟩ := hr.row
        rw [show Sg (x.cps.toList.drop c.at_) = Sg (leftOf x c) from rfl, r1] at H' ⊢
        rw [r2 _ _ hlen] at H'
        exact ret c x v n hv hm hf (fun z => q (by rw [show x.cps.toList.drop c.at_ = [] from z]; rfl)) hr tr h' tk' n' F' N' H' c'
    · exact read_err B F N XB TB hk hdp hu H (.inr ⟨_, hv, by rcases G.wf.mode3 hv with q | q | q <;> first | exact absurd q hm | (rw [q]; decide), rfl⟩) (he _ (.inr (.inl ⟨c, hv, hm, rfl⟩)))
set_option maxRecDepth 100000 in
set_option maxHeartbeats 8000000 in
theorem signs_gen {w : World} {dp un : Nat} {gd : Option (List Code)} {cn : Str} {cs : Scope} {a : Addr} {ccd : Value} {cl : List (Str × Addr)} {outer : List Env} {A₀ : Around} {base h₀ : Heap} {L : Addr} {m mg mb : Str → Option Value}
    {news : List (Addr × Obj)} {s : Shared} {Q E : Value → Shared → Prop} {loose : List Str} {mean : ExcName → Option Value}
    (B : Below A₀ base outer h₀) (F : Fr h₀ L s.heap m) (N : News h₀ L s.heap news) (XB : (hd.heap_1 w.params).In base) (TB : Top topProg loose mean mg mb base) (hk : cs.kind = .function) (hdp : dp + 16 < recursionLimit) (hu : un + 160 < cLine)
    {l : WL} {σ : St} (H : WRep w news l σ) {left : Int → Str} {b : Nat} (G : Good σ left b) {k : Int} {tk tn : Tok} {n₀ : Nat} (hn : n₀ ≤ 1000)
    (he : ∀ code, rdX σ k (fun l => l.length < n₀) code → Err A₀ base outer h₀ L m news code s E)
    (ret : ∀ c x, vat σ.chans k = some c → c.mode = "I" → vat σ.files c.name = some x → n₀ ≤ (leftOf x c).length → ∀ tr h' tk' news', Fr h₀ L h' m → News h₀ L h' news' → WRep w news' l { σ with chans := sset σ.chans k { c with at_ := c.at_ + n₀ } } → (∀ p ∈ news, p.1 ∉ l.all σ → p ∈ news') → Q (.str (Sg ((leftOf x c).take n₀)) tr) { s with heap := h', toks := tk' }) :
    wpAny (model PySem.Challenge.rw_pq0172_01.row.prog w) (ktrTop dp un gd cn cs L a ccd cl outer) (call (.ref 122) [.ref l.wi, .int k tk, .int (n₀ : Nat) tn]) Q E s := by
  cases hv : vat σ.chans k with
  | none => exact signs_err B F N XB TB hk hdp hu H (.inl ⟨hv, rfl⟩) (he _ (.inl ⟨hv, rfl⟩))
  | some c =>
    obtain ⟨x, hf, hle, hl⟩ := G.wf.file hv
    by_cases hm : c.mode = "I"
    · have e := slice_drop (hle hm)
      have hlen : c.at_ + (leftOf x c).length = x.length := by rw [leftOf, List.length_drop, ← str_len]; have := hle hm; omega
      refine signs_go B F N XB TB hk hdp hu H rfl hv (by rw [hm]; decide) hf hl (ats_le G hv) (by omega) (fun q => he _ (.inr (.inr ⟨c, x, hv, hm, hf, ?_, rfl⟩))) fun tr h' tk' n' q F' N' H' c' => ?_
      · rw [e, Sg_len] at q; exact q
      · rw [e, Sg_len] at q
        have q' : n₀ ≤ (leftOf x c).length := by unfold leftOf; omega
        rw [e, slice_take (by unfold leftOf at q'; exact q')]
        rw [Nat.min_eq_left (by omega)] at H'
        exact ret c x hv hm hf q' tr h' tk' n' F' N' H' c'
    · exact signs_err B F N XB TB hk hdp hu H (.inr ⟨_, hv, by rcases G.wf.mode3 hv with q | q | q <;> first | exact absurd q hm | (rw [q]; decide), rfl⟩) (he _ (.inr (.inl ⟨c, hv, hm, rfl⟩)))


end
/-! G5 -/
section
open PyProof.V
/-! the twin's calls, whole -/
def TGen (w : World) (h₀ : Heap) (L : Addr) (m : Str → Option Value) (news : List (Addr × Obj)) (t : TL) (σ : St) (s : Shared) (P : Value → St → (Int → Str) → Prop) (Q : Value → Shared → Prop) : Prop :=
  ∀ dv h' tk' n' t' τ' left', Fr h₀ L h' m → News h₀ L h' n' → TRep w n' t' τ' left' → (∀ p ∈ news, p.1 ∉ t.all σ → p ∈ n') → (∀ a ∈ t'.all τ', a ∈ t.all σ ∨ ∀ p ∈ news, p.1 < a) → t'.td = t.td → P dv τ' left' → Q dv { s with heap := h', toks := tk' }
section
variable {w : World} {h₀ : Heap} {L : Addr} {m : Str → Option Value} {news : List (Addr × Obj)} {t : TL} {σ : St} {left : Int → Str} {s : Shared} {P : Value → St → (Int → Str) → Prop} {Q : Value → Shared → Prop}
theorem TGen.same (ret : TGen w h₀ L m news t σ s P Q) (H : TRep w news t σ left) {x : Str} (p : ∀ tr, P (.str x tr) σ left) : ∀ tr h' tk' n', Fr h₀ L h' m → News h₀ L h' n' → (∀ p ∈ news, p ∈ n') → Q (.str x tr) { s with heap := h', toks := tk' } :=
  fun tr h' tk' n' F N c => ret _ h' tk' n' t σ left F N (H.up c) (fun p hp _ => c p hp) (fun _ ha => .inl ha) rfl (p tr)
theorem TGen.go (ret : TGen w h₀ L m news t σ s P Q) {σ' : St} {left' : Int → Str} {dv : Value} (p : P dv σ' left') : TRet w h₀ L m news t σ σ' left' s (Q dv) :=
  fun h' tk' n' t' F N T K S e => ret dv h' tk' n' t' σ' left' F N T K S e p
end
def isS (v : Value) (x : Str) : Prop := ∃ tr, v = .str x tr
def PutP (σ : St) (k : Int) (y : Str) (left : Int → Str) (dv : Value) (τ : St) (left' : Int → Str) : Prop := left' = left ∧
  ((vat σ.chans k = none ∧ isS dv "refused BN" ∧ τ = σ) ∨ (∃ c, vat σ.chans k = some c ∧ c.mode = "I" ∧ isS dv "refused BM" ∧ τ = σ) ∨
    ∃ c x, vat σ.chans k = some c ∧ c.mode ≠ "I" ∧ vat σ.files c.name = some x ∧ dv = .none ∧ τ = { files := sset σ.files c.name (x ++ y), chans := sset σ.chans k { c with at_ := c.at_ + y.length } })
set_option maxRecDepth 100000 in
set_option maxHeartbeats 8000000 in
theorem put_gen {w : World} {dp un : Nat} {gd : Option (List Code)} {cn : Str} {cs : Scope} {a : Addr} {ccd : Value} {cl : List (Str × Addr)} {outer : List Env} {A₀ : Around} {base h₀ : Heap} {L : Addr} {m mg mb : Str → Option Value}
    {news : List (Addr × Obj)} {s : Shared} {Q E : Value → Shared → Prop} {loose : List Str} {mean : ExcName → Option Value}
    (B : Below A₀ base outer h₀) (F : Fr h₀ L s.heap m) (N : News h₀ L s.heap news) (XB : (hd.heap_1 w.params).In base) (TB : Top topProg loose mean mg mb base) (hk : cs.kind = .function) (hdp : dp + 12 < recursionLimit) (hu : un + 120 < cLine)
    {t : TL} {σ : St} {left : Int → Str} (H : TRep w news t σ left) {b : Nat} (G : Good σ left b) {k : Int} {tk ty : Tok} {y : Str} (hy : y.length ≤ 1000) (ret : TGen w h₀ L m news t σ s (PutP σ k y left) Q) :
    wpAny (model PySem.Challenge.rw_pq0172_01.row.prog w) (ktrTop dp un gd cn cs L a ccd cl outer) (call (.ref 191) [.ref t.td, .int k tk, .str y ty]) Q E s := by
  exact put_go B F N XB TB hk hdp hu H hy (fun hv => ret.same H fun tr => ⟨rfl, .inl ⟨hv, ⟨tr, rfl⟩, rfl⟩⟩) (fun c hv hm => ret.same H fun tr => ⟨rfl, .inr (.inl ⟨c, hv, by simpa using hm, ⟨tr, rfl⟩, rfl⟩)⟩) fun c hv hm => by
    obtain ⟨x, hf, _, hl⟩ := G.wf.file hv
    exact ⟨x, hf, hl, ret.go ⟨rfl, .inr (.inr ⟨c, x, hv, by simpa using hm, hf, rfl, rfl⟩)⟩⟩
def GotP (σ : St) (k : Int) (left : Int → Str) (E : List Nat → Prop) (V : List Nat → Str → Nat → Prop) (dv : Value) (τ : St) (left' : Int → Str) : Prop :=
  (vat σ.chans k = none ∧ isS dv "refused BN" ∧ τ = σ ∧ left' = left) ∨ (∃ c, vat σ.chans k = some c ∧ c.mode ≠ "I" ∧ isS dv "refused BM" ∧ τ = σ ∧ left' = left) ∨
    (∃ c x, vat σ.chans k = some c ∧ c.mode = "I" ∧ vat σ.files c.name = some x ∧ E (leftOf x c) ∧ isS dv "refused EF" ∧ τ = σ ∧ left' = left) ∨
    ∃ c x v n, vat σ.chans k = some c ∧ c.mode = "I" ∧ vat σ.files c.name = some x ∧ ¬ E (leftOf x c) ∧ V (leftOf x c) v n ∧ isS dv v ∧ τ = { σ with chans := sset σ.chans k { c with at_ := c.at_ + n } } ∧ left' = fun i => if i = k then Sg ((leftOf x c).drop n) else left i
theorem left_is {σ : St} {left : Int → Str} {b : Nat} (G : Good σ left b) {k : Int} {c : Ch} (hv : vat σ.chans k = some c) (hm : c.mode = "I") : ∃ x, vat σ.files c.name = some x ∧ left k = Sg (leftOf x c) ∧ (leftOf x c).length ≤ 1000 ∧ (∀ z ∈ leftOf x c, z < 128) := by
  obtain ⟨x, hx, e⟩ := G.lf _ (vat_mem hv) hm
  have hl := Nat.le_trans (G.wf.size _ (vat_mem hx)) G.wf.bound
  refine ⟨x, hx, e, ?_, fun z hz => G.asc _ (vat_mem hx) z (List.mem_of_mem_drop hz)⟩
  rw [leftOf, List.length_drop, ← str_len]
  exact Nat.le_trans (Nat.sub_le _ _) hl
set_option maxRecDepth 100000 in
set_option maxHeartbeats 8000000 in
theorem row_got {w : World} {dp un : Nat} {gd : Option (List Code)} {cn : Str} {cs : Scope} {a : Addr} {ccd : Value} {cl : List (Str × Addr)} {outer : List Env} {A₀ : Around} {base h₀ : Heap} {L : Addr} {m mg mb : Str → Option Value}
    {news : List (Addr × Obj)} {s : Shared} {Q E : Value → Shared → Prop} {loose : List Str} {mean : ExcName → Option Value}
    (B : Below A₀ base outer h₀) (F : Fr h₀ L s.heap m) (N : News h₀ L s.heap news) (XB : (hd.heap_1 w.params).In base) (TB : Top topProg loose mean mg mb base) (hk : cs.kind = .function) (hdp : dp + 12 < recursionLimit) (hu : un + 120 < cLine)
    {t : TL} {σ : St} {left : Int → Str} (H : TRep w news t σ left) {b : Nat} (G : Good σ left b) (hb : b ≤ 900) {k : Int} {tk : Tok} (ret : TGen w h₀ L m news t σ s (GotP σ k left (· = []) RowR) Q) :
    wpAny (model PySem.Challenge.rw_pq0172_01.row.prog w) (ktrTop dp un gd cn cs L a ccd cl outer) (call (.ref 198) [.ref t.td, .int k tk, .none]) Q E s := by
  cases hv : vat σ.chans k with
  | none => exact got_none B F N XB TB hk hdp hu H hv (ret.same H fun tr => .inl ⟨hv, ⟨tr, rfl⟩, rfl, rfl⟩)
  | some c =>
    by_cases hm : c.mode = "I"
    · obtain ⟨x, hf, e, hl, ha⟩ := left_is G hv hm
      have hm' : (c.mode != "I") = false := by simpa using hm
      have hz : (leftOf x c).length ≤ 901 := by
        have h1 : (leftOf x c).length ≤ x.length := by rw [leftOf, List.length_drop, ← str_len]; exact Nat.sub_le _ _
        have h2 := G.wf.size _ (vat_mem hf)
        dsimp only at h2
        omega
      refine row_go B F N XB TB hk hdp hu H G.wf.keys hv hm' e ha hz (fun hd => ret.same H fun tr => .inr (.inr (.inl ⟨c, x, hv, hm, hf, hd, ⟨tr, rfl⟩, rfl, rfl⟩))) (fun p q hpq hp tr => ret.go (.inr (.inr (.inr ⟨c, x, Sg p, p.length + 1, hv, hm, hf, by rw [hpq]; simp, .inl ⟨p, q, hpq, hp, rfl, rfl⟩, ⟨tr, rfl⟩, rfl, ?_⟩)))) fun ne hp tr => ret.go (.inr (.inr (.inr ⟨c, x, Sg (leftOf x c), (leftOf x c).length, hv, hm, hf, ne, .inr ⟨hp, rfl, rfl⟩, ⟨tr, rfl⟩, rfl, ?_⟩)))
      · rw [hpq]
        have : (p ++ 10 :: q).drop (p.length + 1) = q := by
          rw [List.drop_append, List.drop_eq_nil_iff.mpr (Nat.le_succ _)]
          simp
        rw [this]
      · rw [List.drop_length]
    · exact got_bad B F N XB TB hk hdp hu H hv (by simpa using hm) (ret.same H fun tr => .inr (.inl ⟨c, hv, hm, ⟨tr, rfl⟩, rfl, rfl⟩))
set_option maxRecDepth 100000 in
set_option maxHeartbeats 8000000 in
theorem signs_got {w : World} {dp un : Nat} {gd : Option (List Code)} {cn : Str} {cs : Scope} {a : Addr} {ccd : Value} {cl : List (Str × Addr)} {outer : List Env} {A₀ : Around} {base h₀ : Heap} {L : Addr} {m mg mb : Str → Option Value}
    {news : List (Addr × Obj)} {s : Shared} {Q E : Value → Shared → Prop} {loose : List Str} {mean : ExcName → Option Value}
    (B : Below A₀ base outer h₀) (F : Fr h₀ L s.heap m) (N : News h₀ L s.heap news) (XB : (hd.heap_1 w.params).In base) (TB : Top topProg loose mean mg mb base) (hk : cs.kind = .function) (hdp : dp + 12 < recursionLimit) (hu : un + 120 < cLine)
    {t : TL} {σ : St} {left : Int → Str} (H : TRep w news t σ left) {b : Nat} (G : Good σ left b) {k : Int} {tk tn : Tok} {n₀ : Nat} (ret : TGen w h₀ L m news t σ s (GotP σ k left (fun l => l.length < n₀) fun l v n => v = Sg (l.take n₀) ∧ n = n₀) Q) :
    wpAny (model PySem.Challenge.rw_pq0172_01.row.prog w) (ktrTop dp un gd cn cs L a ccd cl outer) (call (.ref 198) [.ref t.td, .int k tk, .int n₀ tn]) Q E s := by
  cases hv : vat σ.chans k with
  | none => exact got_none B F N XB TB hk hdp hu H hv (ret.same H fun tr => .inl ⟨hv, ⟨tr, rfl⟩, rfl, rfl⟩)
  | some c =>
    by_cases hm : c.mode = "I"
    · obtain ⟨x, hf, e, hl, ha⟩ := left_is G hv hm
      have hm' : (c.mode != "I") = false := by simpa using hm
      exact signs_take B F N XB TB hk hdp hu H G.wf.keys hv hm' e ha (by rw [Sg_len]; exact hl) (fun hq => ret.same H fun tr => .inr (.inr (.inl ⟨c, x, hv, hm, hf, by rw [Sg_len] at hq; exact hq, ⟨tr, rfl⟩, rfl, rfl⟩))) fun hq tr => ret.go (.inr (.inr (.inr ⟨c, x, _, n₀, hv, hm, hf, by rw [Sg_len] at hq; exact hq, ⟨rfl, rfl⟩, ⟨tr, rfl⟩, rfl, rfl⟩)))
    · exact got_bad B F N XB TB hk hdp hu H hv (by simpa using hm) (ret.same H fun tr => .inr (.inl ⟨c, hv, hm, ⟨tr, rfl⟩, rfl, rfl⟩))
def NamP (σ : St) (nm : Str) (left : Int → Str) (new : Option Str) (dv : Value) (τ : St) (left' : Int → Str) : Prop := left' = left ∧
  ((vat σ.files nm = none ∧ isS dv "refused FF" ∧ τ = σ) ∨ (∃ x, vat σ.files nm = some x ∧ named σ nm = true ∧ isS dv "refused AO" ∧ τ = σ) ∨
    (∃ x nw y, vat σ.files nm = some x ∧ named σ nm = false ∧ new = some nw ∧ vat σ.files nw = some y ∧ isS dv "refused NM" ∧ τ = σ) ∨
    (∃ x, vat σ.files nm = some x ∧ named σ nm = false ∧ new = none ∧ dv = .none ∧ τ = { σ with files := sdel σ.files nm }) ∨
    ∃ x nw, vat σ.files nm = some x ∧ named σ nm = false ∧ new = some nw ∧ vat σ.files nw = none ∧ dv = .none ∧ τ = { σ with files := sset (sdel σ.files nm) nw x })
def newV (v : Value) : Option Str → Prop
  | none => v = .none
  | some nw => isS v nw
set_option maxRecDepth 100000 in
set_option maxHeartbeats 8000000 in
theorem named_gen {w : World} {dp un : Nat} {gd : Option (List Code)} {cn : Str} {cs : Scope} {a : Addr} {ccd : Value} {cl : List (Str × Addr)} {outer : List Env} {A₀ : Around} {base h₀ : Heap} {L : Addr} {m mg mb : Str → Option Value}
    {news : List (Addr × Obj)} {s : Shared} {Q E : Value → Shared → Prop} {loose : List Str} {mean : ExcName → Option Value}
    (B : Below A₀ base outer h₀) (F : Fr h₀ L s.heap m) (N : News h₀ L s.heap news) (XB : (hd.heap_1 w.params).In base) (TB : Top topProg loose mean mg mb base) (hk : cs.kind = .function) (hdp : dp + 12 < recursionLimit) (hu : un + 120 < cLine)
    {t : TL} {σ : St} {left : Int → Str} (H : TRep w news t σ left) {b : Nat} (G : Good σ left b) {nm : Str} {tk : Tok} {nv : Value} {new : Option Str} (hn : newV nv new) (ret : TGen w h₀ L m news t σ s (NamP σ nm left new) Q) :
    wpAny (model PySem.Challenge.rw_pq0172_01.row.prog w) (ktrTop dp un gd cn cs L a ccd cl outer) (call (.ref 203) [.ref t.td, .str nm tk, nv]) Q E s := by
  have hs : ∀ nw, isS nv nw → new = some nw := fun nw q => by
    obtain ⟨tr, rfl⟩ := q
    cases new with
    | none => cases hn
    | some z => obtain ⟨_, e⟩ := hn; cases e; rfl
  refine named_go B F N XB TB hk hdp hu H G.wf.names (new := nv) ?_ (chans_le G) (files_le G) (fun hf => ret.same H fun tr => ⟨rfl, .inl ⟨hf, ⟨tr, rfl⟩, rfl⟩⟩) (fun ⟨x, hf⟩ h => ret.same H fun tr => ⟨rfl, .inr (.inl ⟨x, hf, h, ⟨tr, rfl⟩, rfl⟩)⟩)
    (fun ⟨x, hf⟩ h nw tw y e hw => ret.same H fun tr => ⟨rfl, .inr (.inr (.inl ⟨x, nw, y, hf, h, hs nw ⟨tw, e⟩, hw, ⟨tr, rfl⟩, rfl⟩))⟩) (fun ⟨x, hf⟩ h e => ret.go ⟨rfl, .inr (.inr (.inr (.inl ⟨x, hf, h, ?_, rfl, rfl⟩)))⟩) fun x hf h nw tw e hw => ret.go ⟨rfl, .inr (.inr (.inr (.inr ⟨x, nw, hf, h, hs nw ⟨tw, e⟩, hw, rfl, rfl⟩)))⟩
  · cases new with
    | none => exact .inl hn
    | some z => obtain ⟨tw, e⟩ := hn; exact .inr ⟨z, tw, e⟩
  · cases new with
    | none => rfl
    | some z => obtain ⟨tw, rfl⟩ := hn; cases e
def OpnP (σ : St) (k : Int) (mode nm : Str) (left : Int → Str) (dv : Value) (τ : St) (left' : Int → Str) : Prop :=
  ((∃ c, vat σ.chans k = some c) ∧ isS dv "refused AO" ∧ τ = σ ∧ left' = left) ∨ (vat σ.chans k = none ∧ elseW σ mode nm = true ∧ isS dv "refused AO" ∧ τ = σ ∧ left' = left) ∨
    (vat σ.chans k = none ∧ elseW σ mode nm = false ∧ mode = "I" ∧ vat σ.files nm = none ∧ isS dv "refused FF" ∧ τ = σ ∧ left' = left) ∨
    (vat σ.chans k = none ∧ elseW σ mode nm = false ∧ OpenW σ k mode nm τ ∧ dv = .none ∧ (∀ i, i ≠ k → left' i = left i) ∧ (mode = "I" → ∀ x, vat σ.files nm = some x → left' k = x))
set_option maxRecDepth 100000 in
set_option maxHeartbeats 8000000 in
theorem opened_gen {w : World} {dp un : Nat} {gd : Option (List Code)} {cn : Str} {cs : Scope} {a : Addr} {ccd : Value} {cl : List (Str × Addr)} {outer : List Env} {A₀ : Around} {base h₀ : Heap} {L : Addr} {m mg mb : Str → Option Value}
    {news : List (Addr × Obj)} {s : Shared} {Q E : Value → Shared → Prop} {loose : List Str} {mean : ExcName → Option Value}
    (B : Below A₀ base outer h₀) (F : Fr h₀ L s.heap m) (N : News h₀ L s.heap news) (XB : (hd.heap_1 w.params).In base) (TB : Top topProg loose mean mg mb base) (hk : cs.kind = .function) (hdp : dp + 12 < recursionLimit) (hu : un + 120 < cLine)
    {t : TL} {σ : St} {left : Int → Str} (H : TRep w news t σ left) {b : Nat} (G : Good σ left b) {k : Int} {mode nm : Str} {tm tk tn : Tok} (hm : mode = "O" ∨ mode = "I" ∨ mode = "A") (ret : TGen w h₀ L m news t σ s (OpnP σ k mode nm left) Q) :
    wpAny (model PySem.Challenge.rw_pq0172_01.row.prog w) (ktrTop dp un gd cn cs L a ccd cl outer) (call (.ref 184) [.ref t.td, .str mode tm, .int k tk, .str nm tn]) Q E s := by
  have es : elseT σ mode nm = elseW σ mode nm := else_same G (by rcases hm with q | q | q <;> simp [q])
  have kn : ∀ (x : Str) (i : Int), i ≠ k → (if i = k then x else left i) = left i := fun x i h => if_neg h
  refine opened_go B F N XB TB hk hdp hu H G.wf.keys G.wf.names hm (chans_le G) (files_le G) (fun f hf => Nat.le_trans (G.wf.size f hf) G.wf.bound) (fun hv => ret.same H fun tr => .inl ⟨hv, ⟨tr, rfl⟩, rfl, rfl⟩) ?_ ?_ ?_ ?_ ?_ ?_ <;> rw [es] <;> intro hv
  · exact fun h => ret.same H fun tr => .inr (.inl ⟨hv, h, ⟨tr, rfl⟩, rfl, rfl⟩)
  · exact fun h e hf => ret.same H fun tr => .inr (.inr (.inl ⟨hv, h, e, hf, ⟨tr, rfl⟩, rfl, rfl⟩))
  · exact fun h e x hf => ret.go (.inr (.inr (.inr ⟨hv, h, .inl ⟨e, x, hf, rfl⟩, rfl, kn x, fun _ z hz => (if_pos rfl).trans (Option.some.inj (hf.symm.trans hz))⟩)))
  · exact fun h e x hf => ret.go (.inr (.inr (.inr ⟨hv, h, .inr (.inl ⟨e, x, hf, rfl⟩), rfl, kn x, fun q => by rw [e] at q; exact absurd q (by decide)⟩)))
  · exact fun h e => ret.go (.inr (.inr (.inr ⟨hv, h, .inr (.inr (.inl ⟨e, rfl⟩)), rfl, kn "", fun q => by rw [e] at q; exact absurd q (by decide)⟩)))
  · exact fun h e hf => ret.go (.inr (.inr (.inr ⟨hv, h, .inr (.inr (.inr ⟨e, hf, rfl⟩)), rfl, kn "", fun q => by rw [e] at q; exact absurd q (by decide)⟩)))


end
/-! D0 -/
section
open PyProof.V
theorem storeC {M : Model} {A : Around} {E : Value → Shared → Prop} {s : Shared} {h₀ : Heap} {L : Addr} {m : Str → Option Value} {news : List (Addr × Obj)} {cn : Str} {cs : Scope} {a : Addr} {cd : Value} {cl : List (Str × Addr)} {x : Str} {c : Addr} {o : Obj} {v₀ : Option Value} {v : Value} {Q : Unit → Shared → Prop}
    (F : Fr h₀ L s.heap m) (N : News h₀ L s.heap news) (hc : cl.lookup x = some c) (hm : (c, o) ∈ news) (hd : o.data = .cell v₀)
    (h : ∀ h' news' o', Fr h₀ L h' m → News h₀ L h' news' → (c, o') ∈ news' → Keep c news news' → o'.data = .cell (some v) → Q () { s with heap := h' })
    (hk : cs.kind = .function := by rfl) (hx : (envX cn cs L a cd cl).kindOf x = some .cell := by rfl) : wpAny M A (storeName (envX cn cs L a cd cl) x v) Q E s := by
  refine wpAny_storeName_cell hk hx hc ⟨o, (N _ hm).1, hd⟩ fun h' hv hs => ?_
  obtain ⟨o', ho', hd'⟩ := hv
  obtain ⟨news', a1, a2, a3, a4⟩ := chg F N hm hs ho'
  exact h h' news' o' a1 a2 a3 a4 hd'
/-- what lies below a mark stays -/
def Old (lo : Addr) (news news' : List (Addr × Obj)) : Prop := ∀ p ∈ news, p.1 < lo → p ∈ news'
theorem FRep.old {news news' : List (Addr × Obj)} {f : FL} {lim : Int} {lo : Addr} (H : FRep news f lim) (k : Old lo news news') (a : f.fd < lo) (b : f.fc < lo) : FRep news' f lim :=
  H.mono fun p hp h => k p hp (by rcases h with h | h <;> rw [h] <;> assumption)
structure All (w : World) (news : List (Addr × Obj)) (l : WL) (t : TL) (f : FL) (σ : St) (left : Int → Str) (b : Nat) (lim : Int) : Prop where
  W : WRep w news l σ
  T : TRep w news t σ left
  F : FRep news f lim
  good : Good σ left b
  sep : ∀ a ∈ l.all σ, a ∉ t.all σ
  fW : f.fd ∉ l.all σ ∧ f.fc ∉ l.all σ
  fT : f.fd ∉ t.all σ ∧ f.fc ∉ t.all σ
  hiW : ∀ a ∈ l.all σ, (212 : Nat) < a
  hiT : ∀ a ∈ t.all σ, (212 : Nat) < a
  hiF : (212 : Nat) < f.fd ∧ (212 : Nat) < f.fc
  t5 : TabRep news 205 "_law_told_right.<locals>.<lambda>"
  t12 : TabRep news 212 "_law_deed_right.<locals>.<lambda>"
theorem abc_name {r : Int} (h0 : 0 ≤ r) (h1 : r < 3) : IsName (Txt.item "ABC" r) := by
  obtain rfl | rfl | rfl : r = 0 ∨ r = 1 ∨ r = 2 := by omega
  · exact .inl (by decide)
  · exact .inr (.inl (by decide))
  · exact .inr (.inr (by decide))
theorem chan_three {r : Int} (h0 : 0 ≤ r) (h1 : r < 3) : 1 + r = 1 ∨ 1 + r = 2 ∨ 1 + r = 3 := by omega
theorem pick {prog : Program} {w : World} {A : Around} {E : Value → Shared → Prop} {s : Shared} {value slice : PySem.Expr} {a : Addr} {vs : List Value} {r : Int} {u : Tok} {Q : Value → Shared → Prop} (hl : s.heap.IsList a vs.toArray) (h0 : 0 ≤ r) (h1 : r < vs.length) (h2 : vs.length ≤ 100) (h : ∀ v ∈ vs, Q v s)
    (hs : subscripted slice false (.ref a) (.int r u) = operate [.ref a, .int r u] (getItem (.ref a) (.int r u)) := by with_unfolding_all rfl) (hg : ∀ r, letTemporaryGo value (.ref a) r = pure () := by intro _; with_unfolding_all rfl) :
    wpAny (model prog w) A (subscriptTail value slice (.ref a) (.int r u)) Q E s := by
  have hr : r.toNat < vs.length := by omega
  exact item_listL (x := vs[r.toNat]) hl h0 (by omega) (by rw [List.getElem?_eq_getElem hr]) (h _ (List.getElem_mem hr)) hs hg

def Uq (news : List (Addr × Obj)) : Prop := ∀ a o o', (a, o) ∈ news → (a, o') ∈ news → o = o'
theorem uq_of {h₀ h : Heap} {L : Addr} {news : List (Addr × Obj)} (N : News h₀ L h news) : Uq news := fun _ _ _ x y => same_obj N x y
/-! objects that are no codes -/
def NotF (o : Obj) : Prop := ∀ vs, o.data ≠ .fields vs
theorem dictOf_notF {prog : Program} {w : World} {K : Type} [DecidableEq K] {knd : KeyKind prog w K} {o : Obj} {kvs : List (K × Value)} (h : o.IsDictOf knd kvs) : NotF o := fun vs q => by
  obtain ⟨ep, ha⟩ := KdkAt.of h
  obtain ⟨_, es, _, hd, _⟩ := h
  rw [hd] at q; cases q
theorem WRep.kind {w : World} {news : List (Addr × Obj)} {l : WL} {σ : St} (H : WRep w news l σ) {a : Addr} (h : a ∈ l.all σ) : ∃ o, (a, o) ∈ news ∧ NotF o := by
  simp only [WL.all, List.mem_cons, List.mem_map] at h
  rcases h with rfl | rfl | rfl | rfl | rfl | ⟨x, hx, rfl⟩
  · exact ⟨_, H.inst, fun vs q => by cases q⟩
  · obtain ⟨es, n, a, _⟩ := H.dict; exact ⟨_, a, fun vs q => by cases q⟩
  · refine H.goFields fun o a r => ?_; exact ⟨_, a, dictOf_notF r⟩
  · refine H.goFiles fun o tk a r => ?_; exact ⟨_, a, dictOf_notF r⟩
  · refine H.goOpens fun o a r => ?_; exact ⟨_, a, dictOf_notF r⟩
  · obtain ⟨o, a, _, _, _, _, _, _, r⟩ := H.chans x hx; exact ⟨_, a, dictOf_notF r⟩
theorem signs_notF {o : Obj} {x : Str} (h : IsSigns o x) : NotF o := fun vs q => by
  obtain ⟨us, n, rfl, _⟩ := h
  cases q
theorem TRep.kind {w : World} {news : List (Addr × Obj)} {t : TL} {σ : St} {left : Int → Str} (H : TRep w news t σ left) {a : Addr} (h : a ∈ t.all σ) : ∃ o, (a, o) ∈ news ∧ NotF o := by
  rcases all_cases h with rfl | rfl | rfl | ⟨f, hf, rfl⟩ | ⟨f, hf, rfl⟩ | ⟨f, hf, rfl⟩
  · refine H.goDict fun o a r => ?_; exact ⟨_, a, dictOf_notF r⟩
  · refine H.goFiles fun o a r => ?_; exact ⟨_, a, dictOf_notF r⟩
  · refine H.goOpens fun o a r => ?_; exact ⟨_, a, dictOf_notF r⟩
  · refine H.goTexts f hf fun o a r => ?_; exact ⟨_, a, signs_notF r⟩
  · refine H.goSpots f hf fun o a _ _ _ r => ?_; exact ⟨_, a, dictOf_notF r⟩
  · refine H.goLefts f hf fun o a r => ?_; exact ⟨_, a, signs_notF r⟩
section
variable {news news' : List (Addr × Obj)} {P P' : Addr} {qual qual' : Str}
theorem fields_ne (N : Uq news) {p : Addr × Obj} (hp : p ∈ news) {vs : Array Value} (hv : p.2.data = .fields vs) {a : Addr} {o : Obj} (hm : (a, o) ∈ news) (hn : NotF o) : p.1 ≠ a := fun q => by
  have := N a p.2 _ (by rw [← q]; exact hp) hm
  rw [this] at hv
  exact hn vs hv
/-- a table of codes stays where only what is no code is turned -/
theorem TabRep.off (H : TabRep news P qual) (N : Uq news) (bad : Addr → Prop) (hb : ∀ a, bad a → ∃ o, (a, o) ∈ news ∧ NotF o) (k : ∀ p ∈ news, ¬ bad p.1 → p ∈ news') : TabRep news' P qual :=
  H.mono fun p hp vs hv => k p hp fun q => by
    obtain ⟨o, ho, hn⟩ := hb _ q
    exact fields_ne N hp hv ho hn rfl
/-- a table of codes stays where another table is turned -/
theorem TabRep.other (H : TabRep news P qual) (N : Uq news) (H' : TabRep news P' qual') (hne : P ≠ P') (k : ∀ p ∈ news, p.1 ≠ P' → p ∈ news') : TabRep news' P qual := by
  obtain ⟨l, a, b⟩ := H
  obtain ⟨l', a', _⟩ := H'
  refine ⟨l, k _ a hne, fun q hq => ?_⟩
  obtain ⟨n, oc, vs, t, c, d, e⟩ := b q hq
  refine ⟨n, oc, vs, t, k _ c fun z => ?_, d, e⟩
  have z' : q.2 = P' := z
  rw [z'] at c
  have := N _ _ _ c a'
  rw [this] at d
  have d' : vs = (tri l').toArray := by cases d; rfl
  rw [d'] at e
  cases l' with
  | nil => simp [tri] at e
  | cons r s => simp [tri, rawInt] at e
end
theorem notF_cell {n : List (Addr × Obj)} {c : Addr} {o : Obj} {v : Option Value} (hm : (c, o) ∈ n) (hd : o.data = .cell v) : ∃ o, (c, o) ∈ n ∧ NotF o := ⟨o, hm, fun vs q => by rw [hd] at q; cases q⟩
theorem FRep.kind {news : List (Addr × Obj)} {f : FL} {lim : Int} (F : FRep news f lim) : ∃ o, (f.fd, o) ∈ news ∧ NotF o := by
  obtain ⟨turn, tkf, vs, ns, n1, n2, w1, _⟩ := F.has
  exact ⟨_, w1, fun vs q => by cases q⟩


end
/-! D2 -/
section
open PyProof.V
/-! the ledger of the deed's frame -/
def fnScope (o : Obj) : Scope := match o.data with | .func fd => fd.scope | _ => default
def fnStmt (o : Obj) (i : Nat) : Stmt := match o.data with | .func fd => (match fd.body with | .stmts b => b.getD i default | _ => default) | _ => default
theorem lit_eq {α : Type} {x : Option α} {a b : α} (h : x = some a) (h' : x = some b) : a = b := Option.some.inj (h.symm.trans h')
def IsCell (c : Addr) (LI : Addr) : Prop := ∃ i, 1 ≤ i ∧ i ≤ 8 ∧ c = LI + i
structure DS (w : World) (news : List (Addr × Obj)) (LI : Addr) (l : WL) (t : TL) (f : FL) (σ τ : St) (left : Int → Str) (lim : Int) (cv : Nat → Option Value) (R : Addr × Obj → Prop) : Prop where
  W : WRep w news l σ
  T : TRep w news t τ left
  F : FRep news f lim
  sep : ∀ a ∈ l.all σ, a ∉ t.all τ
  fW : f.fd ∉ l.all σ ∧ f.fc ∉ l.all σ
  fT : f.fd ∉ t.all τ ∧ f.fc ∉ t.all τ
  hiW : ∀ a ∈ l.all σ, (212 : Nat) < a
  hiT : ∀ a ∈ t.all τ, (212 : Nat) < a
  hiF : (212 : Nat) < f.fd ∧ (212 : Nat) < f.fc
  t5 : TabRep news 205 "_law_told_right.<locals>.<lambda>"
  t12 : TabRep news 212 "_law_deed_right.<locals>.<lambda>"
  hi : (212 : Nat) < LI
  cW : ∀ a ∈ l.all σ, ¬ IsCell a LI
  cT : ∀ a ∈ t.all τ, ¬ IsCell a LI
  cF : ¬ IsCell f.fd LI ∧ ¬ IsCell f.fc LI
  cells : ∀ i, 1 ≤ i → i ≤ 8 → ∃ o, (LI + i, o) ∈ news ∧ o.data = .cell (cv i)
  uq : Uq news
  rest : ∀ p, R p → p ∈ news ∧ p.1 ∉ l.all σ ∧ p.1 ∉ t.all τ ∧ p.1 ≠ f.fd ∧ p.1 ≠ 205 ∧ p.1 ≠ 212 ∧ ¬ IsCell p.1 LI
theorem DS.goCells {w : World} {news : List (Addr × Obj)} {LI : Addr} {l : WL} {t : TL} {f : FL} {σ τ : St} {left : Int → Str} {lim : Int} {cv : Nat → Option Value} {R : Addr × Obj → Prop} (D : DS w news LI l t f σ τ left lim cv R) {G : Prop} {v1 v2 v3 v4 v5 v6 v7 v8 : Option Value} (h1 : cv 1 = v1) (h2 : cv 2 = v2) (h3 : cv 3 = v3) (h4 : cv 4 = v4) (h5 : cv 5 = v5) (h6 : cv 6 = v6) (h7 : cv 7 = v7) (h8 : cv 8 = v8) (k : ∀ o1 : Obj, (LI + 1, o1) ∈ news → o1.data = .cell v1 → ∀ o2 : Obj, (LI + 2, o2) ∈ news → o2.data = .cell v2 → ∀ o3 : Obj, (LI + 3, o3) ∈ news → o3.data = .cell v3 → ∀ o4 : Obj, (LI + 4, o4) ∈ news → o4.data = .cell v4 → ∀ o5 : Obj, (LI + 5, o5) ∈ news → o5.data = .cell v5 → ∀ o6 : Obj, (LI + 6, o6) ∈ news → o6.data = .cell v6 → ∀ o7 : Obj, (LI + 7, o7) ∈ news → o7.data = .cell v7 → ∀ o8 : Obj, (LI + 8, o8) ∈ news → o8.data = .cell v8 → G) : G := by
  subst h1 h2 h3 h4 h5 h6 h7 h8
  obtain ⟨o1, m1, d1⟩ := D.cells 1 (by decide) (by decide)
  obtain ⟨o2, m2, d2⟩ := D.cells 2 (by decide) (by decide)
  obtain ⟨o3, m3, d3⟩ := D.cells 3 (by decide) (by decide)
  obtain ⟨o4, m4, d4⟩ := D.cells 4 (by decide) (by decide)
  obtain ⟨o5, m5, d5⟩ := D.cells 5 (by decide) (by decide)
  obtain ⟨o6, m6, d6⟩ := D.cells 6 (by decide) (by decide)
  obtain ⟨o7, m7, d7⟩ := D.cells 7 (by decide) (by decide)
  obtain ⟨o8, m8, d8⟩ := D.cells 8 (by decide) (by decide)
  exact k o1 m1 d1 o2 m2 d2 o3 m3 d3 o4 m4 d4 o5 m5 d5 o6 m6 d6 o7 m7 d7 o8 m8 d8
section
variable {w : World} {news n' : List (Addr × Obj)} {LI L : Addr} {h₀ h' : Heap} {l l' : WL} {t t' : TL} {f : FL} {σ τ σ' τ' : St} {left left' : Int → Str} {lim : Int} {cv : Nat → Option Value} {R : Addr × Obj → Prop}
theorem cell_hi (hi : (212 : Nat) < LI) {c : Addr} (h : IsCell c LI) : (212 : Nat) < c := by
  obtain ⟨i, _, _, rfl⟩ := h
  exact Nat.lt_of_lt_of_le hi (Nat.le_add_right LI i)
theorem cell_eq {c : Addr} {i : Nat} (h1 : 1 ≤ i) (h2 : i ≤ 8) (e : c = LI + i) : IsCell c LI := ⟨i, h1, h2, e⟩
theorem DS.cell_no (D : DS w news LI l t f σ τ left lim cv R) {c : Addr} (h : IsCell c LI) : c ∉ l.all σ ∧ c ∉ t.all τ ∧ c ≠ f.fd ∧ c ≠ f.fc ∧ (212 : Nat) < c :=
  ⟨fun q => D.cW _ q h, fun q => D.cT _ q h, fun q => D.cF.1 (q ▸ h), fun q => D.cF.2 (q ▸ h), cell_hi D.hi h⟩
theorem DS.cell_kind (D : DS w news LI l t f σ τ left lim cv R) {c : Addr} (h : IsCell c LI) : ∃ o, (c, o) ∈ news ∧ NotF o := by
  obtain ⟨i, h1, h2, rfl⟩ := h
  obtain ⟨o, m, d⟩ := D.cells i h1 h2
  exact notF_cell m d
/-- nothing turned -/
theorem DS.up (D : DS w news LI l t f σ τ left lim cv R) (N : News h₀ L h' n') (k : ∀ p ∈ news, p ∈ n') : DS w n' LI l t f σ τ left lim cv R :=
  { D with uq := uq_of N, W := D.W.mono k, T := D.T.up k, F := D.F.mono fun p hp _ => k p hp, t5 := D.t5.mono fun p hp _ _ => k p hp, t12 := D.t12.mono fun p hp _ _ => k p hp,
           cells := fun i h1 h2 => let ⟨o, m, d⟩ := D.cells i h1 h2; ⟨o, k _ m, d⟩
           rest := fun p hp => ⟨k p (D.rest p hp).1, (D.rest p hp).2⟩ }
/-- the feed turned -/
theorem DS.next (D : DS w news LI l t f σ τ left lim cv R) (N : News h₀ L h' n') {lim' : Int} (F : FRep n' f lim') (k : ∀ p ∈ news, p.1 ≠ f.fd → p ∈ n') : DS w n' LI l t f σ τ left lim' cv R :=
  { D with uq := uq_of N, W := D.W.on fun p hp ha => k p hp fun q => D.fW.1 (q ▸ ha), T := D.T.mono fun p hp ha => k p hp fun q => D.fT.1 (q ▸ ha), F := F,
           t5 := D.t5.off D.uq (· = f.fd) (fun a q => q ▸ D.F.kind) k, t12 := D.t12.off D.uq (· = f.fd) (fun a q => q ▸ D.F.kind) k,
           cells := fun i h1 h2 => let ⟨o, m, d⟩ := D.cells i h1 h2; ⟨o, k _ m (D.cell_no (cell_eq h1 h2 rfl)).2.2.1, d⟩
           rest := fun p hp => have z := D.rest p hp; ⟨k p z.1 z.2.2.2.1, z.2⟩ }
/-- a cell turned -/
theorem DS.store (D : DS w news LI l t f σ τ left lim cv R) (N : News h₀ L h' n') {i : Nat} (h1 : 1 ≤ i) (h2 : i ≤ 8) {v : Value} {o : Obj} (k : Keep (LI + i) news n') (hm : (LI + i, o) ∈ n') (hd : o.data = .cell (some v)) :
    DS w n' LI l t f σ τ left lim (fun j => if j = i then some v else cv j) R := by
  have C := cell_eq (LI := LI) h1 h2 rfl
  have z := D.cell_no C
  have kd : ∀ a, a = LI + i → ∃ o, (a, o) ∈ news ∧ NotF o := fun a q => q ▸ D.cell_kind C
  exact { D with uq := uq_of N, W := D.W.on fun p hp ha => k p hp fun q => z.1 (q ▸ ha), T := D.T.mono fun p hp ha => k p hp fun q => z.2.1 (q ▸ ha),
                 F := D.F.mono fun p hp h => k p hp (h.elim (fun q => by rw [q]; exact z.2.2.1.symm) fun q => by rw [q]; exact z.2.2.2.1.symm),
                 t5 := D.t5.off D.uq (· = LI + i) kd k, t12 := D.t12.off D.uq (· = LI + i) kd k,
                 cells := fun j a b => by
                   by_cases q : j = i
                   · subst q; exact ⟨o, hm, by rw [if_pos rfl]; exact hd⟩
                   · obtain ⟨o, m, d⟩ := D.cells j a b
                     exact ⟨o, k _ m fun e => q (Nat.add_left_cancel e), by rw [if_neg q]; exact d⟩
                 rest := fun p hp => have z := D.rest p hp; ⟨k p z.1 fun q => z.2.2.2.2.2.2 (cell_eq h1 h2 q), z.2⟩ }
/-- the deed's table turned -/
theorem DS.lam (D : DS w news LI l t f σ τ left lim cv R) (N : News h₀ L h' n') (T : TabRep n' 212 "_law_deed_right.<locals>.<lambda>") (k : ∀ p ∈ news, p.1 ≠ 212 → p ∈ n') : DS w n' LI l t f σ τ left lim cv R :=
  { D with uq := uq_of N, W := D.W.on fun p hp ha => k p hp (Nat.ne_of_gt (D.hiW _ ha)), T := D.T.mono fun p hp ha => k p hp (Nat.ne_of_gt (D.hiT _ ha)),
           F := D.F.mono fun p hp h => k p hp (Nat.ne_of_gt (h.elim (fun q => by rw [q]; exact D.hiF.1) fun q => by rw [q]; exact D.hiF.2)),
           t5 := D.t5.other D.uq D.t12 (by decide) k, t12 := T,
           cells := fun i h1 h2 => let ⟨o, m, d⟩ := D.cells i h1 h2; ⟨o, k _ m (Nat.ne_of_gt (D.cell_no (cell_eq h1 h2 rfl)).2.2.2.2), d⟩
           rest := fun p hp => have z := D.rest p hp; ⟨k p z.1 z.2.2.2.2.2.1, z.2⟩ }
/-- the tale's table turned -/
theorem DS.told (D : DS w news LI l t f σ τ left lim cv R) (N : News h₀ L h' n') (T : TabRep n' 205 "_law_told_right.<locals>.<lambda>") (k : ∀ p ∈ news, p.1 ≠ 205 → p ∈ n') : DS w n' LI l t f σ τ left lim cv R :=
  have z : ∀ a : Nat, 212 < a → a ≠ 205 := fun a h => Nat.ne_of_gt (Nat.lt_trans (by decide) h)
  { D with uq := uq_of N, W := D.W.on fun p hp ha => k p hp (z _ (D.hiW _ ha)), T := D.T.mono fun p hp ha => k p hp (z _ (D.hiT _ ha)),
           F := D.F.mono fun p hp h => k p hp (z _ (h.elim (fun q => by rw [q]; exact D.hiF.1) fun q => by rw [q]; exact D.hiF.2)),
           t5 := T, t12 := D.t12.other D.uq D.t5 (by decide) k,
           cells := fun i h1 h2 => let ⟨o, m, d⟩ := D.cells i h1 h2; ⟨o, k _ m (z _ (D.cell_no (cell_eq h1 h2 rfl)).2.2.2.2), d⟩
           rest := fun p hp => have z := D.rest p hp; ⟨k p z.1 z.2.2.2.2.1, z.2⟩ }
theorem DS.new (D : DS w news LI l t f σ τ left lim cv R) {a : Addr} (h : ∀ p ∈ news, p.1 < a) : a ∉ l.all σ ∧ a ∉ t.all τ ∧ f.fd ≠ a ∧ f.fc ≠ a ∧ (212 : Nat) < a ∧ ¬ IsCell a LI ∧ ∀ p, R p → p.1 ≠ a := by
  have no : ∀ o, (a, o) ∉ news := fun o q => absurd (h _ q) (Nat.lt_irrefl a)
  obtain ⟨turn, tk, vs, ns, n1, n2, m1, m2, _⟩ := D.F.has
  refine ⟨fun q => ?_, fun q => ?_, fun q => no _ (q ▸ m1), fun q => no _ (q ▸ m2), ?_, fun q => ?_, fun p hp q => ?_⟩
  · obtain ⟨o, m⟩ := D.W.mem_all q; exact no o m
  · obtain ⟨o, m⟩ := D.T.mem_all q; exact no o m
  · obtain ⟨tl, m, _⟩ := D.t12; exact h _ m
  · obtain ⟨o, m, _⟩ := D.cell_kind q; exact no o m
  · exact no p.2 (q ▸ (D.rest p hp).1)
/-- the world turned -/
theorem DS.world (D : DS w news LI l t f σ τ left lim cv R) (N : News h₀ L h' n') (W : WRep w n' l' σ') (s : ∀ a ∈ l'.all σ', a ∈ l.all σ ∨ ∀ p ∈ news, p.1 < a) (k : ∀ p ∈ news, p.1 ∉ l.all σ → p ∈ n') : DS w n' LI l' t f σ' τ left lim cv R := by
  have z : ∀ a ∈ l'.all σ', a ∉ t.all τ ∧ f.fd ≠ a ∧ f.fc ≠ a ∧ (212 : Nat) < a ∧ ¬ IsCell a LI ∧ ∀ p, R p → p.1 ≠ a := fun a ha => by
    rcases s a ha with q | q
    · exact ⟨D.sep a q, fun e => D.fW.1 (e ▸ q), fun e => D.fW.2 (e ▸ q), D.hiW a q, D.cW a q, fun p hp e => (D.rest p hp).2.1 (e ▸ q)⟩
    · exact (D.new q).2
  exact { D with uq := uq_of N, W := W, T := D.T.mono fun p hp ha => k p hp fun q => D.sep _ q ha, F := D.F.mono fun p hp h => k p hp (h.elim (fun q => by rw [q]; exact D.fW.1) fun q => by rw [q]; exact D.fW.2),
                 sep := fun a ha => (z a ha).1, fW := ⟨fun q => (z _ q).2.1 rfl, fun q => (z _ q).2.2.1 rfl⟩, hiW := fun a ha => (z a ha).2.2.2.1, cW := fun a ha => (z a ha).2.2.2.2.1,
                 t5 := D.t5.off D.uq (· ∈ l.all σ) (fun a q => D.W.kind q) k, t12 := D.t12.off D.uq (· ∈ l.all σ) (fun a q => D.W.kind q) k,
                 cells := fun i h1 h2 => let ⟨o, m, d⟩ := D.cells i h1 h2; ⟨o, k _ m (D.cell_no (cell_eq h1 h2 rfl)).1, d⟩
                 rest := fun p hp => have y := D.rest p hp; ⟨k p y.1 y.2.1, fun q => (z _ q).2.2.2.2.2 p hp rfl, y.2.2⟩ }
/-- the twin turned -/
theorem DS.twin (D : DS w news LI l t f σ τ left lim cv R) (N : News h₀ L h' n') (T : TRep w n' t' τ' left') (s : ∀ a ∈ t'.all τ', a ∈ t.all τ ∨ ∀ p ∈ news, p.1 < a) (k : ∀ p ∈ news, p.1 ∉ t.all τ → p ∈ n') : DS w n' LI l t' f σ τ' left' lim cv R := by
  have z : ∀ a ∈ t'.all τ', a ∉ l.all σ ∧ f.fd ≠ a ∧ f.fc ≠ a ∧ (212 : Nat) < a ∧ ¬ IsCell a LI ∧ ∀ p, R p → p.1 ≠ a := fun a ha => by
    rcases s a ha with q | q
    · exact ⟨fun e => D.sep a e q, fun e => D.fT.1 (e ▸ q), fun e => D.fT.2 (e ▸ q), D.hiT a q, D.cT a q, fun p hp e => (D.rest p hp).2.2.1 (e ▸ q)⟩
    · exact ⟨(D.new q).1, (D.new q).2.2⟩
  exact { D with uq := uq_of N, T := T, W := D.W.on fun p hp ha => k p hp fun q => D.sep _ ha q, F := D.F.mono fun p hp h => k p hp (h.elim (fun q => by rw [q]; exact D.fT.1) fun q => by rw [q]; exact D.fT.2),
                 sep := fun a ha q => (z a q).1 ha, fT := ⟨fun q => (z _ q).2.1 rfl, fun q => (z _ q).2.2.1 rfl⟩, hiT := fun a ha => (z a ha).2.2.2.1, cT := fun a ha => (z a ha).2.2.2.2.1,
                 t5 := D.t5.off D.uq (· ∈ t.all τ) (fun a q => D.T.kind q) k, t12 := D.t12.off D.uq (· ∈ t.all τ) (fun a q => D.T.kind q) k,
                 cells := fun i h1 h2 => let ⟨o, m, d⟩ := D.cells i h1 h2; ⟨o, k _ m (D.cell_no (cell_eq h1 h2 rfl)).2.1, d⟩
                 rest := fun p hp => have y := D.rest p hp; ⟨k p y.1 y.2.2.1, y.2.1, fun q => (z _ q).2.2.2.2.2 p hp rfl, y.2.2.2⟩ }
end
theorem DS.put {w : World} {news n' : List (Addr × Obj)} {LI L : Addr} {h₀ h' : Heap} {l : WL} {t : TL} {f : FL} {σ τ : St} {left : Int → Str} {lim : Int} {cv : Nat → Option Value} {R : Addr × Obj → Prop} (D : DS w news LI l t f σ τ left lim cv R) (N : News h₀ L h' n') {i : Nat} (hi : i = 4 ∨ i = 5 ∨ i = 7 ∨ i = 8) {v : Value} {o : Obj} (k : Keep (LI + i) news n') (hm : (LI + i, o) ∈ n') (hd : o.data = .cell (some v)) {a1 a2 a3 a6 : Option Value} (c1 : cv 1 = a1) (c2 : cv 2 = a2) (c3 : cv 3 = a3) (c6 : cv 6 = a6) :
    ∃ cv', cv' 1 = a1 ∧ cv' 2 = a2 ∧ cv' 3 = a3 ∧ cv' 6 = a6 ∧ cv' i = some v ∧ DS w n' LI l t f σ τ left lim cv' R := by
  have D' := D.store N (by omega) (by omega) k hm hd
  refine ⟨_, ?_, ?_, ?_, ?_, if_pos rfl, D'⟩
  · rw [if_neg (by omega)]; exact c1
  · rw [if_neg (by omega)]; exact c2
  · rw [if_neg (by omega)]; exact c3
  · rw [if_neg (by omega)]; exact c6
def SameV (a b : Value) : Prop := (a = .none ∧ b = .none) ∨ ∃ x t1 t2, a = .str x t1 ∧ b = .str x t2
/-- behind the deed's if -/
def Mid (w : World) (fs : List Addr) (A : Around) (base : Heap) (outer : List Env) (g : Heap) (LI : Addr) (l : WL) (t : TL) (f : FL) (b : Nat) (lim : Int) (k : Int) (R : Addr × Obj → Prop) (s : Shared) (fl : Flow) (s' : Shared) : Prop :=
  fl = .next ∧ ∃ h' tk' g' n' m' l' t' σ' left' cv' hv dv tr, s' = { s with heap := h', toks := tk' } ∧ KtsTurn fs g g' ∧ Fr g' LI h' m' ∧ News g' LI h' n' ∧ Below A base outer g' ∧ DS w n' LI l' t' f σ' σ' left' lim cv' R ∧ Good σ' left' b ∧
    l'.wi = l.wi ∧ t'.td = t.td ∧ m' "heard" = some hv ∧ m' "due" = some dv ∧ SameV hv dv ∧ cv' 1 = some (.ref l'.wi) ∧ cv' 2 = some (.ref t'.td) ∧ cv' 3 = some (.int k tr)
theorem Mid.intro {w : World} {fs : List Addr} {A : Around} {base : Heap} {outer : List Env} {g : Heap} {LI : Addr} {l : WL} {t : TL} {f : FL} {b : Nat} {lim : Int} {k : Int} {R : Addr × Obj → Prop} {s s' : Shared}
    {h' : Heap} {tk' : Nat} {g' : Heap} {n' : List (Addr × Obj)} {m' : Str → Option Value} {l' : WL} {t' : TL} {σ' : St} {left' : Int → Str} {cv' : Nat → Option Value} {hv dv : Value} {tr : Tok}
    (e : s' = { s with heap := h', toks := tk' }) (T : KtsTurn fs g g') (F : Fr g' LI h' m') (N : News g' LI h' n') (B : Below A base outer g') (D : DS w n' LI l' t' f σ' σ' left' lim cv' R) (G : Good σ' left' b)
    (a : l'.wi = l.wi) (c : t'.td = t.td) (mh : m' "heard" = some hv) (md : m' "due" = some dv) (sv : SameV hv dv) (c1 : cv' 1 = some (.ref l'.wi)) (c2 : cv' 2 = some (.ref t'.td)) (c3 : cv' 3 = some (.int k tr)) : Mid w fs A base outer g LI l t f b lim k R s .next s' :=
  ⟨rfl, _, _, _, _, _, _, _, _, _, _, _, _, _, e, T, F, N, B, D, G, a, c, mh, md, sv, c1, c2, c3⟩
theorem all_write {l : WL} {σ : St} {k : Int} {c c' : Ch} {nm x : Str} (hv : vat σ.chans k = some c) {a : Addr} (h : a ∈ l.all { files := sset σ.files nm x, chans := sset σ.chans k c' }) : a ∈ l.all σ := by
  have e := all_sset (l := l) (c := c') (vat_some_key hv)
  rw [← e]; exact h


end
/-! D3 -/
section
open PyProof.V
theorem HRes.ds {w : World} {news n' : List (Addr × Obj)} {LI L : Addr} {h₀ h' : Heap} {l : WL} {t : TL} {f : FL} {σ : St} {left : Int → Str} {lim : Int} {cv : Nat → Option Value} {R : Addr × Obj → Prop} {PW : Value → St → Prop} {X : Str → Prop} {v : Value}
    (h : HRes (fun v n' => ∃ σ' l', DS w n' LI l' t f σ' σ left lim cv R ∧ l'.wi = l.wi ∧ PW v σ') X news v n') (N : News h₀ L h' n') (D : DS w news LI l t f σ σ left lim cv R) :
    ∃ σ' l', DS w n' LI l' t f σ' σ left lim cv R ∧ l'.wi = l.wi ∧ (PW v σ' ∨ (σ' = σ ∧ ∃ code, X code ∧ isS v ("refused " ++ code))) := by
  rcases h with ⟨σ', l', D', e, p⟩ | ⟨code, tr, hc, rfl, up⟩
  · exact ⟨σ', l', D', e, .inl p⟩
  · exact ⟨σ, l, D.up N up, rfl, .inr ⟨rfl, code, hc, tr, rfl⟩⟩
theorem same_none {a b : Value} (h : a = .none) (h' : b = .none) : SameV a b := .inl ⟨h, h'⟩
theorem same_str {a b : Value} {x : Str} (h : isS a x) (h' : isS b x) : SameV a b := let ⟨t1, e⟩ := h; let ⟨t2, e'⟩ := h'; .inr ⟨x, t1, t2, e, e'⟩
def PWput (σ : St) (k : Int) (y : Str) (v : Value) (σ' : St) : Prop :=
  v = .none ∧ ∃ c x, vat σ.chans k = some c ∧ c.mode ≠ "I" ∧ vat σ.files c.name = some x ∧ σ' = { files := sset σ.files c.name (x ++ y), chans := sset σ.chans k { c with at_ := c.at_ + y.length } }
section
variable {σ σ' τ : St} {left left' : Int → Str} {b : Nat} {k : Int} {y : Str} {v dv : Value}
theorem some_eq {α : Type} {o : Option α} {a b : α} (h : o = some a) (h' : o = some b) : b = a := Option.some.inj (h'.symm.trans h)
theorem none_some {α : Type} {o : Option α} {a : α} {P : Prop} (h : o = none) (h' : o = some a) : P := by rw [h] at h'; cases h'
theorem fin_put (G : Good σ left b) (hb : b + 10 ≤ 1000) (hy : y.length ≤ 10) (hya : ∀ z ∈ y.cps.toList, z < 128) (hw : PWput σ k y v σ' ∨ (σ' = σ ∧ ∃ code, wrX σ k code ∧ isS v ("refused " ++ code))) (ht : PutP σ k y left dv τ left') : σ' = τ ∧ Good τ left' (b + 10) ∧ SameV v dv := by
  obtain ⟨rfl, ht⟩ := ht
  have G' := G.more (Nat.le_add_right b 10) hb
  rcases hw with ⟨hv, c, x, h1, h2, h3, rfl⟩ | ⟨rfl, code, hc, hv⟩
  · rcases ht with ⟨a1, _⟩ | ⟨c', a1, a2, _⟩ | ⟨c', x', a1, _, a3, e, rfl⟩
    · exact none_some a1 h1
    · rw [some_eq h1 a1] at a2; exact absurd a2 h2
    · obtain rfl := some_eq h1 a1
      obtain rfl := some_eq h3 a3
      exact ⟨rfl, G.put h1 h2 h3 hy hya hb, same_none hv e⟩
  · rcases hc with ⟨b1, rfl⟩ | ⟨c, b1, b2, rfl⟩
    · rcases ht with ⟨_, e, rfl⟩ | ⟨c', a1, _⟩ | ⟨c', x', a1, _⟩
      · exact ⟨rfl, G', same_str (refBN ▸ hv) e⟩
      · exact none_some b1 a1
      · exact none_some b1 a1
    · rcases ht with ⟨a1, _⟩ | ⟨c', a1, a2, e, rfl⟩ | ⟨c', x', a1, a2, _⟩
      · exact none_some a1 b1
      · exact ⟨rfl, G', same_str (refBM ▸ hv) e⟩
      · rw [some_eq b1 a1] at a2; exact absurd b2 a2
end
theorem str_ne {a b c : Str} (h : a = b) (h' : (b == c) = false) : a ≠ c := by subst h; simpa using h'
section
variable {σ σ' τ : St} {left left' : Int → Str} {b : Nat} {k : Int} {mode nm : Str} {v dv : Value}
theorem open_all {l : WL} {a b : Addr} (hv : vat σ.chans k = none) (hO : OpenW σ k mode nm σ') (h : a ∈ WL.all { l with ch := fun i => if i = k then b else l.ch i } σ') : a ∈ l.all σ ∨ a = b := by
  obtain ⟨c, hc⟩ : ∃ c, σ'.chans = sset σ.chans k c := by
    rcases hO with ⟨_, _, _, rfl⟩ | ⟨_, _, _, rfl⟩ | ⟨_, rfl⟩ | ⟨_, _, rfl⟩ <;> exact ⟨_, rfl⟩
  simp only [WL.all, hc, List.mem_cons, List.mem_map] at h ⊢
  rcases h with h | h | h | h | h | ⟨x, hx, h⟩
  · exact .inl (.inl h)
  · exact .inl (.inr (.inl h))
  · exact .inl (.inr (.inr (.inl h)))
  · exact .inl (.inr (.inr (.inr (.inl h))))
  · exact .inl (.inr (.inr (.inr (.inr (.inl h)))))
  · rcases mem_sset hx with rfl | ⟨hx, hn⟩
    · exact .inr (by rw [← h, if_pos rfl])
    · exact .inl (.inr (.inr (.inr (.inr (.inr ⟨x, hx, by rw [← h, if_neg hn]⟩)))))
def PWopn (σ : St) (k : Int) (mode nm : Str) (v : Value) (σ' : St) : Prop := v = .none ∧ vat σ.chans k = none ∧ elseW σ mode nm = false ∧ OpenW σ k mode nm σ'
theorem openW_one (h : OpenW σ k mode nm σ') (h' : OpenW σ k mode nm τ) : σ' = τ := by
  have ne : ("I" : Str) ≠ "A" ∧ ("I" : Str) ≠ "O" ∧ ("A" : Str) ≠ "O" := by decide
  rcases h with ⟨rfl, x, hx, rfl⟩ | ⟨rfl, x, hx, rfl⟩ | ⟨rfl, rfl⟩ | ⟨rfl, hx, rfl⟩ <;> rcases h' with ⟨e, y, hy, rfl⟩ | ⟨e, y, hy, rfl⟩ | ⟨e, rfl⟩ | ⟨e, hy, rfl⟩
  · rfl
  · exact absurd e ne.1
  · exact absurd e ne.2.1
  · exact absurd e ne.1
  · exact absurd e.symm ne.1
  · rw [some_eq hx hy]
  · exact absurd e ne.2.2
  · exact none_some hy hx
  · exact absurd e.symm ne.2.1
  · exact absurd e.symm ne.2.2
  · rfl
  · exact absurd e.symm ne.2.2
  · exact absurd e.symm ne.1
  · exact none_some hx hy
  · exact absurd e ne.2.2
  · rfl
theorem else_no (G : Good σ left b) (hm : mode = "O" ∨ mode = "I" ∨ mode = "A") (h : elseW σ mode nm = false) : ∀ c ∈ σ.chans, c.2.name = nm → c.2.mode = "I" ∧ mode = "I" := fun c hc e => by
  have := List.any_eq_false.mp h c hc
  rcases G.wf.mode c hc with q | q | q <;> rcases hm with p | p | p <;> rw [q, p] at this ⊢ <;> first | exact ⟨rfl, rfl⟩ | (rw [e] at this; exact absurd (by simp) this) 
theorem fin_opn (G : Good σ left b) (hb : b + 10 ≤ 1000) (hk : k = 1 ∨ k = 2 ∨ k = 3) (hn : IsName nm) (hm : mode = "O" ∨ mode = "I" ∨ mode = "A") (hw : PWopn σ k mode nm v σ' ∨ (σ' = σ ∧ ∃ code, opX σ k mode nm code ∧ isS v ("refused " ++ code))) (ht : OpnP σ k mode nm left dv τ left') : σ' = τ ∧ Good τ left' (b + 10) ∧ SameV v dv := by
  have G' := G.more (Nat.le_add_right b 10) hb
  have eA : ("refused " : Str) ++ "AO" = "refused AO" := by decide
  have eF : ("refused " : Str) ++ "FF" = "refused FF" := by decide
  rcases hw with ⟨hv, h1, h2, hO⟩ | ⟨rfl, code, hc, hv⟩
  · rcases ht with ⟨⟨c, a1⟩, _⟩ | ⟨_, a1, _⟩ | ⟨_, _, a1, a2, _⟩ | ⟨_, _, hO', e, l1, l2⟩
    · exact none_some h1 a1
    · rw [h2] at a1; cases a1
    · have ne : ("I" : Str) ≠ "A" ∧ ("I" : Str) ≠ "O" := by decide
      rcases hO with ⟨_, x, hx, _⟩ | ⟨q, _⟩ | ⟨q, _⟩ | ⟨q, _⟩
      · exact none_some a2 hx
      · exact absurd (a1.symm.trans q) ne.1
      · exact absurd (a1.symm.trans q) ne.2
      · exact absurd (a1.symm.trans q) ne.1
    · obtain rfl := openW_one hO hO'
      refine ⟨rfl, ?_, same_none hv e⟩
      have hex := else_no G hm h2
      rcases hO with ⟨q, x, hx, rfl⟩ | ⟨q, x, hx, rfl⟩ | ⟨q, rfl⟩ | ⟨q, hx, rfl⟩
      · refine G'.addChan hk h1 hn (.inl rfl) hx (Nat.zero_le _) (fun c hc e => ⟨(hex c hc e).1, rfl⟩) (fun _ => ?_) l1
        rw [l2 q x hx, List.drop_zero, Sg_list]
      · exact G'.addChan hk h1 hn (.inr (.inr rfl)) hx (Nat.le_refl _) (fun c hc e => absurd (hex c hc e).2 (by rw [q]; decide)) (fun q => absurd q (by decide)) l1
      · have hno : ∀ c ∈ σ.chans, c.2.name ≠ nm := fun c hc e => absurd (hex c hc e).2 (by rw [q]; decide)
        exact (G'.blank (.inl hn) hno).addChan hk h1 hn (.inr (.inl rfl)) (vat_sset_same G.wf.names) (Nat.zero_le _) (fun c hc e => absurd e (hno c hc)) (fun q => absurd q (by decide)) l1
      · have hno : ∀ c ∈ σ.chans, c.2.name ≠ nm := fun c hc e => absurd (hex c hc e).2 (by rw [q]; decide)
        exact (G'.blank (.inl hn) hno).addChan hk h1 hn (.inr (.inr rfl)) (vat_sset_same G.wf.names) (Nat.le_refl _) (fun c hc e => absurd e (hno c hc)) (fun q => absurd q (by decide)) l1
  · rcases hc with ⟨⟨c, b1⟩, rfl⟩ | ⟨b1, b2, rfl⟩ | ⟨b1, b2, b3, b4, rfl⟩
    · rcases ht with ⟨_, e, rfl, rfl⟩ | ⟨a1, _⟩ | ⟨a1, _⟩ | ⟨a1, _⟩
      · exact ⟨rfl, G', same_str (eA ▸ hv) e⟩
      all_goals exact none_some a1 b1
    · rcases ht with ⟨⟨c, a1⟩, _⟩ | ⟨_, _, e, rfl, rfl⟩ | ⟨_, a1, _⟩ | ⟨_, a1, _⟩
      · exact none_some b1 a1
      · exact ⟨rfl, G', same_str (eA ▸ hv) e⟩
      all_goals (rw [b2] at a1; cases a1)
    · rcases ht with ⟨⟨c, a1⟩, _⟩ | ⟨_, a1, _⟩ | ⟨_, _, _, _, e, rfl, rfl⟩ | ⟨_, _, hO, _⟩
      · exact none_some b1 a1
      · rw [b2] at a1; cases a1
      · exact ⟨rfl, G', same_str (eF ▸ hv) e⟩
      · have ne : ("I" : Str) ≠ "A" ∧ ("I" : Str) ≠ "O" := by decide
        rcases hO with ⟨_, x, hx, _⟩ | ⟨q, _⟩ | ⟨q, _⟩ | ⟨q, _⟩
        · exact none_some b4 hx
        · exact absurd (b3.symm.trans q) ne.1
        · exact absurd (b3.symm.trans q) ne.2
        · exact absurd (b3.symm.trans q) ne.1
def PWgot (σ : St) (k : Int) (E : List Nat → Prop) (V : List Nat → Str → Nat → Prop) (v : Value) (σ' : St) : Prop :=
  ∃ c x u n, vat σ.chans k = some c ∧ c.mode = "I" ∧ vat σ.files c.name = some x ∧ ¬ E (leftOf x c) ∧ V (leftOf x c) u n ∧ isS v u ∧ σ' = { σ with chans := sset σ.chans k { c with at_ := c.at_ + n } }
theorem fin_got {E : List Nat → Prop} {V : List Nat → Str → Nat → Prop} (hV : ∀ l v n v' n', V l v n → V l v' n' → v = v' ∧ n = n') (hn : ∀ l v n, ¬ E l → V l v n → n ≤ l.length) (G : Good σ left b) (hb : b + 10 ≤ 1000) (hw : PWgot σ k E V v σ' ∨ (σ' = σ ∧ ∃ code, rdX σ k E code ∧ isS v ("refused " ++ code)))
    (ht : GotP σ k left E V dv τ left') : σ' = τ ∧ Good τ left' (b + 10) ∧ SameV v dv := by
  have G' := G.more (Nat.le_add_right b 10) hb
  have eE : ("refused " : Str) ++ "EF" = "refused EF" := by decide
  rcases hw with ⟨c, x, u, n, h1, h2, h3, h4, h5, hv, rfl⟩ | ⟨rfl, code, hc, hv⟩
  · rcases ht with ⟨a1, _⟩ | ⟨c', a1, a2, _⟩ | ⟨c', x', a1, _, a3, a4, _⟩ | ⟨c', x', u', n', a1, _, a3, _, a5, e, rfl, rfl⟩
    · exact none_some a1 h1
    · rw [some_eq h1 a1] at a2; exact absurd h2 a2
    · obtain rfl := some_eq h1 a1
      obtain rfl := some_eq h3 a3
      exact absurd a4 h4
    · obtain rfl := some_eq h1 a1
      obtain rfl := some_eq h3 a3
      obtain ⟨rfl, rfl⟩ := hV _ _ _ _ _ h5 a5
      refine ⟨rfl, ?_, same_str hv e⟩
      have hl := hn _ _ _ h4 h5
      obtain ⟨y, hy, hle⟩ := G.wf.has _ (vat_mem h1)
      obtain rfl := some_eq h3 hy
      have hle := hle h2
      have hlen : (leftOf y c').length = y.length - c'.at_ := by rw [leftOf, List.length_drop, ← str_len]
      have hR := G'.read h1 h3 (n := c'.at_ + n) (by dsimp only at hle; omega)
      rw [show (leftOf y c').drop n = y.cps.toList.drop (c'.at_ + n) from by rw [leftOf, List.drop_drop]]
      exact hR
  · rcases hc with ⟨b1, rfl⟩ | ⟨c, b1, b2, rfl⟩ | ⟨c, x, b1, b2, b3, b4, rfl⟩
    · rcases ht with ⟨_, e, rfl, rfl⟩ | ⟨c', a1, _⟩ | ⟨c', x', a1, _⟩ | ⟨c', x', u', n', a1, _⟩
      · exact ⟨rfl, G', same_str (refBN ▸ hv) e⟩
      all_goals exact none_some b1 a1
    · rcases ht with ⟨a1, _⟩ | ⟨c', a1, a2, e, rfl, rfl⟩ | ⟨c', x', a1, a2, _⟩ | ⟨c', x', u', n', a1, a2, _⟩
      · exact none_some a1 b1
      · exact ⟨rfl, G', same_str (refBM ▸ hv) e⟩
      all_goals (rw [some_eq b1 a1] at a2; exact absurd a2 b2)
    · rcases ht with ⟨a1, _⟩ | ⟨c', a1, a2, _⟩ | ⟨c', x', a1, a2, a3, _, e, rfl, rfl⟩ | ⟨c', x', u', n', a1, a2, a3, a4, _⟩
      · exact none_some a1 b1
      · rw [some_eq b1 a1] at a2; exact absurd b2 a2
      · exact ⟨rfl, G', same_str (eE ▸ hv) e⟩
      · obtain rfl := some_eq b1 a1
        obtain rfl := some_eq b3 a3
        exact absurd b4 a4
theorem Sg_inj {p q : List Nat} (h : Sg p = Sg q) : p = q := by
  have := congrArg (fun x : Str => x.cps.toList) h
  simpa using this
theorem rowR_one (l : List Nat) (v : Str) (n : Nat) (v' : Str) (n' : Nat) (h : RowR l v n) (h' : RowR l v' n') : v = v' ∧ n = n' := by
  have e : v = v' := h.row.1.symm.trans h'.row.1
  refine ⟨e, ?_⟩
  rcases h with ⟨p, r, rfl, hp, rfl, rfl⟩ | ⟨hp, rfl, rfl⟩
  · rcases h' with ⟨q, s, _, _, rfl, rfl⟩ | ⟨hq, _, _⟩
    · rw [Sg_inj e]
    · exact absurd rfl (hq 10 (by simp))
  · rcases h' with ⟨q, s, rfl, _, rfl, rfl⟩ | ⟨_, _, rfl⟩
    · exact absurd rfl (hp 10 (by simp))
    · rfl
theorem rowR_len (l : List Nat) (v : Str) (n : Nat) (_ : ¬ l = []) (h : RowR l v n) : n ≤ l.length := by
  rcases h with ⟨p, r, rfl, _, _, rfl⟩ | ⟨_, _, rfl⟩
  · rw [List.length_append, List.length_cons]; omega
  · exact Nat.le_refl _
def PWnam (σ : St) (nm : Str) (new : Option Str) (v : Value) (σ' : St) : Prop :=
  v = .none ∧ ∃ x, vat σ.files nm = some x ∧ named σ nm = false ∧ ((new = none ∧ σ' = { σ with files := sdel σ.files nm }) ∨ ∃ nw, new = some nw ∧ vat σ.files nw = none ∧ σ' = { σ with files := sset (sdel σ.files nm) nw x })
def nmX (σ : St) (nm : Str) (new : Option Str) (code : Str) : Prop := (new = none ∧ klX σ nm code) ∨ ∃ nw, new = some nw ∧ rnX σ nm nw code
theorem nmX_len {new : Option Str} {code : Str} (h : nmX σ nm new code) : code.length ≤ 100 := by
  rcases h with ⟨_, h⟩ | ⟨_, _, h⟩
  · exact klX_len h
  · exact rnX_len h
theorem fin_named (G : Good σ left b) (hb : b + 10 ≤ 1000) {new : Option Str} (hnw : ∀ nw, new = some nw → IsName nw ∨ nw = "D") (hw : PWnam σ nm new v σ' ∨ (σ' = σ ∧ ∃ code, nmX σ nm new code ∧ isS v ("refused " ++ code))) (ht : NamP σ nm left new dv τ left') : σ' = τ ∧ Good τ left' (b + 10) ∧ SameV v dv := by
  obtain ⟨rfl, ht⟩ := ht
  have G' := G.more (Nat.le_add_right b 10) hb
  have eF : ("refused " : Str) ++ "FF" = "refused FF" := by decide
  have eA : ("refused " : Str) ++ "AO" = "refused AO" := by decide
  have eN : ("refused " : Str) ++ "NM" = "refused NM" := by decide
  rcases hw with ⟨hv, x, h1, h2, h⟩ | ⟨rfl, code, hc, hv⟩
  · rcases ht with ⟨a1, _⟩ | ⟨_, _, a2, _⟩ | ⟨x', nw', y', _, _, a3, a4, _⟩ | ⟨x', a1, _, a3, e, rfl⟩ | ⟨x', nw', a1, _, a3, a4, e, rfl⟩
    · exact none_some a1 h1
    · exact Bool.noConfusion (h2.symm.trans a2)
    · rcases h with ⟨q, _⟩ | ⟨nw, q, q2, _⟩
      · rw [q] at a3; cases a3
      · rw [some_eq q a3] at a4; exact none_some q2 a4
    · rcases h with ⟨q, rfl⟩ | ⟨nw, q, _⟩
      · exact ⟨rfl, G'.kill h2, same_none hv e⟩
      · rw [q] at a3; cases a3
    · rcases h with ⟨q, _⟩ | ⟨nw, q, q2, rfl⟩
      · rw [q] at a3; cases a3
      · obtain rfl := some_eq q a3
        obtain rfl := some_eq h1 a1
        exact ⟨rfl, G'.move h2 h1 q2 (hnw _ q), same_none hv e⟩
  · have key : klX σ' nm code ∨ (named σ' nm = false ∧ code = "NM" ∧ ∃ x nw y, vat σ'.files nm = some x ∧ new = some nw ∧ vat σ'.files nw = some y) := by
      rcases hc with ⟨_, h⟩ | ⟨nw, q, h | ⟨⟨x, h1⟩, h2, ⟨y, h3⟩, h4⟩⟩
      · exact .inl h
      · exact .inl h
      · exact .inr ⟨h2, h4, x, nw, y, h1, q, h3⟩
    rcases key with (⟨b1, rfl⟩ | ⟨⟨x, b1⟩, b2, rfl⟩) | ⟨b2, rfl, x, nw, y, b1, b3, b4⟩
    · rcases ht with ⟨_, e, rfl⟩ | ⟨_, a1, _⟩ | ⟨_, _, _, a1, _⟩ | ⟨_, a1, _⟩ | ⟨_, _, a1, _⟩
      · exact ⟨rfl, G', same_str (eF ▸ hv) e⟩
      all_goals exact none_some b1 a1
    · rcases ht with ⟨a1, _⟩ | ⟨_, _, _, e, rfl⟩ | ⟨_, _, _, _, a2, _⟩ | ⟨_, _, a2, _⟩ | ⟨_, _, _, a2, _⟩
      · exact none_some a1 b1
      · exact ⟨rfl, G', same_str (eA ▸ hv) e⟩
      all_goals exact Bool.noConfusion (b2.symm.trans a2)
    · rcases ht with ⟨a1, _⟩ | ⟨_, _, a2, _⟩ | ⟨_, _, _, _, _, _, _, e, rfl⟩ | ⟨_, _, _, a3, _⟩ | ⟨_, nw', _, _, a3, a4, _⟩
      · exact none_some a1 b1
      · exact Bool.noConfusion (b2.symm.trans a2)
      · exact ⟨rfl, G', same_str (eN ▸ hv) e⟩
      · rw [b3] at a3; cases a3
      · rw [some_eq b3 a3] at a4; exact none_some a4 b4
end
theorem app_asc {y : Str} (h : ∀ z ∈ y.cps.toList, z < 128) : ∀ z ∈ (y ++ "\n").cps.toList, z < 128 := by
  intro z hz
  rw [show (y ++ "\n").cps = y.cps ++ ("\n" : Str).cps from rfl, Array.toList_append] at hz
  rcases List.mem_append.mp hz with hz | hz
  · exact h z hz
  · exact (by decide : ∀ z ∈ ("\n" : Str).cps.toList, z < 128) z hz
/-! pairs made in a block -/
section
variable {prog : Program} {w : World} {K : Type} [DecidableEq K] {knd : KeyKind prog w K} {nw nw' : List (Addr × Obj)} {ys : List Value} {kvs : List (K × Value)} {k : K} {v key : Value} {a : Addr} {n : Nat}
def Pairs (knd : KeyKind prog w K) (nw : List (Addr × Obj)) (ys : List Value) (kvs : List (K × Value)) : Prop :=
  ys.length = kvs.length ∧ ∀ (j : Nat) (k : K) (v : Value), kvs[j]? = some (k, v) → ∃ a key n, ys[j]? = some (.ref a) ∧ knd.is k key = true ∧ (a, ({ cls := .type "tuple", data := .seq #[key, v] n } : Obj)) ∈ nw
theorem Pairs.nil : Pairs knd nw [] [] := ⟨rfl, fun j k v h => by simp at h⟩
theorem Pairs.up (H : Pairs knd nw ys kvs) (c : ∀ p ∈ nw, p ∈ nw') : Pairs knd nw' ys kvs :=
  ⟨H.1, fun j k v h => let ⟨a, key, n, h1, h2, h3⟩ := H.2 j k v h; ⟨a, key, n, h1, h2, c _ h3⟩⟩
theorem Pairs.snoc (H : Pairs knd nw ys kvs) (c : ∀ p ∈ nw, p ∈ nw') (hk : knd.is k key = true) (hm : (a, ({ cls := .type "tuple", data := .seq #[key, v] n } : Obj)) ∈ nw') : Pairs knd nw' (ys ++ [.ref a]) (kvs ++ [(k, v)]) := by
  refine ⟨by rw [List.length_append, List.length_append, H.1]; rfl, fun j k' v' h => ?_⟩
  by_cases q : j < kvs.length
  · rw [List.getElem?_append_left q] at h
    obtain ⟨a, key, n, h1, h2, h3⟩ := H.2 j k' v' h
    exact ⟨a, key, n, by rw [List.getElem?_append_left (by rw [H.1]; exact q)]; exact h1, h2, c _ h3⟩
  · rw [List.getElem?_append_right (Nat.le_of_not_lt q)] at h
    obtain ⟨j', rfl⟩ : ∃ j', j = kvs.length + j' := ⟨j - kvs.length, by omega⟩
    rw [Nat.add_sub_cancel_left] at h
    cases j' with
    | zero =>
      rw [List.getElem?_cons_zero] at h
      cases h
      exact ⟨a, key, n, by rw [List.getElem?_append_right (by rw [H.1]; exact Nat.le_refl _), H.1]; simp, hk, hm⟩
    | succ i => simp at h
end
theorem sdel_take {K α : Type} [DecidableEq K] {l : List (K × α)} {i : Nat} {c : K × α} {k : K} (h : l[i]? = some c) : sdel (l.take (i + 1)) k = if c.1 = k then sdel (l.take i) k else sdel (l.take i) k ++ [c] := by
  rw [List.take_add_one, h, sdel, List.filter_append]
  by_cases q : c.1 = k
  · rw [if_pos q]; simp [sdel, q]
  · rw [if_neg q]; simp [sdel, q]
theorem close_all {t : TL} {σ : St} {k : Int} {b a : Addr} (h : a ∈ TL.all { t with to := b } { σ with chans := sdel σ.chans k }) : a ∈ t.all σ ∨ a = b := by
  rcases all_cases h with rfl | rfl | rfl | ⟨f, hf, rfl⟩ | ⟨c, hc, rfl⟩ | ⟨c, hc, rfl⟩
  · exact .inl in_td
  · exact .inl in_tf
  · exact .inr rfl
  · exact .inl (in_fl hf)
  · exact .inl (in_sp (mem_sdel hc).1)
  · exact .inl (in_lf (mem_sdel hc).1)
theorem wclose_all {l : WL} {σ : St} {k : Int} {a : Addr} (h : a ∈ l.all { σ with chans := sdel σ.chans k }) : a ∈ l.all σ := by
  have hs : (l.all { σ with chans := sdel σ.chans k }).Sublist (l.all σ) := by
    simp only [WL.all]
    iterate 5 refine List.Sublist.cons_cons _ ?_
    exact List.Sublist.map _ List.filter_sublist
  exact hs.subset h
theorem compEnd_one {h₀ h' : Heap} {L I C D : Addr} {m : Str → Option Value} {s₁ : Shared} {oI oC oD : Obj} {S : List (Addr × Obj) → Prop} {rest : Value → List (Addr × Obj) → Prop} {y : Value} {tk : Nat} {nw : List (Addr × Obj)} {x : Addr} {o : Obj} {R' : Prop}
    (F : Fr h₀ L h' m) (N : News h₀ L h' ((x, o) :: (I, oI) :: (C, oC) :: (D, oD) :: nw)) (q : @LT.lt Nat _ I x ∧ @LT.lt Nat _ C x ∧ @LT.lt Nat _ D x ∧ R') (off : LCg.Off3 I C D nw) (hS : S ((x, o) :: nw)) (r : rest y ((x, o) :: nw)) :
    LCg.CompEnd h₀ L m s₁ I oI C oC D oD S rest y { s₁ with heap := h', toks := tk } :=
  LCg.CompEnd.intro F N ((x, o) :: nw) (by intro p hp; simp only [List.mem_cons] at hp ⊢; rcases hp with h | h | h | h | h <;> simp [h]) ⟨⟨Nat.ne_of_gt q.1, Nat.ne_of_gt q.2.1, Nat.ne_of_gt q.2.2.1⟩, off⟩ hS r


end
/-! Fs -/
section
open PyProof.V
/-! quick lines for the walk -/
theorem here_cell {M : Model} {A : Around} {E : Value → Shared → Prop} {s : Shared} {cn : Str} {cs : Scope} {L a : Addr} {cd : Value} {cl : List (Str × Addr)} {x : Str} {v : Value} {Q : Unit → Shared → Prop} (_ : (envX cn cs L a cd cl).kindOf x = some .cell) (h : Here (wpAny M A (storeName (envX cn cs L a cd cl) x v) Q E s)) : wpAny M A (storeName (envX cn cs L a cd cl) x v) Q E s := h
theorem pick_h {prog : Program} {w : World} {A : Around} {E : Value → Shared → Prop} {s : Shared} {value slice : PySem.Expr} {a : Addr} {vs : List Value} {r : Int} {u : Tok} {Q : Value → Shared → Prop} (hl : s.heap.IsList a vs.toArray) (h0 : 0 ≤ r) (h1 : r < vs.length) (h2 : vs.length ≤ 100) (h : ∀ v ∈ vs, Q v s)
    (hs : subscripted slice false (.ref a) (.int r u) = operate [.ref a, .int r u] (getItem (.ref a) (.int r u)) := by with_unfolding_all rfl) :
    Here (wpAny (model prog w) A (subscriptTail value slice (.ref a) (.int r u)) Q E s) :=
  kba_turn (value' := PySem.Expr.Name (PySem.Str.ofString "_") ⟨0, 0, 0, 0⟩) (fun _ => rfl) (pick hl h0 h1 h2 h hs (by intro _; rfl))
end
local macro_rules | `(tactic| walk_at "subscriptTail List cons Call ref int") => `(tactic| (k_here; refine here ?_))
local macro_rules | `(tactic| walk_at "subscriptTail List cons Name ref int") => `(tactic| (k_here; refine here ?_))
local macro_rules | `(tactic| walk_at "storeName") => `(tactic| (k_here; k_dflt (refine' here_cell ?b ?_; (case b => exact rfl))))


/-! E0 -/
section
open PyProof.V
set_option maxRecDepth 100000 in
set_option maxHeartbeats 8000000 in
theorem deed_0 {w : World} {dp un : Nat} {gd : Option (List Code)} {LI : Addr} {outer : List Env} {A₀ : Around} {base gI : Heap} {m mg mb : Str → Option Value} {news : List (Addr × Obj)} {s : Shared} {E : Value → Shared → Prop} {loose : List Str} {mean : ExcName → Option Value}
    (B : Below A₀ base outer gI) (F : Fr gI LI s.heap m) (N : News gI LI s.heap news) (XB : (hd.heap_1 w.params).In base) (TB : Top topProg loose mean mg mb base) {o : Obj} (ho : (hd.heap_1 w.params).lookup 215 = some o) (hdp : dp + 30 < recursionLimit) (hu : un + 300 < cLine)
    {l : WL} {t : TL} {f : FL} {σ : St} {left : Int → Str} {b : Nat} {lim : Int} {cv : Nat → Option Value} {R : Addr × Obj → Prop} {k : Int} {nm : Str} {kd : Int} {tc tn tk : Tok} (D : DS w news LI l t f σ σ left lim cv R) (G : Good σ left b) (hb : b + 10 ≤ 900) (hlim : lim ≤ 820) (C12 : CodeHd base 214 212)
    (cv1 : cv 1 = some (.ref l.wi)) (cv2 : cv 2 = some (.ref t.td)) (cv3 : cv 3 = some (.int k tc)) (cv6 : cv 6 = some (.str nm tn)) (hk : k = 1 ∨ k = 2 ∨ k = 3) (hn : IsName nm) (mf : m "feed" = some (.ref f.fd)) (mk : m "kind" = some (.int kd tk)) (hk0 : 0 ≤ kd) (hk1 : kd < 3) :
    wpAny (model PySem.Challenge.rw_pq0172_01.row.prog w) (ktrTop dp un gd "_law_deed_right" (fnScope o) LI 215 (.ref 214) (cellsFrom (LI + 1) (fnScope o).names []) outer) (exec (fnStmt o 1) (envX "_law_deed_right" (fnScope o) LI 215 (.ref 214) (cellsFrom (LI + 1) (fnScope o).names [])))
      (Mid w (outer.filterMap (·.frame)) A₀ base outer gI LI l t f (b + 10) (lim) k R s) E s := by
  revert XB; k_fill; intro XB
  have X := XB.keeps B.stays
  have T := TB.keeps B.stays
  have hbg : ∀ h, (hd.heap_1 w.params).In h → sysModules < h.objs.size := fun h X => Nat.lt_of_le_of_lt (by decide) (Heap.lt_size (X 215 _ ho))
  obtain rfl := lit_eq ho (by k_dflt k_is)
  clear ho
  dsimp only [fnScope, fnStmt, fnOf, List.getD, List.getElem?_cons_succ, List.getElem?_cons_zero, Option.getD]
  have hk3 : decide (kd < 3) = true := decide_eq_true hk1
  have hu0 := D.uq
  refine fold_exec ?_
  intro M1 env1 A1 Q1
  refine D.goCells cv1 cv2 cv3 rfl rfl cv6 rfl rfl fun o1 m1 d1 o2 m2 d2 o3 m3 d3 o4 m4 d4 o5 m5 d5 o6 m6 d6 o7 m7 d7 o8 m8 d8 => ?_
  k_steps
  k_dflt (refine pick_h (News.isList (by k_asm) (.head _)) hk0 (by simpa using hk1) (Nat.le_of_ble_eq_true rfl) ?_)
  intro v hpick
  obtain ⟨mode, tm, rfl, hm⟩ : ∃ mode tm, v = .str mode tm ∧ (mode = "O" ∨ mode = "I" ∨ mode = "A") := by
    rcases List.mem_cons.mp hpick with rfl | hpick
    · exact ⟨_, _, rfl, .inl rfl⟩
    rcases List.mem_cons.mp hpick with rfl | hpick
    · exact ⟨_, _, rfl, .inr (.inl rfl)⟩
    rcases List.mem_cons.mp hpick with rfl | hpick
    · exact ⟨_, _, rfl, .inr (.inr rfl)⟩
    · cases hpick
  clear hpick
  k_steps
  k_dflt (refine storeC (by k_asm) (by k_asm) (by rfl) (.tail _ m5) (by assumption) ?_)
  intro h7 n7 o7 F7 N7 m' K7 d'
  obtain ⟨cv7, cv1, cv2, cv3, cv6, cv8, D7⟩ := D.put N7 (by decide) (fun p hp h => K7 p (.tail _ hp) h) m' d' cv1 cv2 cv3 cv6
  clear m' d' K7 D hu0
  clear m1 d1 o1 m2 d2 o2 m3 d3 o3 m4 d4 o4 m5 d5 o5 m6 d6 o6 m7 d7 o7 m8 d8 o8
  refine D7.goCells cv1 cv2 cv3 rfl cv8 cv6 rfl rfl fun o1 m1 d1 o2 m2 d2 o3 m3 d3 o4 m4 d4 o5 m5 d5 o6 m6 d6 o7 m7 d7 o8 m8 d8 => ?_
  k_steps
  k_dflt (refine lam_eval (P := 212) (c := 214) (qual := "_law_deed_right.<locals>.<lambda>") (by k_asm) (by k_asm) (by k_asm) (C12.keeps B.stays) D7.t12 rfl (by rfl) (by rfl) (by rfl) ?_)
  intro f8 c8 oc8 vs8 tt8 pm8 ctv8 h8 tk8 n8 F8 N8 a1 a2 a3 a4 Q128 K8 lt8
  have D8 := D7.lam N8 Q128 K8
  clear m1 d1 o1 m2 d2 o2 m3 d3 o3 m4 d4 o4 m5 d5 o5 m6 d6 o6 m7 d7 o7 m8 d8 o8
  refine D8.goCells cv1 cv2 cv3 rfl cv8 cv6 rfl rfl fun o1 m1 d1 o2 m2 d2 o3 m3 d3 o4 m4 d4 o5 m5 d5 o6 m6 d6 o7 m7 d7 o8 m8 d8 => ?_
  clear D7 Q128 K8 lt8
  k_steps
  k_dflt (refine heard_ok (V := fun v n' => ∃ σ' l', DS w n' LI l' t f σ' σ left (lim) cv7 R ∧ l'.wi = l.wi ∧ PWopn σ k mode nm v σ') (X := fun code => opX σ k mode nm code) (by k_asm) (by k_asm) (by k_asm) XB TB rfl (by ktr_room) (by ktr_units) ?_ (fun code hc => opX_len hc) a1 ?_)
  · intro dpA unA gdA cnA csA LA aA ccdA clA outerA AA hA mA sA QA EA BA FA NA hkA hdA huA retA heA
    have XA := XB.keeps BA.stays
    have TA := TB.keeps BA.stays
    refine wpAny_call ?_
    k_dflt (walk_at "mine lam")
    k_steps
    k_dflt (refine open_gen (by k_asm) (by k_asm) (by k_asm) XB TB rfl (by ktr_room) (by ktr_units) D8.W G hk hm hn ?_ ?_)
    · intro code hc e' h' tk' g' n' lo' T' F' N' B' x' c' l'
      have he3 := heA code hc
      k_steps
      k_dflt (walk_at "mine err")
    · intro σ' hv hb' hO h' tk' n' b' F' N' W' c' lb
      k_steps
      exact retA _ _ _ n' (by k_asm) (by k_asm) ⟨_, _, D8.world N' W' (fun a ha => (open_all hv hO ha).imp id fun e p hp => by rw [e]; exact lb p hp) c', rfl, rfl, hv, hb', hO⟩
  intro v9 h9 tk9 g9 n9 T9 F9 N9 B9 R9
  have X9 := XB.keeps B9.stays
  have P9 := TB.keeps B9.stays
  obtain ⟨σ9, l9, D9, wi9, R9⟩ := R9.ds N9 D8
  clear m1 d1 o1 m2 d2 o2 m3 d3 o3 m4 d4 o4 m5 d5 o5 m6 d6 o6 m7 d7 o7 m8 d8 o8
  refine D9.goCells cv1 cv2 cv3 rfl cv8 cv6 rfl rfl fun o1 m1 d1 o2 m2 d2 o3 m3 d3 o4 m4 d4 o5 m5 d5 o6 m6 d6 o7 m7 d7 o8 m8 d8 => ?_
  clear D8 a1 a2 a3 a4 X T
  (try clear F8); (try clear N8)
  k_steps
  k_dflt (refine opened_gen (by k_asm) (by k_asm) (by k_asm) XB TB rfl (by ktr_room) (by ktr_units) D9.T G hm ?_)
  intro dv h10 tk10 n10 t10 σ10 left10 F10 N10 T10 K10 S10 e10 R10
  have D10 := D9.twin N10 T10 S10 K10
  obtain ⟨rfl, G10, sv⟩ := fin_opn G (by omega) hk hn hm R9 R10
  clear m1 d1 o1 m2 d2 o2 m3 d3 o3 m4 d4 o4 m5 d5 o5 m6 d6 o6 m7 d7 o7 m8 d8 o8
  k_steps
  refine Mid.intro (g' := g9) (l' := l9) (t' := t10) (left' := left10) (cv' := cv7) (hv := v9) (dv := dv) (tr := tc) (rfl) (T9) (by k_asm) (by k_asm) (B9) (D10.up (by k_asm) (by intro p hp; first | exact hp | exact .tail _ hp)) (G10) (wi9) (e10) (by walk_at "mine look") (by walk_at "mine look") (sv) (wi9 ▸ cv1) (e10 ▸ cv2) (cv3)


end
/-! E3 -/
section
open PyProof.V
set_option maxRecDepth 100000 in
set_option maxHeartbeats 8000000 in
theorem deed_3 {w : World} {dp un : Nat} {gd : Option (List Code)} {LI : Addr} {outer : List Env} {A₀ : Around} {base gI : Heap} {m mg mb : Str → Option Value} {news : List (Addr × Obj)} {s : Shared} {E : Value → Shared → Prop} {loose : List Str} {mean : ExcName → Option Value}
    (B : Below A₀ base outer gI) (F : Fr gI LI s.heap m) (N : News gI LI s.heap news) (XB : (hd.heap_1 w.params).In base) (TB : Top topProg loose mean mg mb base) {o : Obj} (ho : (hd.heap_1 w.params).lookup 215 = some o) (hdp : dp + 30 < recursionLimit) (hu : un + 300 < cLine)
    {l : WL} {t : TL} {f : FL} {σ : St} {left : Int → Str} {b : Nat} {lim : Int} {cv : Nat → Option Value} {R : Addr × Obj → Prop} {k : Int} {nm : Str} {kd : Int} {tc tn tk : Tok} (D : DS w news LI l t f σ σ left lim cv R) (G : Good σ left b) (hb : b + 10 ≤ 900) (hlim : lim ≤ 820) (C12 : CodeHd base 214 212)
    (cv1 : cv 1 = some (.ref l.wi)) (cv2 : cv 2 = some (.ref t.td)) (cv3 : cv 3 = some (.int k tc)) (cv6 : cv 6 = some (.str nm tn)) (hk : k = 1 ∨ k = 2 ∨ k = 3) (hn : IsName nm) (mf : m "feed" = some (.ref f.fd)) (mk : m "kind" = some (.int kd tk)) (hkd : kd = 3) :
    wpAny (model PySem.Challenge.rw_pq0172_01.row.prog w) (ktrTop dp un gd "_law_deed_right" (fnScope o) LI 215 (.ref 214) (cellsFrom (LI + 1) (fnScope o).names []) outer) (exec (fnStmt o 1) (envX "_law_deed_right" (fnScope o) LI 215 (.ref 214) (cellsFrom (LI + 1) (fnScope o).names [])))
      (Mid w (outer.filterMap (·.frame)) A₀ base outer gI LI l t f (b + 10) (lim + 1) k R s) E s := by
  revert XB; k_fill; intro XB
  have X := XB.keeps B.stays
  have T := TB.keeps B.stays
  have hbg : ∀ h, (hd.heap_1 w.params).In h → sysModules < h.objs.size := fun h X => Nat.lt_of_le_of_lt (by decide) (Heap.lt_size (X 215 _ ho))
  obtain rfl := lit_eq ho (by k_dflt k_is)
  clear ho
  dsimp only [fnScope, fnStmt, fnOf, List.getD, List.getElem?_cons_succ, List.getElem?_cons_zero, Option.getD]
  subst hkd
  have hu0 := D.uq
  refine fold_exec ?_
  intro M1 env1 A1 Q1
  refine D.goCells cv1 cv2 cv3 rfl rfl cv6 rfl rfl fun o1 m1 d1 o2 m2 d2 o3 m3 d3 o4 m4 d4 o5 m5 d5 o6 m6 d6 o7 m7 d7 o8 m8 d8 => ?_
  k_steps
  k_dflt (refine next_ok (by k_asm) (by k_asm) (by k_asm) XB TB rfl (by ktr_room) (by ktr_units) (D.F.mono ?_) (by omega) (by decide) (by decide) ?_)
  · intro p hp _; simp [hp]
  intro r4 t4 h6 tk6 n6 r4a r4b F6 N6 H6 K6
  have D6 := D.next N6 H6 fun p hp h => K6 p (.tail _ hp) h
  have mL := K6 _ (.head _) (D.new (by assumption)).2.2.1.symm
  clear m1 d1 o1 m2 d2 o2 m3 d3 o3 m4 d4 o4 m5 d5 o5 m6 d6 o6 m7 d7 o7 m8 d8 o8
  refine D6.goCells cv1 cv2 cv3 rfl rfl cv6 rfl rfl fun o1 m1 d1 o2 m2 d2 o3 m3 d3 o4 m4 d4 o5 m5 d5 o6 m6 d6 o7 m7 d7 o8 m8 d8 => ?_
  k_steps
  k_dflt (refine pick_h (News.isList (by k_asm) mL) r4a (by simpa using r4b) (Nat.le_of_ble_eq_true rfl) ?_)
  intro v hpick
  obtain ⟨y, ty, rfl, hy, hya⟩ : ∃ y ty, v = .str y ty ∧ y.length ≤ 9 ∧ ∀ z ∈ y.cps.toList, z < 128 := by
    rcases List.mem_cons.mp hpick with rfl | hpick
    · exact ⟨_, _, rfl, by decide, by decide⟩
    rcases List.mem_cons.mp hpick with rfl | hpick
    · exact ⟨_, _, rfl, by decide, by decide⟩
    rcases List.mem_cons.mp hpick with rfl | hpick
    · exact ⟨_, _, rfl, by decide, by decide⟩
    · cases hpick
  clear hpick
  clear mL
  k_steps
  k_dflt (refine storeC (by k_asm) (by k_asm) (by rfl) m8 (by assumption) ?_)
  intro h7 n7 o7 F7 N7 m' K7 d'
  obtain ⟨cv7, cv1, cv2, cv3, cv6, cv8, D7⟩ := D6.put N7 (by decide) K7 m' d' cv1 cv2 cv3 cv6
  clear m' d' K7 D6 K6 H6 N6 F6 D hu0
  clear m1 d1 o1 m2 d2 o2 m3 d3 o3 m4 d4 o4 m5 d5 o5 m6 d6 o6 m7 d7 o7 m8 d8 o8
  refine D7.goCells cv1 cv2 cv3 rfl rfl cv6 rfl cv8 fun o1 m1 d1 o2 m2 d2 o3 m3 d3 o4 m4 d4 o5 m5 d5 o6 m6 d6 o7 m7 d7 o8 m8 d8 => ?_
  k_steps
  k_dflt (refine lam_eval (P := 212) (c := 214) (qual := "_law_deed_right.<locals>.<lambda>") (by k_asm) (by k_asm) (by k_asm) (C12.keeps B.stays) D7.t12 rfl (by rfl) (by rfl) (by rfl) ?_)
  intro f8 c8 oc8 vs8 tt8 pm8 ctv8 h8 tk8 n8 F8 N8 a1 a2 a3 a4 Q128 K8 lt8
  have D8 := D7.lam N8 Q128 K8
  clear m1 d1 o1 m2 d2 o2 m3 d3 o3 m4 d4 o4 m5 d5 o5 m6 d6 o6 m7 d7 o7 m8 d8 o8
  refine D8.goCells cv1 cv2 cv3 rfl rfl cv6 rfl cv8 fun o1 m1 d1 o2 m2 d2 o3 m3 d3 o4 m4 d4 o5 m5 d5 o6 m6 d6 o7 m7 d7 o8 m8 d8 => ?_
  clear D7 Q128 K8 lt8
  k_steps
  k_dflt (refine heard_ok (V := fun v n' => ∃ σ' l', DS w n' LI l' t f σ' σ left (lim + 1) cv7 R ∧ l'.wi = l.wi ∧ PWput σ k (y ++ "\n") v σ') (X := fun code => wrX σ k code) (by k_asm) (by k_asm) (by k_asm) XB TB rfl (by ktr_room) (by ktr_units) ?_ (fun code hc => wrX_len hc) a1 ?_)
  · intro dpA unA gdA cnA csA LA aA ccdA clA outerA AA hA mA sA QA EA BA FA NA hkA hdA huA retA heA
    have XA := XB.keeps BA.stays
    have TA := TB.keeps BA.stays
    refine wpAny_call ?_
    k_dflt (walk_at "mine lam")
    k_steps
    k_dflt (refine row_gen (by k_asm) (by k_asm) (by k_asm) XB TB rfl (by ktr_room) (by ktr_units) D8.W G (Nat.le_trans hy (by decide)) ?_ ?_)
    · intro code hc e' h' tk' g' n' lo' T' F' N' B' x' c' l'
      have he3 := heA code hc
      k_steps
      k_dflt (walk_at "mine err")
    · intro c x hv hm hf h' tk' n' F' N' W' c'
      k_steps
      exact retA _ _ _ n' (by k_asm) (by k_asm) ⟨_, l, D8.world N' W' (fun a ha => .inl (all_write hv ha)) c', rfl, rfl, c, x, hv, hm, hf, rfl⟩
  intro v9 h9 tk9 g9 n9 T9 F9 N9 B9 R9
  have X9 := XB.keeps B9.stays
  have P9 := TB.keeps B9.stays
  obtain ⟨σ9, l9, D9, wi9, R9⟩ := R9.ds N9 D8
  clear m1 d1 o1 m2 d2 o2 m3 d3 o3 m4 d4 o4 m5 d5 o5 m6 d6 o6 m7 d7 o7 m8 d8 o8
  refine D9.goCells cv1 cv2 cv3 rfl rfl cv6 rfl cv8 fun o1 m1 d1 o2 m2 d2 o3 m3 d3 o4 m4 d4 o5 m5 d5 o6 m6 d6 o7 m7 d7 o8 m8 d8 => ?_
  clear D8 a1 a2 a3 a4 X T
  (try clear F8); (try clear N8)
  k_steps
  k_dflt (refine put_gen (by k_asm) (by k_asm) (by k_asm) XB TB rfl (by ktr_room) (by ktr_units) D9.T G (y := y ++ "\n") (by rw [Str.length_append, nl_len]; omega) ?_)
  intro dv h10 tk10 n10 t10 σ10 left10 F10 N10 T10 K10 S10 e10 R10
  have D10 := D9.twin N10 T10 S10 K10
  obtain ⟨rfl, G10, sv⟩ := fin_put (y := y ++ "\n") G (by omega) (by rw [Str.length_append, nl_len]; omega) (app_asc hya) R9 R10
  clear m1 d1 o1 m2 d2 o2 m3 d3 o3 m4 d4 o4 m5 d5 o5 m6 d6 o6 m7 d7 o7 m8 d8 o8
  k_steps
  refine Mid.intro (g' := g9) (l' := l9) (t' := t10) (left' := left10) (cv' := cv7) (hv := v9) (dv := dv) (tr := tc) (rfl) (T9) (by k_asm) (by k_asm) (B9) (D10.up (by k_asm) (by intro p hp; first | exact hp | exact .tail _ hp)) (G10) (wi9) (e10) (by walk_at "mine look") (by walk_at "mine look") (sv) (wi9 ▸ cv1) (e10 ▸ cv2) (cv3)


end
/-! E4 -/
section
open PyProof.V
set_option maxRecDepth 100000 in
set_option maxHeartbeats 8000000 in
theorem deed_4 {w : World} {dp un : Nat} {gd : Option (List Code)} {LI : Addr} {outer : List Env} {A₀ : Around} {base gI : Heap} {m mg mb : Str → Option Value} {news : List (Addr × Obj)} {s : Shared} {E : Value → Shared → Prop} {loose : List Str} {mean : ExcName → Option Value}
    (B : Below A₀ base outer gI) (F : Fr gI LI s.heap m) (N : News gI LI s.heap news) (XB : (hd.heap_1 w.params).In base) (TB : Top topProg loose mean mg mb base) {o : Obj} (ho : (hd.heap_1 w.params).lookup 215 = some o) (hdp : dp + 30 < recursionLimit) (hu : un + 300 < cLine)
    {l : WL} {t : TL} {f : FL} {σ : St} {left : Int → Str} {b : Nat} {lim : Int} {cv : Nat → Option Value} {R : Addr × Obj → Prop} {k : Int} {nm : Str} {kd : Int} {tc tn tk : Tok} (D : DS w news LI l t f σ σ left lim cv R) (G : Good σ left b) (hb : b + 10 ≤ 900) (hlim : lim ≤ 820) (C12 : CodeHd base 214 212)
    (cv1 : cv 1 = some (.ref l.wi)) (cv2 : cv 2 = some (.ref t.td)) (cv3 : cv 3 = some (.int k tc)) (cv6 : cv 6 = some (.str nm tn)) (hk : k = 1 ∨ k = 2 ∨ k = 3) (hn : IsName nm) (mf : m "feed" = some (.ref f.fd)) (mk : m "kind" = some (.int kd tk)) (hkd : kd = 4) :
    wpAny (model PySem.Challenge.rw_pq0172_01.row.prog w) (ktrTop dp un gd "_law_deed_right" (fnScope o) LI 215 (.ref 214) (cellsFrom (LI + 1) (fnScope o).names []) outer) (exec (fnStmt o 1) (envX "_law_deed_right" (fnScope o) LI 215 (.ref 214) (cellsFrom (LI + 1) (fnScope o).names [])))
      (Mid w (outer.filterMap (·.frame)) A₀ base outer gI LI l t f (b + 10) (lim + 1) k R s) E s := by
  revert XB; k_fill; intro XB
  have X := XB.keeps B.stays
  have T := TB.keeps B.stays
  have hbg : ∀ h, (hd.heap_1 w.params).In h → sysModules < h.objs.size := fun h X => Nat.lt_of_le_of_lt (by decide) (Heap.lt_size (X 215 _ ho))
  obtain rfl := lit_eq ho (by k_dflt k_is)
  clear ho
  dsimp only [fnScope, fnStmt, fnOf, List.getD, List.getElem?_cons_succ, List.getElem?_cons_zero, Option.getD]
  subst hkd
  have hu0 := D.uq
  refine fold_exec ?_
  intro M1 env1 A1 Q1
  refine D.goCells cv1 cv2 cv3 rfl rfl cv6 rfl rfl fun o1 m1 d1 o2 m2 d2 o3 m3 d3 o4 m4 d4 o5 m5 d5 o6 m6 d6 o7 m7 d7 o8 m8 d8 => ?_
  k_steps
  k_dflt (refine next_ok (by k_asm) (by k_asm) (by k_asm) XB TB rfl (by ktr_room) (by ktr_units) (D.F.mono ?_) (by omega) (by decide) (by decide) ?_)
  · intro p hp _; simp [hp]
  intro r4 t4 h6 tk6 n6 r4a r4b F6 N6 H6 K6
  have D6 := D.next N6 H6 fun p hp h => K6 p (.tail _ hp) h
  have mL := K6 _ (.head _) (D.new (by assumption)).2.2.1.symm
  clear m1 d1 o1 m2 d2 o2 m3 d3 o3 m4 d4 o4 m5 d5 o5 m6 d6 o6 m7 d7 o7 m8 d8 o8
  refine D6.goCells cv1 cv2 cv3 rfl rfl cv6 rfl rfl fun o1 m1 d1 o2 m2 d2 o3 m3 d3 o4 m4 d4 o5 m5 d5 o6 m6 d6 o7 m7 d7 o8 m8 d8 => ?_
  k_steps
  k_dflt (refine pick_h (News.isList (by k_asm) mL) r4a (by simpa using r4b) (Nat.le_of_ble_eq_true rfl) ?_)
  intro v hpick
  obtain ⟨y, ty, rfl, hy, hya⟩ : ∃ y ty, v = .str y ty ∧ y.length ≤ 9 ∧ ∀ z ∈ y.cps.toList, z < 128 := by
    rcases List.mem_cons.mp hpick with rfl | hpick
    · exact ⟨_, _, rfl, by decide, by decide⟩
    rcases List.mem_cons.mp hpick with rfl | hpick
    · exact ⟨_, _, rfl, by decide, by decide⟩
    rcases List.mem_cons.mp hpick with rfl | hpick
    · exact ⟨_, _, rfl, by decide, by decide⟩
    · cases hpick
  clear hpick
  clear mL
  k_steps
  k_dflt (refine storeC (by k_asm) (by k_asm) (by rfl) m8 (by assumption) ?_)
  intro h7 n7 o7 F7 N7 m' K7 d'
  obtain ⟨cv7, cv1, cv2, cv3, cv6, cv8, D7⟩ := D6.put N7 (by decide) K7 m' d' cv1 cv2 cv3 cv6
  clear m' d' K7 D6 K6 H6 N6 F6 D hu0
  clear m1 d1 o1 m2 d2 o2 m3 d3 o3 m4 d4 o4 m5 d5 o5 m6 d6 o6 m7 d7 o7 m8 d8 o8
  refine D7.goCells cv1 cv2 cv3 rfl rfl cv6 rfl cv8 fun o1 m1 d1 o2 m2 d2 o3 m3 d3 o4 m4 d4 o5 m5 d5 o6 m6 d6 o7 m7 d7 o8 m8 d8 => ?_
  k_steps
  k_dflt (refine lam_eval (P := 212) (c := 214) (qual := "_law_deed_right.<locals>.<lambda>") (by k_asm) (by k_asm) (by k_asm) (C12.keeps B.stays) D7.t12 rfl (by rfl) (by rfl) (by rfl) ?_)
  intro f8 c8 oc8 vs8 tt8 pm8 ctv8 h8 tk8 n8 F8 N8 a1 a2 a3 a4 Q128 K8 lt8
  have D8 := D7.lam N8 Q128 K8
  clear m1 d1 o1 m2 d2 o2 m3 d3 o3 m4 d4 o4 m5 d5 o5 m6 d6 o6 m7 d7 o7 m8 d8 o8
  refine D8.goCells cv1 cv2 cv3 rfl rfl cv6 rfl cv8 fun o1 m1 d1 o2 m2 d2 o3 m3 d3 o4 m4 d4 o5 m5 d5 o6 m6 d6 o7 m7 d7 o8 m8 d8 => ?_
  clear D7 Q128 K8 lt8
  k_steps
  k_dflt (refine heard_ok (V := fun v n' => ∃ σ' l', DS w n' LI l' t f σ' σ left (lim + 1) cv7 R ∧ l'.wi = l.wi ∧ PWput σ k y v σ') (X := fun code => wrX σ k code) (by k_asm) (by k_asm) (by k_asm) XB TB rfl (by ktr_room) (by ktr_units) ?_ (fun code hc => wrX_len hc) a1 ?_)
  · intro dpA unA gdA cnA csA LA aA ccdA clA outerA AA hA mA sA QA EA BA FA NA hkA hdA huA retA heA
    have XA := XB.keeps BA.stays
    have TA := TB.keeps BA.stays
    refine wpAny_call ?_
    k_dflt (walk_at "mine lam")
    k_steps
    k_dflt (refine write_gen (by k_asm) (by k_asm) (by k_asm) XB TB rfl (by ktr_room) (by ktr_units) D8.W G (Nat.le_trans hy (by decide)) ?_ ?_)
    · intro code hc e' h' tk' g' n' lo' T' F' N' B' x' c' l'
      have he3 := heA code hc
      k_steps
      k_dflt (walk_at "mine err")
    · intro c x hv hm hf h' tk' n' F' N' W' c'
      k_steps
      exact retA _ _ _ n' (by k_asm) (by k_asm) ⟨_, l, D8.world N' W' (fun a ha => .inl (all_write hv ha)) c', rfl, rfl, c, x, hv, hm, hf, rfl⟩
  intro v9 h9 tk9 g9 n9 T9 F9 N9 B9 R9
  have X9 := XB.keeps B9.stays
  have P9 := TB.keeps B9.stays
  obtain ⟨σ9, l9, D9, wi9, R9⟩ := R9.ds N9 D8
  clear m1 d1 o1 m2 d2 o2 m3 d3 o3 m4 d4 o4 m5 d5 o5 m6 d6 o6 m7 d7 o7 m8 d8 o8
  refine D9.goCells cv1 cv2 cv3 rfl rfl cv6 rfl cv8 fun o1 m1 d1 o2 m2 d2 o3 m3 d3 o4 m4 d4 o5 m5 d5 o6 m6 d6 o7 m7 d7 o8 m8 d8 => ?_
  clear D8 a1 a2 a3 a4 X T
  (try clear F8); (try clear N8)
  k_steps
  k_dflt (refine put_gen (by k_asm) (by k_asm) (by k_asm) XB TB rfl (by ktr_room) (by ktr_units) D9.T G (Nat.le_trans hy (by decide)) ?_)
  intro dv h10 tk10 n10 t10 σ10 left10 F10 N10 T10 K10 S10 e10 R10
  have D10 := D9.twin N10 T10 S10 K10
  obtain ⟨rfl, G10, sv⟩ := fin_put G (by omega) (Nat.le_trans hy (by decide)) hya R9 R10
  clear m1 d1 o1 m2 d2 o2 m3 d3 o3 m4 d4 o4 m5 d5 o5 m6 d6 o6 m7 d7 o7 m8 d8 o8
  k_steps
  refine Mid.intro (g' := g9) (l' := l9) (t' := t10) (left' := left10) (cv' := cv7) (hv := v9) (dv := dv) (tr := tc) (rfl) (T9) (by k_asm) (by k_asm) (B9) (D10.up (by k_asm) (by intro p hp; first | exact hp | exact .tail _ hp)) (G10) (wi9) (e10) (by walk_at "mine look") (by walk_at "mine look") (sv) (wi9 ▸ cv1) (e10 ▸ cv2) (cv3)


end
/-! E5 -/
section
open PyProof.V
set_option maxRecDepth 100000 in
set_option maxHeartbeats 8000000 in
theorem deed_5 {w : World} {dp un : Nat} {gd : Option (List Code)} {LI : Addr} {outer : List Env} {A₀ : Around} {base gI : Heap} {m mg mb : Str → Option Value} {news : List (Addr × Obj)} {s : Shared} {E : Value → Shared → Prop} {loose : List Str} {mean : ExcName → Option Value}
    (B : Below A₀ base outer gI) (F : Fr gI LI s.heap m) (N : News gI LI s.heap news) (XB : (hd.heap_1 w.params).In base) (TB : Top topProg loose mean mg mb base) {o : Obj} (ho : (hd.heap_1 w.params).lookup 215 = some o) (hdp : dp + 30 < recursionLimit) (hu : un + 300 < cLine)
    {l : WL} {t : TL} {f : FL} {σ : St} {left : Int → Str} {b : Nat} {lim : Int} {cv : Nat → Option Value} {R : Addr × Obj → Prop} {k : Int} {nm : Str} {kd : Int} {tc tn tk : Tok} (D : DS w news LI l t f σ σ left lim cv R) (G : Good σ left b) (hb : b + 10 ≤ 900) (hlim : lim ≤ 820) (C12 : CodeHd base 214 212)
    (cv1 : cv 1 = some (.ref l.wi)) (cv2 : cv 2 = some (.ref t.td)) (cv3 : cv 3 = some (.int k tc)) (cv6 : cv 6 = some (.str nm tn)) (hk : k = 1 ∨ k = 2 ∨ k = 3) (hn : IsName nm) (mf : m "feed" = some (.ref f.fd)) (mk : m "kind" = some (.int kd tk)) (hkd : kd = 5) :
    wpAny (model PySem.Challenge.rw_pq0172_01.row.prog w) (ktrTop dp un gd "_law_deed_right" (fnScope o) LI 215 (.ref 214) (cellsFrom (LI + 1) (fnScope o).names []) outer) (exec (fnStmt o 1) (envX "_law_deed_right" (fnScope o) LI 215 (.ref 214) (cellsFrom (LI + 1) (fnScope o).names [])))
      (Mid w (outer.filterMap (·.frame)) A₀ base outer gI LI l t f (b + 10) (lim) k R s) E s := by
  revert XB; k_fill; intro XB
  have X := XB.keeps B.stays
  have T := TB.keeps B.stays
  have hbg : ∀ h, (hd.heap_1 w.params).In h → sysModules < h.objs.size := fun h X => Nat.lt_of_le_of_lt (by decide) (Heap.lt_size (X 215 _ ho))
  obtain rfl := lit_eq ho (by k_dflt k_is)
  clear ho
  dsimp only [fnScope, fnStmt, fnOf, List.getD, List.getElem?_cons_succ, List.getElem?_cons_zero, Option.getD]
  subst hkd
  have hu0 := D.uq
  refine fold_exec ?_
  intro M1 env1 A1 Q1
  refine D.goCells cv1 cv2 cv3 rfl rfl cv6 rfl rfl fun o1 m1 d1 o2 m2 d2 o3 m3 d3 o4 m4 d4 o5 m5 d5 o6 m6 d6 o7 m7 d7 o8 m8 d8 => ?_
  k_steps
  k_dflt (refine lam_eval (P := 212) (c := 214) (qual := "_law_deed_right.<locals>.<lambda>") (by k_asm) (by k_asm) (by k_asm) (C12.keeps B.stays) D.t12 rfl (by rfl) (by rfl) (by rfl) ?_)
  intro f8 c8 oc8 vs8 tt8 pm8 ctv8 h8 tk8 n8 F8 N8 a1 a2 a3 a4 Q128 K8 lt8
  have D8 := D.lam N8 Q128 K8
  clear m1 d1 o1 m2 d2 o2 m3 d3 o3 m4 d4 o4 m5 d5 o5 m6 d6 o6 m7 d7 o7 m8 d8 o8
  refine D8.goCells cv1 cv2 cv3 rfl rfl cv6 rfl rfl fun o1 m1 d1 o2 m2 d2 o3 m3 d3 o4 m4 d4 o5 m5 d5 o6 m6 d6 o7 m7 d7 o8 m8 d8 => ?_
  clear D hu0 Q128 K8 lt8
  k_steps
  k_dflt (refine heard_ok (V := fun v n' => ∃ σ' l', DS w n' LI l' t f σ' σ left (lim) cv R ∧ l'.wi = l.wi ∧ (fun v σ' => v = .none ∧ σ' = { σ with chans := sdel σ.chans k }) v σ') (X := fun _ => False) (by k_asm) (by k_asm) (by k_asm) XB TB rfl (by ktr_room) (by ktr_units) ?_ (fun code hc => (fun h : False => h.elim : ∀ {code : Str}, False → code.length ≤ 100) hc) a1 ?_)
  · intro dpA unA gdA cnA csA LA aA ccdA clA outerA AA hA mA sA QA EA BA FA NA hkA hdA huA retA heA
    have XA := XB.keeps BA.stays
    have TA := TB.keeps BA.stays
    refine wpAny_call ?_
    k_dflt (walk_at "mine lam")
    k_steps
    k_dflt (refine close_gen (by k_asm) (by k_asm) (by k_asm) XB TB rfl (by ktr_room) (by ktr_units) D8.W G  ?_)
    · intro h' tk' n' F' N' W' c'
      k_steps
      exact retA _ _ _ n' (by k_asm) (by k_asm) ⟨_, l, D8.world N' W' (fun a ha => .inl (wclose_all ha)) c', rfl, rfl, rfl⟩
  intro v9 h9 tk9 g9 n9 T9 F9 N9 B9 R9
  have X9 := XB.keeps B9.stays
  have P9 := TB.keeps B9.stays
  obtain ⟨σ9, l9, D9, wi9, R9⟩ := R9.ds N9 D8
  obtain ⟨rfl, rfl⟩ : v9 = .none ∧ σ9 = { σ with chans := sdel σ.chans k } := R9.elim id fun z => z.2.elim fun _ z => z.1.elim
  clear m1 d1 o1 m2 d2 o2 m3 d3 o3 m4 d4 o4 m5 d5 o5 m6 d6 o6 m7 d7 o7 m8 d8 o8
  refine D9.goCells cv1 cv2 cv3 rfl rfl cv6 rfl rfl fun o1 m1 d1 o2 m2 d2 o3 m3 d3 o4 m4 d4 o5 m5 d5 o6 m6 d6 o7 m7 d7 o8 m8 d8 => ?_
  clear D8 a1 a2 a3 a4 X T R9
  (try clear F8); (try clear N8)
  have hT := D9.T
  refine hT.goDict fun oT j1 e1 => ?_; refine hT.goFiles fun oG j2 e2 => ?_; refine hT.goOpens fun oP j3 e3 => ?_; have y1 := hT.low _ dd_td; have y2 := hT.low _ dd_tf; have y3 := hT.low _ dd_to
  have jo := j3
  have cl := chans_le G
  k_steps
  refine ex4 _ _ _ _ ⟨Src.keys (knd := PySem.intKind PG w) rfl (by k_asm) (by k_asm) (by k_mem) e3 y3 (by rw [sizeLine_eq]; simp; omega), ?_⟩
  rintro s₂ ⟨hs2, rfl⟩
  refine restT_inv (fun i ys nw => (∀ p ∈ n9, p ∈ nw) ∧ Pairs (PySem.intKind PG w) nw ys ((sdel (σ.chans.take i) k).map fun c => (c.1, .ref (t.sp c.1)))) ?_ ?_ _ 0 [] _ (Nat.zero_add _) ⟨by intro p hp; simp [hp], .nil⟩
  · rintro ys nw ⟨up, hP⟩ D4 h4 tk4 F4 N4 off4
    rw [show (σ.chans.map fun c => (c.1, Value.ref (t.sp c.1))).length = σ.chans.length from List.length_map .., List.take_length] at hP
    have D4' := D9.up (n' := nw) (h' := h4) (fun p hp => N4 p (.tail _ hp)) up
    have T4 := hT.up up
    k_steps
    k_dflt (refine dict_pairs (knd := PySem.intKind PG w) rfl (by k_asm) (by k_asm) (.head _) (hbg _ X9) (List.size_toArray.trans hP.1) ?_ ?_ ?_ ?_)
    · rw [List.length_map]; exact Nat.le_trans (List.length_filter_le ..) (Nat.le_trans cl (by decide))
    · rw [List.map_map]; exact nodup_sdel G.wf.keys
    · intro j kk vv e
      obtain ⟨a, key, n, z1, z2, z3⟩ := hP.2 j kk vv e
      exact ⟨a, key, n, by simpa using z1, z2, .tail _ z3⟩
    intro b5 h5 tk5 ob5 F5 N5 lt5 lo5 q5
    refine T4.goDict fun oT j1 e1 => ?_
    obtain ⟨u2, v2, w2⟩ := D4'.cells 2 (by decide) (by decide)
    rw [cv2] at w2
    k_steps
    k_dflt (refine setD (knd := PySem.strKind PG w) (by k_asm) (by k_asm) (by k_mem) e1 (strKind_is _ _ _ _) (by simp) ?_)
    intro h6 n6 o6 F6 N6 m6 K6 q6
    have nb : ∀ a ∈ t.all σ, a ≠ b5 := fun a ha => by
      obtain ⟨o, ho⟩ := T4.mem_all ha
      exact Nat.ne_of_lt (lt5 _ (.tail _ ho))
    have H6 := TRep.closeSpot (T4.up (fun p hp => .tail _ (.tail _ hp))) nb lo5 (.head _) q5 K6 m6 q6
    have D10 := D4'.twin N6 H6 (fun a ha => (close_all ha).imp id fun e p hp => by rw [e]; exact lt5 p (.tail _ hp)) fun p hp hn => K6 p (.tail _ (.tail _ hp)) fun q => hn (by rw [q]; exact in_td)
    k_steps
    refine Mid.intro (g' := g9) (n' := n6) (l' := l9) (t' := { t with to := b5 }) (left' := left) (cv' := cv) (hv := .none) (dv := .none) (tr := tc) (rfl) (T9) (by k_asm) (by k_asm) (B9) (D10) (G.close.more (Nat.le_add_right b 10) (by omega)) (wi9) (rfl) (by walk_at "mine look") (by walk_at "mine look") (.inl ⟨rfl, rfl⟩) (wi9 ▸ cv1) (cv2) (cv3)
  · rintro i ys nw v I oI C oC D3 m2' h3 tk3 E' hi ⟨up, hP⟩ ⟨k', x, hk', hkv⟩ hC hx F3 N3 off ne
    obtain ⟨c, hc, rfl⟩ := map_at (f := fun c => Value.ref (t.sp c.1)) hk'
    have hvc := vat_at G.wf.keys hc
    obtain ⟨tv, rfl⟩ := Flat.int_inv (kdl_flat_int hkv)
    have H3 := hT.up up
    refine H3.goDict fun oT j1 e1 => ?_; refine H3.goFiles fun oG j2 e2 => ?_; refine H3.goOpens fun oP j3 e3 => ?_; have y1 := H3.low _ dd_td; have y2 := H3.low _ dd_tf; have y3 := H3.low _ dd_to
    have b2 := spot_some (t := t) hvc
    k_steps
    · refine compEnd_one (by k_asm) (by k_asm) ‹_ ∧ _ ∧ _ ∧ AllLt _ _› off (.tail _ (up _ jo)) ⟨fun p hp => .tail _ (up p hp), ?_⟩
      rw [sdel_take hc, if_neg (by assumption), List.map_append]
      exact hP.snoc (fun p hp => .tail _ hp) hkv (.head _)
    · refine LCg.CompEnd.intro (by k_asm) (by k_asm) nw (fun p hp => hp) off (up _ jo) ⟨up, ?_⟩
      rw [sdel_take hc, if_pos (by assumption)]
      exact hP


end
/-! E6 -/
section
open PyProof.V
set_option maxRecDepth 100000 in
set_option maxHeartbeats 8000000 in
theorem deed_6 {w : World} {dp un : Nat} {gd : Option (List Code)} {LI : Addr} {outer : List Env} {A₀ : Around} {base gI : Heap} {m mg mb : Str → Option Value} {news : List (Addr × Obj)} {s : Shared} {E : Value → Shared → Prop} {loose : List Str} {mean : ExcName → Option Value}
    (B : Below A₀ base outer gI) (F : Fr gI LI s.heap m) (N : News gI LI s.heap news) (XB : (hd.heap_1 w.params).In base) (TB : Top topProg loose mean mg mb base) {o : Obj} (ho : (hd.heap_1 w.params).lookup 215 = some o) (hdp : dp + 30 < recursionLimit) (hu : un + 300 < cLine)
    {l : WL} {t : TL} {f : FL} {σ : St} {left : Int → Str} {b : Nat} {lim : Int} {cv : Nat → Option Value} {R : Addr × Obj → Prop} {k : Int} {nm : Str} {kd : Int} {tc tn tk : Tok} (D : DS w news LI l t f σ σ left lim cv R) (G : Good σ left b) (hb : b + 10 ≤ 900) (hlim : lim ≤ 820) (C12 : CodeHd base 214 212)
    (cv1 : cv 1 = some (.ref l.wi)) (cv2 : cv 2 = some (.ref t.td)) (cv3 : cv 3 = some (.int k tc)) (cv6 : cv 6 = some (.str nm tn)) (hk : k = 1 ∨ k = 2 ∨ k = 3) (hn : IsName nm) (mf : m "feed" = some (.ref f.fd)) (mk : m "kind" = some (.int kd tk)) (hkd : kd = 6) :
    wpAny (model PySem.Challenge.rw_pq0172_01.row.prog w) (ktrTop dp un gd "_law_deed_right" (fnScope o) LI 215 (.ref 214) (cellsFrom (LI + 1) (fnScope o).names []) outer) (exec (fnStmt o 1) (envX "_law_deed_right" (fnScope o) LI 215 (.ref 214) (cellsFrom (LI + 1) (fnScope o).names [])))
      (Mid w (outer.filterMap (·.frame)) A₀ base outer gI LI l t f (b + 10) (lim + 1) k R s) E s := by
  revert XB; k_fill; intro XB
  have X := XB.keeps B.stays
  have T := TB.keeps B.stays
  have hbg : ∀ h, (hd.heap_1 w.params).In h → sysModules < h.objs.size := fun h X => Nat.lt_of_le_of_lt (by decide) (Heap.lt_size (X 215 _ ho))
  obtain rfl := lit_eq ho (by k_dflt k_is)
  clear ho
  dsimp only [fnScope, fnStmt, fnOf, List.getD, List.getElem?_cons_succ, List.getElem?_cons_zero, Option.getD]
  subst hkd
  have hu0 := D.uq
  refine fold_exec ?_
  intro M1 env1 A1 Q1
  refine D.goCells cv1 cv2 cv3 rfl rfl cv6 rfl rfl fun o1 m1 d1 o2 m2 d2 o3 m3 d3 o4 m4 d4 o5 m5 d5 o6 m6 d6 o7 m7 d7 o8 m8 d8 => ?_
  k_steps
  k_dflt (refine next_ok (by k_asm) (by k_asm) (by k_asm) XB TB rfl (by ktr_room) (by ktr_units) (D.F.mono ?_) (by omega) (by decide) (by decide) ?_)
  · intro p hp _; simp [hp]
  intro r4 t4 h6 tk6 n6 r4a r4b F6 N6 H6 K6
  have D6 := D.next N6 H6 fun p hp h => K6 p (.tail _ hp) h
  have mL := K6 _ (.head _) (D.new (by assumption)).2.2.1.symm
  clear m1 d1 o1 m2 d2 o2 m3 d3 o3 m4 d4 o4 m5 d5 o5 m6 d6 o6 m7 d7 o7 m8 d8 o8
  refine D6.goCells cv1 cv2 cv3 rfl rfl cv6 rfl rfl fun o1 m1 d1 o2 m2 d2 o3 m3 d3 o4 m4 d4 o5 m5 d5 o6 m6 d6 o7 m7 d7 o8 m8 d8 => ?_
  k_steps
  k_dflt (refine pick_h (News.isList (by k_asm) mL) r4a (by simpa using r4b) (Nat.le_of_ble_eq_true rfl) ?_)
  intro v hpick
  have hv' : v = .none ∨ ∃ (n₀ : Nat) (tn : Tok), v = .int n₀ tn ∧ n₀ ≤ 1000 := by
    rcases List.mem_cons.mp hpick with rfl | hpick
    · exact .inl rfl
    rcases List.mem_cons.mp hpick with rfl | hpick
    · exact .inr ⟨1, _, rfl, by decide⟩
    rcases List.mem_cons.mp hpick with rfl | hpick
    · exact .inr ⟨3, _, rfl, by decide⟩
    rcases List.mem_cons.mp hpick with rfl | hpick
    · exact .inr ⟨0, _, rfl, by decide⟩
    · cases hpick
  clear mL hpick
  k_steps
  k_dflt (refine storeC (by k_asm) (by k_asm) (by rfl) m4 (by assumption) ?_)
  intro h7 n7 o7 F7 N7 m' K7 d'
  obtain ⟨cv7, cv1, cv2, cv3, cv6, cv8, D7⟩ := D6.put N7 (by decide) K7 m' d' cv1 cv2 cv3 cv6
  clear m' d' K7 D6 K6 H6 N6 F6 D hu0
  clear m1 d1 o1 m2 d2 o2 m3 d3 o3 m4 d4 o4 m5 d5 o5 m6 d6 o6 m7 d7 o7 m8 d8 o8
  refine D7.goCells cv1 cv2 cv3 cv8 rfl cv6 rfl rfl fun o1 m1 d1 o2 m2 d2 o3 m3 d3 o4 m4 d4 o5 m5 d5 o6 m6 d6 o7 m7 d7 o8 m8 d8 => ?_
  k_steps
  rcases hv' with rfl | ⟨n₀, tn₀, rfl, hn0⟩
  · k_dflt (refine lam_eval (P := 212) (c := 214) (qual := "_law_deed_right.<locals>.<lambda>") (by k_asm) (by k_asm) (by k_asm) (C12.keeps B.stays) D7.t12 rfl (by rfl) (by rfl) (by rfl) ?_)
    intro f8 c8 oc8 vs8 tt8 pm8 ctv8 h8 tk8 n8 F8 N8 a1 a2 a3 a4 Q128 K8 lt8
    have D8 := D7.lam N8 Q128 K8
    clear m1 d1 o1 m2 d2 o2 m3 d3 o3 m4 d4 o4 m5 d5 o5 m6 d6 o6 m7 d7 o7 m8 d8 o8
    refine D8.goCells cv1 cv2 cv3 cv8 rfl cv6 rfl rfl fun o1 m1 d1 o2 m2 d2 o3 m3 d3 o4 m4 d4 o5 m5 d5 o6 m6 d6 o7 m7 d7 o8 m8 d8 => ?_
    clear D7 Q128 K8 lt8
    k_steps
    k_dflt (refine heard_ok (V := fun v n' => ∃ σ' l', DS w n' LI l' t f σ' σ left (lim + 1) cv7 R ∧ l'.wi = l.wi ∧ PWgot σ k (· = []) RowR v σ') (X := fun code => rdX σ k (· = []) code) (by k_asm) (by k_asm) (by k_asm) XB TB rfl (by ktr_room) (by ktr_units) ?_ (fun code hc => rdX_len hc) a1 ?_)
    · intro dpA unA gdA cnA csA LA aA ccdA clA outerA AA hA mA sA QA EA BA FA NA hkA hdA huA retA heA
      have XA := XB.keeps BA.stays
      have TA := TB.keeps BA.stays
      refine wpAny_call ?_
      k_dflt (walk_at "mine lam")
      k_steps
      k_dflt (refine read_gen (by k_asm) (by k_asm) (by k_asm) XB TB rfl (by ktr_room) (by ktr_units) D8.W G  ?_ ?_)
      · intro code hc e' h' tk' g' n' lo' T' F' N' B' x' c' l'
        have he3 := heA code hc
        k_steps
        k_dflt (walk_at "mine err")
      · intro c x u n hv hm hf hne hr tr h' tk' n' F' N' W' c'
        k_steps
        exact retA _ _ _ n' (by k_asm) (by k_asm) ⟨_, l, D8.world N' W' (fun a ha => .inl (by rw [← all_sset (l := l) (vat_some_key hv)]; exact ha)) c', rfl, c, x, u, n, hv, hm, hf, hne, hr, ⟨tr, rfl⟩, rfl⟩
    intro v9 h9 tk9 g9 n9 T9 F9 N9 B9 R9
    have X9 := XB.keeps B9.stays
    have P9 := TB.keeps B9.stays
    obtain ⟨σ9, l9, D9, wi9, R9⟩ := R9.ds N9 D8
    clear m1 d1 o1 m2 d2 o2 m3 d3 o3 m4 d4 o4 m5 d5 o5 m6 d6 o6 m7 d7 o7 m8 d8 o8
    refine D9.goCells cv1 cv2 cv3 cv8 rfl cv6 rfl rfl fun o1 m1 d1 o2 m2 d2 o3 m3 d3 o4 m4 d4 o5 m5 d5 o6 m6 d6 o7 m7 d7 o8 m8 d8 => ?_
    clear D8 a1 a2 a3 a4 X T
    (try clear F8); (try clear N8)
    k_steps
    k_dflt (refine row_got (by k_asm) (by k_asm) (by k_asm) XB TB rfl (by ktr_room) (by ktr_units) D9.T G (by omega) ?_)
    intro dv h10 tk10 n10 t10 σ10 left10 F10 N10 T10 K10 S10 e10 R10
    have D10 := D9.twin N10 T10 S10 K10
    obtain ⟨rfl, G10, sv⟩ := fin_got rowR_one rowR_len G (by omega) R9 R10
    clear m1 d1 o1 m2 d2 o2 m3 d3 o3 m4 d4 o4 m5 d5 o5 m6 d6 o6 m7 d7 o7 m8 d8 o8
    k_steps
    refine Mid.intro (g' := g9) (l' := l9) (t' := t10) (left' := left10) (cv' := cv7) (hv := v9) (dv := dv) (tr := tc) (rfl) (T9) (by k_asm) (by k_asm) (B9) (D10.up (by k_asm) (by intro p hp; first | exact hp | exact .tail _ hp)) (G10) (wi9) (e10) (by walk_at "mine look") (by walk_at "mine look") (sv) (wi9 ▸ cv1) (e10 ▸ cv2) (cv3)
  · k_dflt (refine lam_eval (P := 212) (c := 214) (qual := "_law_deed_right.<locals>.<lambda>") (by k_asm) (by k_asm) (by k_asm) (C12.keeps B.stays) D7.t12 rfl (by rfl) (by rfl) (by rfl) ?_)
    intro f8 c8 oc8 vs8 tt8 pm8 ctv8 h8 tk8 n8 F8 N8 a1 a2 a3 a4 Q128 K8 lt8
    have D8 := D7.lam N8 Q128 K8
    clear m1 d1 o1 m2 d2 o2 m3 d3 o3 m4 d4 o4 m5 d5 o5 m6 d6 o6 m7 d7 o7 m8 d8 o8
    refine D8.goCells cv1 cv2 cv3 cv8 rfl cv6 rfl rfl fun o1 m1 d1 o2 m2 d2 o3 m3 d3 o4 m4 d4 o5 m5 d5 o6 m6 d6 o7 m7 d7 o8 m8 d8 => ?_
    clear D7 Q128 K8 lt8
    k_steps
    k_dflt (refine heard_ok (V := fun v n' => ∃ σ' l', DS w n' LI l' t f σ' σ left (lim + 1) cv7 R ∧ l'.wi = l.wi ∧ PWgot σ k (fun l => l.length < n₀) (fun l v n => v = Sg (l.take n₀) ∧ n = n₀) v σ') (X := fun code => rdX σ k (fun l => l.length < n₀) code) (by k_asm) (by k_asm) (by k_asm) XB TB rfl (by ktr_room) (by ktr_units) ?_ (fun code hc => rdX_len hc) a1 ?_)
    · intro dpA unA gdA cnA csA LA aA ccdA clA outerA AA hA mA sA QA EA BA FA NA hkA hdA huA retA heA
      have XA := XB.keeps BA.stays
      have TA := TB.keeps BA.stays
      refine wpAny_call ?_
      k_dflt (walk_at "mine lam")
      k_steps
      k_dflt (refine signs_gen (by k_asm) (by k_asm) (by k_asm) XB TB rfl (by ktr_room) (by ktr_units) D8.W G hn0 ?_ ?_)
      · intro code hc e' h' tk' g' n' lo' T' F' N' B' x' c' l'
        have he3 := heA code hc
        k_steps
        k_dflt (walk_at "mine err")
      · intro c x hv hm hf hle tr h' tk' n' F' N' W' c'
        k_steps
        exact retA _ _ _ n' (by k_asm) (by k_asm) ⟨_, l, D8.world N' W' (fun a ha => .inl (by rw [← all_sset (l := l) (vat_some_key hv)]; exact ha)) c', rfl, c, x, _, n₀, hv, hm, hf, Nat.not_lt.mpr hle, ⟨rfl, rfl⟩, ⟨tr, rfl⟩, rfl⟩
    intro v9 h9 tk9 g9 n9 T9 F9 N9 B9 R9
    have X9 := XB.keeps B9.stays
    have P9 := TB.keeps B9.stays
    obtain ⟨σ9, l9, D9, wi9, R9⟩ := R9.ds N9 D8
    clear m1 d1 o1 m2 d2 o2 m3 d3 o3 m4 d4 o4 m5 d5 o5 m6 d6 o6 m7 d7 o7 m8 d8 o8
    refine D9.goCells cv1 cv2 cv3 cv8 rfl cv6 rfl rfl fun o1 m1 d1 o2 m2 d2 o3 m3 d3 o4 m4 d4 o5 m5 d5 o6 m6 d6 o7 m7 d7 o8 m8 d8 => ?_
    clear D8 a1 a2 a3 a4 X T
    (try clear F8); (try clear N8)
    k_steps
    k_dflt (refine signs_got (by k_asm) (by k_asm) (by k_asm) XB TB rfl (by ktr_room) (by ktr_units) D9.T G  ?_)
    intro dv h10 tk10 n10 t10 σ10 left10 F10 N10 T10 K10 S10 e10 R10
    have D10 := D9.twin N10 T10 S10 K10
    obtain ⟨rfl, G10, sv⟩ := fin_got (E := fun l => l.length < n₀) (V := fun l v n => v = Sg (l.take n₀) ∧ n = n₀) (fun _ _ _ _ _ h h' => ⟨h.1.trans h'.1.symm, h.2.trans h'.2.symm⟩) (fun _ _ _ h h' => h'.2 ▸ Nat.not_lt.mp h) G (by omega) R9 R10
    clear m1 d1 o1 m2 d2 o2 m3 d3 o3 m4 d4 o4 m5 d5 o5 m6 d6 o6 m7 d7 o7 m8 d8 o8
    k_steps
    refine Mid.intro (g' := g9) (l' := l9) (t' := t10) (left' := left10) (cv' := cv7) (hv := v9) (dv := dv) (tr := tc) (rfl) (T9) (by k_asm) (by k_asm) (B9) (D10.up (by k_asm) (by intro p hp; first | exact hp | exact .tail _ hp)) (G10) (wi9) (e10) (by walk_at "mine look") (by walk_at "mine look") (sv) (wi9 ▸ cv1) (e10 ▸ cv2) (cv3)


end
/-! E7 -/
section
open PyProof.V
set_option maxRecDepth 100000 in
set_option maxHeartbeats 8000000 in
theorem deed_7 {w : World} {dp un : Nat} {gd : Option (List Code)} {LI : Addr} {outer : List Env} {A₀ : Around} {base gI : Heap} {m mg mb : Str → Option Value} {news : List (Addr × Obj)} {s : Shared} {E : Value → Shared → Prop} {loose : List Str} {mean : ExcName → Option Value}
    (B : Below A₀ base outer gI) (F : Fr gI LI s.heap m) (N : News gI LI s.heap news) (XB : (hd.heap_1 w.params).In base) (TB : Top topProg loose mean mg mb base) {o : Obj} (ho : (hd.heap_1 w.params).lookup 215 = some o) (hdp : dp + 30 < recursionLimit) (hu : un + 300 < cLine)
    {l : WL} {t : TL} {f : FL} {σ : St} {left : Int → Str} {b : Nat} {lim : Int} {cv : Nat → Option Value} {R : Addr × Obj → Prop} {k : Int} {nm : Str} {kd : Int} {tc tn tk : Tok} (D : DS w news LI l t f σ σ left lim cv R) (G : Good σ left b) (hb : b + 10 ≤ 900) (hlim : lim ≤ 820) (C12 : CodeHd base 214 212)
    (cv1 : cv 1 = some (.ref l.wi)) (cv2 : cv 2 = some (.ref t.td)) (cv3 : cv 3 = some (.int k tc)) (cv6 : cv 6 = some (.str nm tn)) (hk : k = 1 ∨ k = 2 ∨ k = 3) (hn : IsName nm) (mf : m "feed" = some (.ref f.fd)) (mk : m "kind" = some (.int kd tk)) (hkd : kd = 7) :
    wpAny (model PySem.Challenge.rw_pq0172_01.row.prog w) (ktrTop dp un gd "_law_deed_right" (fnScope o) LI 215 (.ref 214) (cellsFrom (LI + 1) (fnScope o).names []) outer) (exec (fnStmt o 1) (envX "_law_deed_right" (fnScope o) LI 215 (.ref 214) (cellsFrom (LI + 1) (fnScope o).names [])))
      (Mid w (outer.filterMap (·.frame)) A₀ base outer gI LI l t f (b + 10) (lim + 1) k R s) E s := by
  revert XB; k_fill; intro XB
  have X := XB.keeps B.stays
  have T := TB.keeps B.stays
  have hbg : ∀ h, (hd.heap_1 w.params).In h → sysModules < h.objs.size := fun h X => Nat.lt_of_le_of_lt (by decide) (Heap.lt_size (X 215 _ ho))
  obtain rfl := lit_eq ho (by k_dflt k_is)
  clear ho
  dsimp only [fnScope, fnStmt, fnOf, List.getD, List.getElem?_cons_succ, List.getElem?_cons_zero, Option.getD]
  subst hkd
  have hu0 := D.uq
  refine fold_exec ?_
  intro M1 env1 A1 Q1
  refine D.goCells cv1 cv2 cv3 rfl rfl cv6 rfl rfl fun o1 m1 d1 o2 m2 d2 o3 m3 d3 o4 m4 d4 o5 m5 d5 o6 m6 d6 o7 m7 d7 o8 m8 d8 => ?_
  k_steps
  k_dflt (refine next_ok (by k_asm) (by k_asm) (by k_asm) XB TB rfl (by ktr_room) (by ktr_units) (D.F.mono ?_) (by omega) (by decide) (by decide) ?_)
  · intro p hp _; simp [hp]
  intro r4 t4 h6 tk6 n6 r4a r4b F6 N6 H6 K6
  have D6 := D.next N6 H6 fun p hp h => K6 p (.tail _ hp) h
  have mL := K6 _ (.head _) (D.new (by assumption)).2.2.1.symm
  clear m1 d1 o1 m2 d2 o2 m3 d3 o3 m4 d4 o4 m5 d5 o5 m6 d6 o6 m7 d7 o7 m8 d8 o8
  refine D6.goCells cv1 cv2 cv3 rfl rfl cv6 rfl rfl fun o1 m1 d1 o2 m2 d2 o3 m3 d3 o4 m4 d4 o5 m5 d5 o6 m6 d6 o7 m7 d7 o8 m8 d8 => ?_
  k_steps
  k_dflt (refine pick_h (News.isList (by k_asm) mL) r4a (by simpa using r4b) (Nat.le_of_ble_eq_true rfl) ?_)
  intro v hpick
  obtain ⟨new, hnv, hnw⟩ : ∃ new : Option Str, newV v new ∧ ∀ nw, new = some nw → IsName nw ∨ nw = "D" := by
    rcases List.mem_cons.mp hpick with rfl | hpick
    · exact ⟨none, rfl, fun _ e => nomatch e⟩
    rcases List.mem_cons.mp hpick with rfl | hpick
    · exact ⟨some "A", ⟨_, rfl⟩, fun nw e => .inl (.inl (Option.some.inj e).symm)⟩
    rcases List.mem_cons.mp hpick with rfl | hpick
    · exact ⟨some "D", ⟨_, rfl⟩, fun nw e => .inr (Option.some.inj e).symm⟩
    · cases hpick
  clear hpick
  clear mL
  k_steps
  k_dflt (refine storeC (by k_asm) (by k_asm) (by rfl) m7 (by assumption) ?_)
  intro h7 n7 o7 F7 N7 m' K7 d'
  obtain ⟨cv7, cv1, cv2, cv3, cv6, cv8, D7⟩ := D6.put N7 (by decide) K7 m' d' cv1 cv2 cv3 cv6
  clear m' d' K7 D6 K6 H6 N6 F6 D hu0
  clear m1 d1 o1 m2 d2 o2 m3 d3 o3 m4 d4 o4 m5 d5 o5 m6 d6 o6 m7 d7 o7 m8 d8 o8
  refine D7.goCells cv1 cv2 cv3 rfl rfl cv6 cv8 rfl fun o1 m1 d1 o2 m2 d2 o3 m3 d3 o4 m4 d4 o5 m5 d5 o6 m6 d6 o7 m7 d7 o8 m8 d8 => ?_
  k_steps
  k_dflt (refine lam_eval (P := 212) (c := 214) (qual := "_law_deed_right.<locals>.<lambda>") (by k_asm) (by k_asm) (by k_asm) (C12.keeps B.stays) D7.t12 rfl (by rfl) (by rfl) (by rfl) ?_)
  intro f8 c8 oc8 vs8 tt8 pm8 ctv8 h8 tk8 n8 F8 N8 a1 a2 a3 a4 Q128 K8 lt8
  have D8 := D7.lam N8 Q128 K8
  clear m1 d1 o1 m2 d2 o2 m3 d3 o3 m4 d4 o4 m5 d5 o5 m6 d6 o6 m7 d7 o7 m8 d8 o8
  refine D8.goCells cv1 cv2 cv3 rfl rfl cv6 cv8 rfl fun o1 m1 d1 o2 m2 d2 o3 m3 d3 o4 m4 d4 o5 m5 d5 o6 m6 d6 o7 m7 d7 o8 m8 d8 => ?_
  clear D7 Q128 K8 lt8
  k_steps
  k_dflt (refine heard_ok (V := fun v n' => ∃ σ' l', DS w n' LI l' t f σ' σ left (lim + 1) cv7 R ∧ l'.wi = l.wi ∧ PWnam σ nm new v σ') (X := fun code => nmX σ nm new code) (by k_asm) (by k_asm) (by k_asm) XB TB rfl (by ktr_room) (by ktr_units) ?_ (fun code hc => nmX_len hc) a1 ?_)
  · intro dpA unA gdA cnA csA LA aA ccdA clA outerA AA hA mA sA QA EA BA FA NA hkA hdA huA retA heA
    have XA := XB.keeps BA.stays
    have TA := TB.keeps BA.stays
    refine wpAny_call ?_
    k_dflt (walk_at "mine lam")
    cases new with
    | none =>
      obtain rfl := hnv
      k_steps
      k_dflt (refine kill_gen (by k_asm) (by k_asm) (by k_asm) XB TB rfl (by ktr_room) (by ktr_units) D8.W G  ?_ ?_)
      · intro code hc e' h' tk' g' n' lo' T' F' N' B' x' c' l'
        have he3 := heA code (.inl ⟨rfl, hc⟩)
        k_steps
        k_dflt (walk_at "mine err")
      · intro x hf hq h' tk' n' F' N' W' c'
        k_steps
        exact retA _ _ _ n' (by k_asm) (by k_asm) ⟨_, l, D8.world N' W' (fun a ha => .inl ha) c', rfl, rfl, x, hf, hq, .inl ⟨rfl, rfl⟩⟩
    | some nw =>
      obtain ⟨tw, rfl⟩ := hnv
      k_steps
      k_dflt (refine ren_gen (by k_asm) (by k_asm) (by k_asm) XB TB rfl (by ktr_room) (by ktr_units) D8.W G (hnw _ rfl) ?_ ?_)
      · intro code hc e' h' tk' g' n' lo' T' F' N' B' x' c' l'
        have he3 := heA code (.inr ⟨nw, rfl, hc⟩)
        k_steps
        k_dflt (walk_at "mine err")
      · intro x hf hq hw h' tk' n' F' N' W' c'
        k_steps
        exact retA _ _ _ n' (by k_asm) (by k_asm) ⟨_, l, D8.world N' W' (fun a ha => .inl ha) c', rfl, rfl, x, hf, hq, .inr ⟨nw, rfl, hw, rfl⟩⟩
  intro v9 h9 tk9 g9 n9 T9 F9 N9 B9 R9
  have X9 := XB.keeps B9.stays
  have P9 := TB.keeps B9.stays
  obtain ⟨σ9, l9, D9, wi9, R9⟩ := R9.ds N9 D8
  clear m1 d1 o1 m2 d2 o2 m3 d3 o3 m4 d4 o4 m5 d5 o5 m6 d6 o6 m7 d7 o7 m8 d8 o8
  refine D9.goCells cv1 cv2 cv3 rfl rfl cv6 cv8 rfl fun o1 m1 d1 o2 m2 d2 o3 m3 d3 o4 m4 d4 o5 m5 d5 o6 m6 d6 o7 m7 d7 o8 m8 d8 => ?_
  clear D8 a1 a2 a3 a4 X T
  (try clear F8); (try clear N8)
  k_steps
  k_dflt (refine named_gen (by k_asm) (by k_asm) (by k_asm) XB TB rfl (by ktr_room) (by ktr_units) D9.T G hnv ?_)
  intro dv h10 tk10 n10 t10 σ10 left10 F10 N10 T10 K10 S10 e10 R10
  have D10 := D9.twin N10 T10 S10 K10
  obtain ⟨rfl, G10, sv⟩ := fin_named G (by omega) hnw R9 R10
  clear m1 d1 o1 m2 d2 o2 m3 d3 o3 m4 d4 o4 m5 d5 o5 m6 d6 o6 m7 d7 o7 m8 d8 o8
  k_steps
  refine Mid.intro (g' := g9) (l' := l9) (t' := t10) (left' := left10) (cv' := cv7) (hv := v9) (dv := dv) (tr := tc) (rfl) (T9) (by k_asm) (by k_asm) (B9) (D10.up (by k_asm) (by intro p hp; first | exact hp | exact .tail _ hp)) (G10) (wi9) (e10) (by walk_at "mine look") (by walk_at "mine look") (sv) (wi9 ▸ cv1) (e10 ▸ cv2) (cv3)


end
/-! D4 -/
section
open PyProof.V
def Out (news : List (Addr × Obj)) (l : WL) (t : TL) (f : FL) (σ : St) (p : Addr × Obj) : Prop := p ∈ news ∧ p.1 ∉ l.all σ ∧ p.1 ∉ t.all σ ∧ p.1 ≠ f.fd ∧ p.1 ≠ 205 ∧ p.1 ≠ 212
theorem All.enter {w : World} {news n' : List (Addr × Obj)} {LI L : Addr} {h₀ h' : Heap} {l : WL} {t : TL} {f : FL} {σ : St} {left : Int → Str} {b : Nat} {lim : Int} {cv : Nat → Option Value} (H : All w news l t f σ left b lim) (N : News h₀ L h' n') (k : ∀ p ∈ news, p ∈ n') (lI : ∀ p ∈ news, p.1 < LI)
    (cells : ∀ i : Nat, 1 ≤ i → i ≤ 8 → ∃ o, (LI + i, o) ∈ n' ∧ o.data = .cell (cv i)) : DS w n' LI l t f σ σ left lim cv (Out news l t f σ) := by
  have no : ∀ a, a < LI → ¬ IsCell a LI := fun a h ⟨i, _, _, e⟩ => by rw [e] at h; exact absurd h (Nat.not_lt.mpr (Nat.le_add_right LI i))
  obtain ⟨turn, tk, vs, ns, n1, n2, m1, m2, _⟩ := H.F.has
  obtain ⟨tl, mt, _⟩ := H.t12
  exact ⟨H.W.mono k, H.T.up k, H.F.mono fun p hp _ => k p hp, H.sep, H.fW, H.fT, H.hiW, H.hiT, H.hiF, H.t5.mono fun p hp _ _ => k p hp, H.t12.mono fun p hp _ _ => k p hp, lI _ mt,
    fun a ha => no a (by obtain ⟨o, ho⟩ := H.W.mem_all ha; exact lI _ ho), fun a ha => no a (by obtain ⟨o, ho⟩ := H.T.mem_all ha; exact lI _ ho), ⟨no _ (lI _ m1), no _ (lI _ m2)⟩, cells, uq_of N,
    fun p hp => ⟨k p hp.1, hp.2.1, hp.2.2.1, hp.2.2.2.1, hp.2.2.2.2.1, hp.2.2.2.2.2, no _ (lI p hp.1)⟩⟩
theorem DS.leave {w : World} {news : List (Addr × Obj)} {LI : Addr} {l : WL} {t : TL} {f : FL} {σ : St} {left : Int → Str} {b : Nat} {lim : Int} {cv : Nat → Option Value} {R : Addr × Obj → Prop} (D : DS w news LI l t f σ σ left lim cv R) (G : Good σ left b) : All w news l t f σ left b lim :=
  ⟨D.W, D.T, D.F, G, D.sep, D.fW, D.fT, D.hiW, D.hiT, D.hiF, D.t5, D.t12⟩
theorem FRep.more {news : List (Addr × Obj)} {f : FL} {lim lim' : Int} (H : FRep news f lim) (h : lim ≤ lim') : FRep news f lim' :=
  ⟨let ⟨turn, tk, vs, ns, n1, n2, a, b, c, d, e, g⟩ := H.has; ⟨turn, tk, vs, ns, n1, n2, a, b, c, d, Int.le_trans e h, g⟩, H.ne⟩
theorem Mid.more {w : World} {fs : List Addr} {A : Around} {base : Heap} {outer : List Env} {g : Heap} {LI : Addr} {l : WL} {t : TL} {f : FL} {b : Nat} {lim lim' : Int} {k : Int} {R : Addr × Obj → Prop} {s : Shared} {fl : Flow} {s' : Shared} (h : Mid w fs A base outer g LI l t f b lim k R s fl s') (hl : lim ≤ lim') : Mid w fs A base outer g LI l t f b lim' k R s fl s' := by
  obtain ⟨e, h', tk', g', n', m', l', t', σ', left', cv', hv, dv, tr, e2, a1, a2, a3, a4, D, r⟩ := h
  exact ⟨e, h', tk', g', n', m', l', t', σ', left', cv', hv, dv, tr, e2, a1, a2, a3, a4, { D with F := D.F.more hl }, r⟩
theorem mid_step {α : Type} {M : Model} {A : Around} {E : Value → Shared → Prop} {s : Shared} {x : Sem α} {Q : α → Shared → Prop} (Rs : Shared → α → Shared → Prop) (h : wpAny M A x (Rs s) E s) (k : ∀ f s', Rs s f s' → Q f s') : Here (wpAny M A x Q E s) := wpAny_mono h k fun _ _ e => e
theorem with_lit {α : Type} {x : Option α} {P : Prop} {a : α} (h : x = some a) (k : x = some a → P) : P := k h
end
local macro_rules | `(tactic| walk_at "exec If Compare cons cons") => `(tactic| (k_here; refine here ?_))
section
open PyProof.V
set_option maxRecDepth 100000 in
set_option maxHeartbeats 8000000 in
theorem deed_ok {w : World} {dp un : Nat} {gd : Option (List Code)} {cn : Str} {cs : Scope} {a : Addr} {ccd : Value} {cl : List (Str × Addr)} {outer : List Env} {A₀ : Around} {base h₀ : Heap} {L : Addr} {m mg mb : Str → Option Value}
    {news : List (Addr × Obj)} {s : Shared} {Q E : Value → Shared → Prop} {loose : List Str} {mean : ExcName → Option Value}
    (B : Below A₀ base outer h₀) (F : Fr h₀ L s.heap m) (N : News h₀ L s.heap news) (XB : (hd.heap_1 w.params).In base) (TB : Top topProg loose mean mg mb base) (hk : cs.kind = .function) (hdp : dp + 32 < recursionLimit) (hu : un + 320 < cLine)
    {l : WL} {t : TL} {f : FL} {σ : St} {left : Int → Str} {b : Nat} {lim : Int} (C5 : CodeHd base 209 205) (C12 : CodeHd base 214 212) (H : All w news l t f σ left b lim) (hb : b + 10 ≤ 900) (hlim : lim ≤ 800)
    (ret : ∀ h' tk' g' news' l' t' σ' left', KtsTurn (outer.filterMap (·.frame)) h₀ g' → Fr g' L h' m → News g' L h' news' → Below A₀ base outer g' → All w news' l' t' f σ' left' (b + 10) (lim + 4) → l'.wi = l.wi → t'.td = t.td →
      (∀ p, Out news l t f σ p → p ∈ news' ∧ p.1 ∉ l'.all σ' ∧ p.1 ∉ t'.all σ') → Q (.bool true) { s with heap := h', toks := tk' }) :
    wpAny (model PySem.Challenge.rw_pq0172_01.row.prog w) (ktrTop dp un gd cn cs L a ccd cl outer) (call (.ref 215) [.ref f.fd, .ref l.wi, .ref t.td]) Q E s := by
  revert XB; k_fill; intro XB
  have X := XB.keeps B.stays
  have T := TB.keeps B.stays
  refine wpAny_call ?_
  k_dflt (refine' defCT ?k1 ?k2 ?k3 ?k4 ?k5 ?kA ?kF ?kK ?k6 ?k7 ?k8 ?k9 ?kB ?kD ?_ ?c2 ?c3 ?c4; (case kA => exact rfl); (case kF => exact rfl); (case kK => assumption); (case k1 => k_asm); (case k2 => k_asm); (case k3 => k_asm); (case k4 => k_asm); (case k5 => k_asm); (case k6 => k_is); (case k7 => k_is); (case k8 => ktr_room); (case k9 => exact BindsTo.of_eq rfl); (case kB => exact rfl); (case kD => decide +kernel); (case c2 => exact rfl); (case c3 => exact rfl); (case c4 => exact rfl); k_whole)
  intro gI LI hI tkI cellsI FGI FI NI YI BI XI TI lI
  k_cells YI
  try simp only [List.cons_append, List.nil_append] at NI
  try dsimp only
  try k_fold
  walk_at "mine fold"
  have D0 : DS w _ LI l t f σ σ left lim (fun i => if i = 1 then some (.ref l.wi) else if i = 2 then some (.ref t.td) else none) (Out news l t f σ) := H.enter NI (fun p hp => by simp [hp]) lI fun i h1 h2 => by
    obtain rfl | rfl | rfl | rfl | rfl | rfl | rfl | rfl : i = 1 ∨ i = 2 ∨ i = 3 ∨ i = 4 ∨ i = 5 ∨ i = 6 ∨ i = 7 ∨ i = 8 := by omega
    · exact ⟨_, .tail _ (.tail _ (.tail _ (.tail _ (.tail _ (.tail _ (.tail _ (.head _))))))), by assumption⟩
    · exact ⟨_, .tail _ (.tail _ (.tail _ (.tail _ (.tail _ (.tail _ (.head _)))))), by assumption⟩
    · exact ⟨_, .tail _ (.tail _ (.tail _ (.tail _ (.tail _ (.head _))))), by assumption⟩
    · exact ⟨_, .tail _ (.tail _ (.tail _ (.tail _ (.head _)))), by assumption⟩
    · exact ⟨_, .tail _ (.tail _ (.tail _ (.head _))), by assumption⟩
    · exact ⟨_, .tail _ (.tail _ (.head _)), by assumption⟩
    · exact ⟨_, .tail _ (.head _), by assumption⟩
    · exact ⟨_, .head _, by assumption⟩
  k_steps
  k_dflt (refine next_ok (by k_asm) (by k_asm) (by k_asm) XB TB rfl (by ktr_room) (by ktr_units) D0.F (by omega) (by decide) (by decide) ?_)
  intro r1 t1 h1 tk1 n1 r1a r1b F1 N1 H1 K1
  have D1 := D0.next N1 H1 K1
  clear D0 H1 K1
  k_steps
  k_dflt (refine next_ok (by k_asm) (by k_asm) (by k_asm) XB TB rfl (by ktr_room) (by ktr_units) D1.F (by omega) (by decide) (by decide) ?_)
  intro r2 t2 h2 tk2 n2 r2a r2b F2 N2 H2 K2
  have D2 := D1.next N2 H2 K2
  clear D1 H2 K2
  k_steps
  k_dflt (refine next_ok (by k_asm) (by k_asm) (by k_asm) XB TB rfl (by ktr_room) (by ktr_units) D2.F (by omega) (by decide) (by decide) ?_)
  intro r3 t3 h3 tk3 n3 r3a r3b F3 N3 H3 K3
  have D3 := D2.next N3 H3 K3
  clear D2 H3 K3
  k_steps
  obtain ⟨o3, u3, v3⟩ := D3.cells 3 (by decide) (by decide)
  k_dflt (refine storeC (by k_asm) (by k_asm) (by rfl) (.tail _ u3) (by assumption) ?_)
  intro h4 n4 o4 F4 N4 m4 K4 d4
  have D4 := D3.store N4 (by decide) (by decide) (fun p hp h => K4 p (.tail _ hp) h) m4 d4
  clear D3 K4 m4 d4 u3 v3
  k_steps
  obtain ⟨o6, u6, v6⟩ := D4.cells 6 (by decide) (by decide)
  k_dflt (refine storeC (by k_asm) (by k_asm) (by rfl) u6 (by assumption) ?_)
  intro h5 n5 o5 F5 N5 m5 K5 d5
  have D5 := D4.store N5 (by decide) (by decide) K5 m5 d5
  clear D4 K5 m5 d5 u6 v6
  k_steps
  refine with_lit (x := (hd.heap_1 w.params).lookup 215) (by k_dflt k_is) fun ho => ?_
  refine mid_step (Mid w ((envX cn cs L a ccd cl :: outer).filterMap (·.frame)) (ktrTop dp un gd cn cs L a ccd cl outer) base (envX cn cs L a ccd cl :: outer) gI LI l t f (b + 10) (lim + 4) (1 + r2) (Out news l t f σ)) ?z1 ?z2
  case z1 =>
    have hr : (0 ≤ r1 ∧ r1 < 3) ∨ r1 = 3 ∨ r1 = 4 ∨ r1 = 5 ∨ r1 = 6 ∨ r1 = 7 := by omega
    have hn := abc_name r3a r3b
    have hk3 := chan_three r2a r2b
    have hl : lim + 1 + 1 + 1 ≤ 820 := by omega
    clear r1a r1b r2a r2b r3a r3b lI C5 ret
    rcases hr with ⟨hr, hr'⟩ | hr | hr | hr | hr | hr
    · k_dflt (refine' wpAny_mono (deed_0 BI F5 N5 XB TB ho ?d0 ?u0 D5 H.good hb hl C12 rfl rfl rfl rfl hk3 hn rfl rfl hr hr') ?m0 fun _ _ e => e; (case d0 => ktr_room); (case u0 => ktr_units); (case m0 => exact fun _ _ z => z.more (by omega)))
    · k_dflt (refine' wpAny_mono (deed_3 BI F5 N5 XB TB ho ?d0 ?u0 D5 H.good hb hl C12 rfl rfl rfl rfl hk3 hn rfl rfl hr) ?m0 fun _ _ e => e; (case d0 => ktr_room); (case u0 => ktr_units); (case m0 => exact fun _ _ z => z.more (by omega)))
    · k_dflt (refine' wpAny_mono (deed_4 BI F5 N5 XB TB ho ?d0 ?u0 D5 H.good hb hl C12 rfl rfl rfl rfl hk3 hn rfl rfl hr) ?m0 fun _ _ e => e; (case d0 => ktr_room); (case u0 => ktr_units); (case m0 => exact fun _ _ z => z.more (by omega)))
    · k_dflt (refine' wpAny_mono (deed_5 BI F5 N5 XB TB ho ?d0 ?u0 D5 H.good hb hl C12 rfl rfl rfl rfl hk3 hn rfl rfl hr) ?m0 fun _ _ e => e; (case d0 => ktr_room); (case u0 => ktr_units); (case m0 => exact fun _ _ z => z.more (by omega)))
    · k_dflt (refine' wpAny_mono (deed_6 BI F5 N5 XB TB ho ?d0 ?u0 D5 H.good hb hl C12 rfl rfl rfl rfl hk3 hn rfl rfl hr) ?m0 fun _ _ e => e; (case d0 => ktr_room); (case u0 => ktr_units); (case m0 => exact fun _ _ z => z.more (by omega)))
    · k_dflt (refine' wpAny_mono (deed_7 BI F5 N5 XB TB ho ?d0 ?u0 D5 H.good hb hl C12 rfl rfl rfl rfl hk3 hn rfl rfl hr) ?m0 fun _ _ e => e; (case d0 => ktr_room); (case u0 => ktr_units); (case m0 => exact fun _ _ z => z.more (by omega)))
  case z2 =>
    clear D5 F5 N5 ho
    rintro fl s' ⟨rfl, h6, tk6, g6, n6, m6, l6, t6, σ6, left6, cv6, hv, dv, tr, rfl, T6, F6, N6, B6, D6, G6, w6, d6, mh, md, sv, cv1, cv2, cv3⟩
    have X6 := XB.keeps B6.stays
    have P6 := TB.keeps B6.stays
    obtain ⟨p1, u1, v1⟩ := D6.cells 1 (by decide) (by decide)
    obtain ⟨p2, u2, v2⟩ := D6.cells 2 (by decide) (by decide)
    obtain ⟨p3, u3, v3⟩ := D6.cells 3 (by decide) (by decide)
    rw [cv1] at v1; rw [cv2] at v2; rw [cv3] at v3
    clear XI TI
    have hS : SameA hv dv := sv.elim .inl fun z => .inr (.inr z)
    dsimp only
    k_steps
    k_dflt (refine eq_sameA hS ?_)
    k_steps
    k_dflt (refine told_ok (by k_asm) (by k_asm) (by k_asm) XB TB rfl (by ktr_room) (by ktr_units) C5 D6.t5 D6.W D6.T G6.wf D6.hiW D6.hiT G6.lf G6.asc ?_)
    intro h7 tk7 g7 n7 T7 F7 N7 B7 Q7 K7
    have D7 := D6.told N7 Q7 K7
    have TT := KtsTurn.trans T6 T7
    clear T6 T7
    k_steps
    k_dflt (walk_at "mine leaveT")
    exact ret _ _ _ n7 l6 t6 σ6 left6 (by assumption) (by assumption) (by assumption) (by assumption) (D7.leave G6) w6 d6 fun p hp => have z := D7.rest p hp; ⟨z.1, z.2.1, z.2.2.1⟩


end
/-! L0 -/
section
open PyProof.V
theorem turn_back {h₀ g h : Heap} {L : Addr} {m : Str → Option Value} {news : List (Addr × Obj)} (T : KtsTurn [] h₀ g) (F : Fr g L h m) (N : News g L h news) : Fr h₀ L h m ∧ News h₀ L h news := by
  have t : ∀ b o, h₀.get? b = some o → g.get? b = some o := fun b o e => T.other b o e (fun q => nomatch q)
  refine ⟨⟨F.ns, fun b o e => F.keep b o (t b o e), by rw [← T.size]; exact F.above⟩, fun p hp => ⟨(N p hp).1, (N p hp).2.1, ?_⟩⟩
  cases q : h₀.get? p.1 with
  | none => rfl
  | some o => have := (N p hp).2.2; rw [t _ _ q] at this; cases this
/-! a loop over range -/
section
variable {prog : Program} {w : World} {A : Around} {E : Value → Shared → Prop} {s : Shared} {h₀ : Heap} {m : Str → Option Value} {news : List (Addr × Obj)} {env : Env}
theorem loop_range {L : Addr} (hL : env.locals = L) {x : Str} {body : List Stmt} {Q : Flow → Shared → Prop} {r : Addr} {n : Nat} {t u v : Tok} (J : Nat → (Str → Option Value) → List (Addr × Obj) → Prop)
    (hh : A.handled = none) (F : Fr h₀ L s.heap m) (N : News h₀ L s.heap news) (hr : IsRange s.heap r 0 (n : Int) 1 t u v) (hn : n ≤ 20) (h0 : J 0 m news)
    (step : ∀ i v m₁ news₁ h tk I oI, i < n → (∃ t, v = .int (i : Nat) t) → J i m₁ news₁ → (∀ p ∈ news₁, p.1 ≠ I) → (∃ a b c, oI.data = .fields #[rawInt a, rawInt b, rawInt c]) → Fr h₀ L h (fun y => if y = x then some v else m₁ y) → News h₀ L h ((I, oI) :: news₁) →
      wpAny (model prog w) A (execs body env) (StepR h₀ L I oI (J (i + 1)) { s with heap := h, toks := tk } fun v s' => Q (.ret v) s') E { s with heap := h, toks := tk })
    (fin : ∀ h' tk m' news', Fr h₀ L h' m' → News h₀ L h' news' → J n m' news' → Q .next { s with heap := h', toks := tk }) :
    wpAny (model prog w) A (pyIter (.ref r)) (fun it s₂ => LoopAtV prog w A h₀ env x body Q E it s₂) E s := by
  subst hL
  have hsm : Builtin.Range.small 0 (n : Int) 1 = true ∧ Builtin.Range.rangeSize 0 (n : Int) 1 = n := by
    have : ∀ k : Fin 21, Builtin.Range.small 0 (k.1 : Int) 1 = true ∧ Builtin.Range.rangeSize 0 (k.1 : Int) 1 = (k.1 : Int) := by decide
    exact this ⟨n, by omega⟩
  refine wpAny_pyIter_range hr hsm.1 ?_
  rw [hsm.2]
  have up : ∀ b o, s.heap.get? b = some o → (s.heap.push { cls := .type "range_iterator", data := .fields #[rawInt 0, rawInt n, rawInt 1] }).get? b = some o := fun b o e => Heap.get?_push_of_some _ e
  have IL : env.locals ≠ s.heap.objs.size := Nat.ne_of_lt F.ns.lt
  refine ⟨s.heap.objs.size, [s.heap.objs.size], [s.heap.objs.size], n, _, _, m, news, J, rfl, Walks.range hh _ 0 1 n, ?_, ?_, fun p hp q => Nat.ne_of_lt (Heap.lt_size (N p hp).1) (List.mem_singleton.mp q), ?_, F.keeps up, N.grown up, h0, ?_, fun h' tk m' news' F' N' _ hJ' => fin h' tk m' news' F' N' hJ'⟩
  · intro q; exact IL (List.mem_singleton.mp q)
  · intro b hb; rw [List.mem_singleton.mp hb]; exact next_is_new F
  · have e : IsRangeIter (s.heap.push { cls := .type "range_iterator", data := .fields #[rawInt 0, rawInt n, rawInt 1] }) s.heap.objs.size 0 n 1 := Heap.get?_push_size _ rfl
    simpa using e
  · rintro i v m₁ news₁ s₁ own ⟨h, tk, rfl⟩ hi hP hJ1 hn1 o1 o2 o3 st1 F1 N1
    have mI := o3 s.heap.objs.size (.head _) (next_is_new F) _ st1
    have N2 : News h₀ env.locals h ((s.heap.objs.size, _) :: news₁) := fun p hp => by
      rcases List.mem_cons.mp hp with rfl | hp
      · exact N1 _ (List.mem_append_left _ mI)
      · exact N1 _ (List.mem_append_right _ hp)
    refine wpAny_mono (step i v m₁ news₁ h tk _ _ hi (by obtain ⟨t, e⟩ := hP; exact ⟨t, by simpa using e⟩) hJ1 (fun p hp q => hn1 p hp (List.mem_singleton.mpr q)) ⟨_, _, _, rfl⟩ F1 N2) (fun f s₃ z => ?_) fun _ _ e => e
    cases f with
    | ret v => exact z
    | brk => exact z.elim
    | cont => exact z.elim
    | next =>
      obtain ⟨h', tk', m₂, news₂, rfl, F3, N3, q3, J3⟩ := z
      refine LoopStepV.next ⟨rfl, h', tk', m₂, news₂, rfl, F3, fun p hp => ?_, fun p hp q => q3 p hp (List.mem_singleton.mp q), J3⟩
      rcases List.mem_append.mp hp with hp | hp
      · have e1 := o2 p hp
        have q := List.mem_singleton.mp (o1 p hp)
        rw [q] at e1
        have e2 := Option.some.inj (e1.symm.trans st1)
        have : p = (s.heap.objs.size, _) := Prod.ext q e2
        rw [this]; exact N3 _ (.head _)
      · exact N3 _ (.tail _ hp)
end
/-! two dicts of texts -/
def TextsAre (kvs : List (Str × Value)) (files : List (Str × Str)) : Prop := kvs.length = files.length ∧ ∀ (j : Nat) k x, files[j]? = some (k, x) → ∃ t, kvs[j]? = some (k, .str x t)
theorem TextsAre.nil : TextsAre [] [] := ⟨rfl, fun j k x h => by simp at h⟩
theorem TextsAre.snoc {kvs : List (Str × Value)} {files : List (Str × Str)} {k x : Str} {t : Tok} (H : TextsAre kvs files) : TextsAre (kvs ++ [(k, .str x t)]) (files ++ [(k, x)]) := by
  refine ⟨by rw [List.length_append, List.length_append, H.1]; rfl, fun j k' x' h => ?_⟩
  by_cases q : j < files.length
  · rw [List.getElem?_append_left q] at h
    obtain ⟨t, e⟩ := H.2 j k' x' h
    exact ⟨t, by rw [List.getElem?_append_left (by rw [H.1]; exact q)]; exact e⟩
  · rw [List.getElem?_append_right (Nat.le_of_not_lt q)] at h
    obtain ⟨j', rfl⟩ : ∃ j', j = files.length + j' := ⟨j - files.length, by omega⟩
    rw [Nat.add_sub_cancel_left] at h
    cases j' with
    | zero =>
      rw [List.getElem?_cons_zero] at h
      cases h
      exact ⟨t, by rw [List.getElem?_append_right (by rw [H.1]; exact Nat.le_refl _), H.1]; simp⟩
    | succ i => simp at h
theorem TextsAre.keys {kvs : List (Str × Value)} {files : List (Str × Str)} (H : TextsAre kvs files) : kvs.map (·.1) = files.map (·.1) := by
  refine List.ext_getElem? fun j => ?_
  rw [List.getElem?_map, List.getElem?_map]
  cases q : files[j]? with
  | some p =>
    obtain ⟨t, e⟩ := H.2 j p.1 p.2 q
    rw [e]; rfl
  | none =>
    have : kvs[j]? = none := by rw [List.getElem?_eq_none_iff] at q ⊢; rw [H.1]; exact q
    rw [this]; rfl
theorem TextsAre.at {kvs : List (Str × Value)} {files : List (Str × Str)} (H : TextsAre kvs files) (hn : (files.map (·.1)).Nodup) {k x : Str} (h : (k, x) ∈ files) : ∃ t, valueAt kvs k = some (.str x t) := by
  obtain ⟨j, hj⟩ := List.mem_iff_getElem?.mp h
  obtain ⟨t, e⟩ := H.2 j k x hj
  refine ⟨t, ?_⟩
  have hk : (kvs.map (·.1)).Nodup := by rw [H.keys]; exact hn
  have := vat_at hk e
  unfold vat at this
  exact this
theorem ne_files {prog : Program} {w : World} {A : Around} {E : Value → Shared → Prop} {s : Shared} {h₀ : Heap} {L a b : Addr} {news : List (Addr × Obj)} {oa ob : Obj} {files : List (Str × Str)} {kvs : List (Str × Value)} {tk : Str → Tok} {Q : Value → Shared → Prop} (N : News h₀ L s.heap news)
    (ma : (a, oa) ∈ news) (da : oa.IsDictOf (PySem.strKind prog w) (files.map fun f => (f.1, .str f.2 (tk f.1)))) (mb : (b, ob) ∈ news) (db : ob.IsDictOf (PySem.strKind prog w) kvs) (H : TextsAre kvs files) (hn : (files.map (·.1)).Nodup) (la : (a == sysModules) = false) (lb : (b == sysModules) = false) (hu : A.units < cLine)
    (h : Q (.bool false) s) : wpAny (model prog w) A (compareOp .NotEq (.ref a) (.ref b)) Q E s := by
  refine keq_ne (r := true) la lb (kda_dict N ma da) (kda_dict N mb db) hu (fun _ => ?_) ?_
  · have key : ∀ l : List (Str × Str), (∀ p ∈ l, p ∈ files) → KeqHits A.in1 s kvs (l.map fun f => (f.1, Value.str f.2 (tk f.1))) true := by
      intro l
      induction l with
      | nil => intro _; exact .nil
      | cons p r ih =>
        intro hl
        obtain ⟨t, e⟩ := H.at hn (hl p (.head _))
        have z := KeqHits.hit (A := A.in1) (s := s) e (SeqAt.EqAt.str_str p.2 (tk p.1) p.2 t) (ih fun q hq => hl q (.tail _ hq))
        have e2 : (p.2 == p.2 && true) = true := by simp
        rw [e2] at z
        exact z
    exact key files fun _ h => h
  · rw [List.length_map, H.1]
    simpa using h
/-- the iterator is set aside -/
theorem TabRep.drop {news n' : List (Addr × Obj)} {P I : Addr} {qual : Str} {oI : Obj} (H : TabRep news P qual) (U : Uq news) (hI : (I, oI) ∈ news) (hd : ∃ a b c, oI.data = .fields #[rawInt a, rawInt b, rawInt c]) (hP : P ≠ I) (k : ∀ p ∈ news, p.1 ≠ I → p ∈ n') : TabRep n' P qual := by
  obtain ⟨l, a, b⟩ := H
  refine ⟨l, k _ a hP, fun q hq => ?_⟩
  obtain ⟨n, oc, vs, t, c, d, e⟩ := b q hq
  refine ⟨n, oc, vs, t, k _ c fun z => ?_, d, e⟩
  have z' : q.2 = I := z
  rw [z'] at c
  have := U _ _ _ c hI
  obtain ⟨x, y, u, hd⟩ := hd
  rw [this, hd] at d
  cases d
  simp [rawInt] at e
section
variable {w : World} {news n' : List (Addr × Obj)} {l : WL} {t : TL} {f : FL} {σ : St} {left : Int → Str} {b : Nat} {lim : Int} {I : Addr} {oI : Obj}
theorem All.up (H : All w news l t f σ left b lim) (k : ∀ p ∈ news, p ∈ n') : All w n' l t f σ left b lim :=
  { H with W := H.W.mono k, T := H.T.up k, F := H.F.mono fun p hp _ => k p hp, t5 := H.t5.mono fun p hp _ _ => k p hp, t12 := H.t12.mono fun p hp _ _ => k p hp }
theorem All.drop (H : All w news l t f σ left b lim) (U : Uq news) (hI : (I, oI) ∈ news) (hd : ∃ a b c, oI.data = .fields #[rawInt a, rawInt b, rawInt c]) (iW : I ∉ l.all σ) (iT : I ∉ t.all σ) (i1 : f.fd ≠ I) (i2 : f.fc ≠ I) (i5 : (205 : Nat) ≠ I) (i12 : (212 : Nat) ≠ I)
    (k : ∀ p ∈ news, p.1 ≠ I → p ∈ n') : All w n' l t f σ left b lim :=
  { H with W := H.W.on fun p hp ha => k p hp fun q => iW (q ▸ ha), T := H.T.mono fun p hp ha => k p hp fun q => iT (q ▸ ha), F := H.F.mono fun p hp h => k p hp (h.elim (fun q => by rw [q]; exact i1) fun q => by rw [q]; exact i2),
           t5 := H.t5.drop U hI hd i5 k, t12 := H.t12.drop U hI hd i12 k }
theorem All.apart (H : All w news l t f σ left b lim) (h : ∀ p ∈ news, p.1 ≠ I) : I ∉ l.all σ ∧ I ∉ t.all σ ∧ f.fd ≠ I ∧ f.fc ≠ I ∧ (205 : Nat) ≠ I ∧ (212 : Nat) ≠ I := by
  obtain ⟨turn, tk, vs, ns, n1, n2, m1, m2, _⟩ := H.F.has
  obtain ⟨l5, m5, _⟩ := H.t5
  obtain ⟨l12, m12, _⟩ := H.t12
  exact ⟨fun q => by obtain ⟨o, m⟩ := H.W.mem_all q; exact h _ m rfl, fun q => by obtain ⟨o, m⟩ := H.T.mem_all q; exact h _ m rfl, h _ m1, h _ m2, h _ m5, h _ m12⟩
end
theorem All.next {w : World} {news n' : List (Addr × Obj)} {l : WL} {t : TL} {f : FL} {σ : St} {left : Int → Str} {b : Nat} {lim lim' : Int} (H : All w news l t f σ left b lim) (U : Uq news) (F : FRep n' f lim') (k : ∀ p ∈ news, p.1 ≠ f.fd → p ∈ n') : All w n' l t f σ left b lim' :=
  { H with W := H.W.on fun p hp ha => k p hp fun q => H.fW.1 (q ▸ ha), T := H.T.mono fun p hp ha => k p hp fun q => H.fT.1 (q ▸ ha), F := F,
           t5 := H.t5.off U (· = f.fd) (fun _ q => q ▸ H.F.kind) k, t12 := H.t12.off U (· = f.fd) (fun _ q => q ▸ H.F.kind) k }


end
/-! L2 -/
section
open PyProof.V
/-! the law's loop -/
def LJ (w : World) (L : Addr) (oc : Obj) (wi td : Addr) (f : FL) (i : Nat) (m : Str → Option Value) (news : List (Addr × Obj)) : Prop :=
  ∃ l t σ left, All w news l t f σ left (10 * i) (1 + 4 * i) ∧ l.wi = wi ∧ t.td = td ∧ m "feed" = some (.ref f.fd) ∧ m "world" = some (.ref wi) ∧ (L + 1, oc) ∈ news ∧ L + 1 ∉ l.all σ ∧ L + 1 ∉ t.all σ
end
local macro_rules | `(tactic| walk_at "eval ListComp Tuple cons") => `(tactic| (k_here; k_dflt (refine ListComp_WU (F₀ := by k_asm) (by with_unfolding_all rfl) (by decide) (by rfl) (by decide) (by rfl) ?_)))
section
open PyProof.V
def LMid (w : World) (L : Addr) (base : Heap) (oc : Obj) (wi td : Addr) (f : FL) (s : Shared) (fl : Flow) (s' : Shared) : Prop :=
  fl = .next ∧ ∃ h' tk' n' m' i, s' = { s with heap := h', toks := tk' } ∧ Fr base L h' m' ∧ News base L h' n' ∧ LJ w L oc wi td f i m' n' ∧ i ≤ 12
end
local macro_rules | `(tactic| walk_at "pyIter ref") => `(tactic| (k_here; refine here ?_))
section
open PyProof.V
set_option maxRecDepth 100000 in
set_option maxHeartbeats 8000000 in
theorem law_for {w : World} {dp un : Nat} {gd : Option (List Code)} {L fa : Addr} {cd : Value} {A₀ : Around} {base : Heap} {m mg mb : Str → Option Value} {news : List (Addr × Obj)} {s : Shared} {loose : List Str} {mean : ExcName → Option Value}
    (B : Below A₀ base [] base) (F : Fr base L s.heap m) (N : News base L s.heap news) (XB : (hd.heap_1 w.params).In base) (TB : Top topProg loose mean mg mb base) {o : Obj} (ho : (hd.heap_1 w.params).lookup 220 = some o) (hdp : dp + 36 < recursionLimit) (hu : un + 360 < cLine)
    (C5 : CodeHd base 209 205) (C12 : CodeHd base 214 212)
    {l : WL} {t : TL} {f : FL} {σ : St} {left : Int → Str} (H : All w news l t f σ left 0 0) {wi td : Addr} (hwi : l.wi = wi) (htd : t.td = td) {oc : Obj} (hc : (L + 1, oc) ∈ news) (hcd : oc.data = .cell (some (.ref td))) (cW : L + 1 ∉ l.all σ) (cT : L + 1 ∉ t.all σ) (cF : f.fd ≠ L + 1 ∧ f.fc ≠ L + 1) (c5 : (212 : Nat) < L)
    (mf : m "feed" = some (.ref f.fd)) (mw : m "world" = some (.ref wi)) :
    wpAny (model PySem.Challenge.rw_pq0172_01.row.prog w) (ktrTop dp un gd "law" (fnScope o) L fa cd (cellsFrom (L + 1) (fnScope o).names []) []) (exec (fnStmt o 1) (envX "law" (fnScope o) L fa cd (cellsFrom (L + 1) (fnScope o).names [])))
      (LMid w L base oc wi td f s) (fun _ _ => False) s := by
  revert XB; k_fill; intro XB
  have X := XB
  have T := TB
  obtain rfl := lit_eq ho (by k_dflt k_is)
  clear ho
  dsimp only [fnScope, fnStmt, fnOf, List.getD, List.getElem?_cons_succ, List.getElem?_cons_zero, Option.getD]
  refine fold_exec ?_
  intro M1 env1 A1 Q1
  (with_unfolding_all refine' For_invVF F ?k1 ?k2 ?_; (case k1 => exact rfl); (case k2 => exact rfl))
  k_steps
  k_dflt (refine next_ok (by k_asm) (by k_asm) (by k_asm) XB TB rfl (by ktr_room) (by ktr_units) H.F (by omega) (by decide) (by decide) ?_)
  intro r1 t1 h1 tk1 n1 r1a r1b F1 N1 H1 K1
  k_steps
  rename IsRange _ _ _ _ _ _ _ _ => hR
  obtain ⟨n, hn, hn'⟩ : ∃ n : Nat, 3 + r1 = (n : Int) ∧ n ≤ 12 := ⟨(3 + r1).toNat, by omega, by omega⟩
  rw [hn] at hR
  have A1 := H.next (uq_of N) H1 K1
  clear H H1
  refine unhere ?_
  k_dflt (refine loop_range rfl (LJ w L oc wi td f) rfl (by k_asm) (by k_asm) hR (by omega) ⟨l, t, σ, left, A1, hwi, htd, mf, mw, K1 _ hc cF.1.symm, cW, cT⟩ ?_ ?_)
  · clear A1 K1 hwi htd mf mw hc cW cT F N hR r1a r1b
    rintro i v m₁ news₁ h tk I oI hi ⟨tv, rfl⟩ ⟨l1, t1, σ1, left1, H1, rfl, rfl, f1, wd1, c1, c2, c3⟩ hI hoI F N
    have ap := H1.apart hI
    have H2 := H1.up (n' := (I, oI) :: news₁) fun p hp => .tail _ hp
    k_steps
    k_dflt (refine deed_ok (by k_asm) (by k_asm) (by k_asm) XB TB rfl (by ktr_room) (by ktr_units) C5 C12 H2 (by omega) (by omega) ?_)
    intro h7 tk7 g7 n7 l7 t7 σ7 left7 T7 F7 N7 B7 H7 w7 d7 K7
    obtain ⟨F7, N7⟩ := turn_back T7 F7 N7
    obtain ⟨k1, k2, k3⟩ := K7 (I, oI) ⟨.head _, ap.1, ap.2.1, ap.2.2.1.symm, ap.2.2.2.2.1.symm, ap.2.2.2.2.2.symm⟩
    obtain ⟨k4, k5, k6⟩ := K7 (L + 1, oc) ⟨.tail _ c1, c2, c3, cF.1.symm, Nat.ne_of_gt (by omega), Nat.ne_of_gt (by omega)⟩
    have hLI := hI _ c1
    have H8 := H7.drop (uq_of N7) k1 hoI k2 k3 ap.2.2.1 ap.2.2.2.1 ap.2.2.2.2.1 ap.2.2.2.2.2 (n' := n7.filter (fun p => p.1 != I)) fun p hp h => List.mem_filter.mpr ⟨hp, by simpa using h⟩
    have eb : 10 * (i + 1) = 10 * i + 10 := by omega
    have el : (1 + 4 * ((i + 1 : Nat) : Int)) = 1 + 4 * (i : Int) + 4 := by omega
    clear K7 H1 H2 F N B7 T7 c1 c2 c3
    have i1 := H7.W.inst
    rw [w7] at i1
    refine H7.W.goDict fun es en i2 g1 g2 g3 => ?_
    refine H7.W.goFiles fun oF tkF i5 d5 => ?_
    have z5 := H7.W.lowf
    refine H7.T.goDict fun oT j1 e1 => ?_
    rw [d7] at j1
    refine H7.T.goFiles fun oG j2 e2 => ?_
    have y1 := H7.T.low _ dd_td
    rw [d7] at y1
    have y2 := H7.T.low _ dd_tf
    k_steps
    have fl := files_le H7.good
    have jo := j2
    have hbg : sysModules < base.objs.size := Nat.lt_of_le_of_lt (by decide) (Heap.lt_size (XB 215 _ (by k_dflt k_is)))
    refine ex4 _ _ _ _ ⟨Src.keys (knd := PySem.strKind PG w) rfl (by k_asm) (by k_asm) (by k_mem) e2 y2 (by rw [sizeLine_eq]; simp; omega), ?_⟩
    rintro s₂ ⟨hs2, rfl⟩
    refine restU_inv (fun i ys nw => (∀ p ∈ n7, p ∈ nw) ∧ ∃ kvs, Pairs (PySem.strKind PG w) nw ys kvs ∧ TextsAre kvs (σ7.files.take i)) ?_ ?_ _ 0 [] _ (Nat.zero_add _) ⟨by intro p hp; simp [hp], [], .nil, .nil⟩
    · rintro ys nw ⟨up, kvs, hP, hK⟩ D4 h4 tk4 F4 N4 off4
      rw [show (σ7.files.map fun f => (f.1, Value.ref (t7.fl f.1))).length = σ7.files.length from List.length_map .., List.take_length] at hK
      k_steps
      k_dflt (refine dict_pairs (knd := PySem.strKind PG w) rfl (by k_asm) (by k_asm) (.head _) hbg (List.size_toArray.trans hP.1) ?_ ?_ ?_ ?_)
      · rw [hK.1]; exact Nat.le_trans fl (by decide)
      · rw [hK.keys]; exact H7.good.wf.names
      · intro j kk vv e
        obtain ⟨a, key, n, z1, z2, z3⟩ := hP.2 j kk vv e
        exact ⟨a, key, n, by simpa using z1, z2, .tail _ z3⟩
      intro b5 h5 tk5 ob5 F5 N5 lt5 lo5 q5
      k_steps
      k_dflt (refine ne_files (by k_asm) (.tail _ (.tail _ (up _ i5))) d5 (.head _) q5 hK H7.good.wf.names z5 lo5 (by ktr_units) ?_)
      k_steps
      exact ⟨_, _, _, n7.filter (fun p => p.1 != I), rfl, by k_asm, fun p hp => N5 p (.tail _ (.tail _ (up p (by
        rcases List.mem_cons.mp hp with rfl | hp
        · exact k1
        · exact (List.mem_filter.mp hp).1)))), fun p hp => by simpa using (List.mem_filter.mp hp).2, l7, t7, σ7, left7, by rw [eb, el]; exact H8, w7, d7, by walk_at "mine look", by walk_at "mine look", List.mem_filter.mpr ⟨k4, by simpa using hLI⟩, k5, k6⟩
    · rintro i ys nw v I2 oI2 C oC D3 m2' h3 tk3 E' hi2 ⟨up, kvs, hP, hK⟩ ⟨k', x, hk', hkv⟩ hC hx F3 N3 off ne
      obtain ⟨x', hc2, rfl⟩ := map_at (f := fun f => Value.ref (t7.fl f.1)) hk'
      have hvf := vat_at H7.good.wf.names hc2
      obtain ⟨tv, rfl⟩ := Flat.str_inv (kdl_flat_str hkv)
      have H3 := H7.T.up up
      have j1' := up _ j1
      obtain ⟨oG', j2', e2'⟩ := H3.files
      have b2 := text_some (t := t7) hvf
      refine H3.goTexts _ (vat_mem hvf) fun oX j6 e6 => ?_
      have hle : x'.length ≤ 1000 := Nat.le_trans (H7.good.wf.size _ (vat_mem hvf)) H7.good.wf.bound
      dsimp only at j6 e6
      k_steps
      (try k_unfold)
      refine compEnd_one (by k_asm) (by k_asm) ‹_ ∧ _ ∧ _ ∧ AllLt _ _› off (.tail _ (up _ jo)) ⟨fun p hp => .tail _ (up p hp), _, hP.snoc (fun p hp => .tail _ hp) hkv (.head _), ?_⟩
      rw [List.take_add_one, hc2]
      exact hK.snoc
  · intro h' tk' m' n' F' N' j
    k_steps
    exact ⟨rfl, _, _, _, _, n, rfl, by k_asm, by k_asm, j, hn'⟩


end
/-! L3 -/
section
open PyProof.V
set_option maxRecDepth 100000 in
set_option maxHeartbeats 8000000 in
theorem law_end {w : World} {dp un : Nat} {gd : Option (List Code)} {L fa : Addr} {cd : Value} {A₀ : Around} {base : Heap} {m mg mb : Str → Option Value} {news : List (Addr × Obj)} {s : Shared} {E : Value → Shared → Prop} {Q : Flow → Shared → Prop} {loose : List Str} {mean : ExcName → Option Value}
    (B : Below A₀ base [] base) (F : Fr base L s.heap m) (N : News base L s.heap news) (XB : (hd.heap_1 w.params).In base) (TB : Top topProg loose mean mg mb base) {o : Obj} (ho : (hd.heap_1 w.params).lookup 220 = some o) (hdp : dp + 36 < recursionLimit) (hu : un + 360 < cLine)
    {wi td : Addr} {f : FL} {i : Nat} {oc : Obj} (H : LJ w L oc wi td f i m news) (hcd : oc.data = .cell (some (.ref td)))
    (ret : ∀ h' tk' n', Fr base L h' m → News base L h' n' → TabRep n' 205 "_law_told_right.<locals>.<lambda>" → TabRep n' 212 "_law_deed_right.<locals>.<lambda>" → Q (.ret (.bool true)) { s with heap := h', toks := tk' }) :
    wpAny (model PySem.Challenge.rw_pq0172_01.row.prog w) (ktrTop dp un gd "law" (fnScope o) L fa cd (cellsFrom (L + 1) (fnScope o).names []) []) (exec (fnStmt o 2) (envX "law" (fnScope o) L fa cd (cellsFrom (L + 1) (fnScope o).names []))) Q E s := by
  revert XB; k_fill; intro XB
  have X := XB
  have T := TB
  obtain rfl := lit_eq ho (by k_dflt k_is)
  clear ho
  dsimp only [fnScope, fnStmt, fnOf, List.getD, List.getElem?_cons_succ, List.getElem?_cons_zero, Option.getD]
  obtain ⟨l, t, σ, left, H, rfl, rfl, f1, w1, c1, c2, c3⟩ := H
  have i1 := H.W.inst
  refine H.W.goDict fun es en i2 g1 g2 g3 => ?_
  refine H.W.goOpens fun oO i3 d3 => ?_
  have z3 := H.W.lowo
  refine H.T.goDict fun oT j1 e1 => ?_
  refine H.T.goOpens fun oP j3 e3 => ?_
  have y1 := H.T.low _ dd_td
  have y3 := H.T.low _ dd_to
  have cl := chans_le H.good
  have cl3 : σ.chans.length ≤ 3 := by
    have h : (σ.chans.map (·.1)).length ≤ [(1 : Int), 2, 3].length := by
      refine nodup_len H.good.wf.keys fun a ha => ?_
      obtain ⟨c, hc, rfl⟩ := List.mem_map.mp ha
      rcases H.good.wf.ksub c hc with q | q | q <;> rw [q] <;> simp
    rw [List.length_map] at h
    exact h
  k_steps
  rename (List.Perm _ (List.map _ (List.map (fun c => (c.1, Value.ref (l.ch c.1))) σ.chans))) => p1
  rename (List.Perm _ (List.map _ (List.map (fun c => (c.1, Value.ref (t.sp c.1))) σ.chans))) => p2
  rw [List.map_map] at p1 p2
  have e : _ = _ := List.Perm.eq_of_pairwise (le := fun a b : Int => a ≤ b) (fun a b _ _ h h' => Int.le_antisymm h h') (by assumption) (by assumption) (p1.trans p2.symm)
  rw [e, decide_eq_true rfl]
  exact ret _ _ _ (by k_asm) (by k_asm) (H.t5.mono fun p hp _ _ => .tail _ (.tail _ hp)) (H.t12.mono fun p hp _ _ => .tail _ (.tail _ hp))


end
/-! W0 -/
section
/-! World() made -/
def EsOk (es : List DictEntry) (b : Nat) : Prop := es.length ≤ b ∧ ∀ e ∈ es, e.refKey = false
theorem isStr_of {v : Value} {x : Str} (h : v.isStr x = true) : ∃ t, v = .str x t := by
  unfold Value.isStr at h
  split at h
  · exact ⟨_, by rw [eq_of_beq h]⟩
  · cases h
theorem str_isStr {x y : Str} {t : Tok} : (Value.str x t).isStr y = (x == y) := rfl
theorem putL_ok {es : List DictEntry} {b : Nat} {name : Str} {hs : Int} {u : Tok} {v : Value} (H : EsOk es b) : EsOk (putL name hs (.str name u) v es) (b + 1) := by
  have key : ∀ es : List DictEntry, (∀ e ∈ es, e.refKey = false) → (putL name hs (.str name u) v es).length ≤ es.length + 1 ∧ ∀ e ∈ putL name hs (.str name u) v es, e.refKey = false := by
    intro es
    induction es with
    | nil => intro _; exact ⟨Nat.le_refl _, fun e he => by rw [putL, List.mem_singleton] at he; rw [he]; rfl⟩
    | cons e r ih =>
      intro h
      obtain ⟨a, c⟩ := ih fun e he => h e (.tail _ he)
      unfold putL
      split
      · refine ⟨by simp, fun e' he => ?_⟩
        rcases List.mem_cons.mp he with rfl | he
        · exact h e (.head _)
        · exact h e' (.tail _ he)
      · refine ⟨by simpa using a, fun e' he => ?_⟩
        rcases List.mem_cons.mp he with rfl | he
        · exact h _ (.head _)
        · exact c e' he
  obtain ⟨a, c⟩ := key es H.2
  exact ⟨Nat.le_trans a (Nat.succ_le_succ H.1), c⟩
theorem getL_ok {es : List DictEntry} {y : Str} (h : ∀ e ∈ es, e.refKey = false) : getL y es = some ((es.find? (·.key.isStr y)).map (·.val)) := by
  unfold getL
  cases q : es.find? (·.key.isStr y) with
  | some e => rfl
  | none =>
    rw [if_neg]
    · rfl
    rw [List.any_eq_true]
    rintro ⟨e, he, h2⟩
    rw [h e he] at h2; cases h2
theorem find_put {name : Str} {hs : Int} {u : Tok} {v : Value} {y : Str} : ∀ es : List DictEntry, ((putL name hs (.str name u) v es).find? (·.key.isStr y)).map (·.val) = if y = name then some v else (es.find? (·.key.isStr y)).map (·.val)
  | [] => by
    rw [putL, List.find?_cons]
    by_cases q : y = name
    · subst q; rw [if_pos rfl, str_isStr]; simp
    · rw [if_neg q, str_isStr]
      have : (name == y) = false := by simpa using Ne.symm q
      rw [this]
  | e :: r => by
    unfold putL
    split
    · rename_i h
      obtain ⟨t, ht⟩ := isStr_of h
      rw [List.find?_cons, List.find?_cons]
      dsimp only
      rw [ht, str_isStr]
      by_cases q : y = name
      · subst q; simp
      · rw [if_neg q]
        have : (name == y) = false := by simpa using Ne.symm q
        rw [this]
    · rename_i h
      rw [List.find?_cons, List.find?_cons]
      cases q : e.key.isStr y with
      | true =>
        by_cases z : y = name
        · subst z; exact absurd q h
        · rw [if_neg z]
      | false => exact find_put r
theorem getL_put {es : List DictEntry} {b : Nat} {name y : Str} {hs : Int} {u : Tok} {v : Value} (H : EsOk es b) : getL y (putL name hs (.str name u) v es) = if y = name then some (some v) else getL y es := by
  rw [getL_ok (putL_ok (b := b) H).2, getL_ok H.2, find_put]
  split <;> rfl
section
variable {prog : Program} {w : World} {A : Around} {E : Value → Shared → Prop} {s : Shared} {K : Frag} {h₀ : Heap} {L x d C : Addr} {m : Str → Option Value} {news : List (Addr × Obj)} {es : List DictEntry} {n b : Nat} {name : Str} {v : Value}
theorem set_abs {Q : Unit → Shared → Prop} (F : Fr h₀ L s.heap m) (X₀ : K.In h₀) (N : News h₀ L s.heap news) (hx : (x, instObj C d) ∈ news) (hd : (d, dictOf es n) ∈ news) (ok : EsOk es b)
    (hs : findIn K (.ref C) "__setattr__" = some (some (.builtin "object.__setattr__"))) (hp : plainOver K C = true) (ht : takerIn K C name = some none) (hh : hasDictIn K C = true) (hb : b ≤ 900)
    (h : ∀ h' tk' news' es' n', Fr h₀ L h' m → News h₀ L h' news' → Keep d news news' → (d, dictOf es' n') ∈ news' → EsOk es' (b + 1) → (∀ y, getL y es' = if y = name then some (some v) else getL y es) → Q () { s with heap := h', toks := tk' }) :
    Here (wpAny (model prog w) A (setAttr (.ref x) name v) Q E s) := by
  have N2 : News h₀ L s.heap ((d, dictOf es n) :: news.filter fun p => p.1 != d) := fun p hp => by
    rcases List.mem_cons.mp hp with rfl | hp
    · exact N _ hd
    · exact N p (List.mem_filter.mp hp).1
  have ok' := putL_ok (name := name) (hs := PyData.keyHash w.params name) (u := s.toks + 1) (v := v) ok
  refine set_dict (dx := d) (ox := instObj C d) (es := es) (n := n) F X₀ N2 (InstAt.mk (od := some _) (N _ hx).1 rfl rfl (N _ hd).1) rfl hs hp ht hh (by rw [getL_ok ok.2]; rfl) rfl (.head fun p hp => by simpa using (List.mem_filter.mp hp).2) (Nat.le_trans ok'.1 (by omega)) fun h' F' N' => ?_
  exact h h' _ _ _ _ F' N' (fun p hp hne => .tail _ (List.mem_filter.mpr ⟨hp, by simpa using hne⟩)) (.head _) ok' fun y => getL_put ok
end
theorem getL_old {es es' : List DictEntry} {name y : Str} {v u : Value} (h : ∀ y, getL y es' = if y = name then some (some v) else getL y es) (hy : y ≠ name) (g : getL y es = some (some u)) : getL y es' = some (some u) := by rw [h, if_neg hy]; exact g
theorem getL_new {es es' : List DictEntry} {name : Str} {v : Value} (h : ∀ y, getL y es' = if y = name then some (some v) else getL y es) : getL name es' = some (some v) := by rw [h, if_pos rfl]
end
local macro_rules | `(tactic| walk_at "setAttr ref") => `(tactic| (k_here; refine here ?_))
section
set_option maxRecDepth 100000 in
set_option maxHeartbeats 8000000 in
theorem world_ok {w : World} {dp un : Nat} {gd : Option (List Code)} {cn : Str} {cs : Scope} {a : Addr} {ccd : Value} {cl : List (Str × Addr)} {outer : List Env} {A₀ : Around} {base h₀ : Heap} {L : Addr} {m mg mb : Str → Option Value}
    {news : List (Addr × Obj)} {s : Shared} {Q E : Value → Shared → Prop} {loose : List Str} {mean : ExcName → Option Value}
    (B : Below A₀ base outer h₀) (F : Fr h₀ L s.heap m) (N : News h₀ L s.heap news) (XB : (hd.heap_1 w.params).In base) (TB : Top topProg loose mean mg mb base) (hk : cs.kind = .function) (hdp : dp + 4 < recursionLimit) (hu : un + 40 < cLine)
    (ret : ∀ x d ff fo fx es k ox of oo h' tk' news', Fr h₀ L h' m → News h₀ L h' news' → (x, instObj 161 d) ∈ news' → (d, dictOf es k) ∈ news' → getL "files" es = some (some (.ref ff)) → getL "open" es = some (some (.ref fo)) → getL "fields" es = some (some (.ref fx)) →
      (fx, ox) ∈ news' → ox.IsDictOf (PySem.strKind PG w) [] → (ff, of) ∈ news' → of.IsDictOf (PySem.strKind PG w) [] → (fo, oo) ∈ news' → oo.IsDictOf (PySem.intKind PG w) [] → (∀ p ∈ news, p ∈ news') → (∀ p ∈ news, p.1 < d) → (@LT.lt Nat _ d x ∧ @LT.lt Nat _ x ff ∧ @LT.lt Nat _ ff fo ∧ @LT.lt Nat _ fo fx) → Q (.ref x) { s with heap := h', toks := tk' }) :
    wpAny (model PySem.Challenge.rw_pq0172_01.row.prog w) (ktrTop dp un gd cn cs L a ccd cl outer) (call (.ref 161) []) Q E s := by
  revert XB; k_fill; intro XB
  have X := XB.keeps B.stays
  have T := TB.keeps B.stays
  k_dflt (refine' call_cls ?k1 ?k2 ?k3 ?k4 ?k5 ?k6 ?_; (case k1 => k_asm); (case k2 => k_asm); (case k3 => k_asm); (case k4 => k_is); (case k5 => k_is); (case k6 => k_is); k_whole)
  intro x d h0 F0 N0 l1 l2
  k_dflt (refine' code_def ?k1 ?k2 ?k3 ?k4 ?k5 ?kA ?kF ?kK ?k6 ?k7 ?k8 ?k9 ?kB ?_ ?c2 ?c3 ?c4 ?c5; (case kA => exact rfl); (case kF => exact rfl); (case kK => assumption); (case k1 => k_asm); (case k2 => k_asm); (case k3 => k_asm); (case k4 => k_asm); (case k5 => k_asm); (case k6 => k_is); (case k7 => k_is); (case k8 => ktr_room); (case k9 => exact binds_K (by k_in) rfl (by k_is) rfl rfl rfl); (case c5 => decide); (case kB => exact locs rfl); (case c2 => exact rfl); (case c3 => exact rfl); (case c4 => exact rfl); k_whole; intro g' L' h' FG' F' N' B' X' T'; (try dsimp only); (try k_fold))
  walk_at "mine fold"
  have up0 : ∀ p ∈ news, p ∈ (x, instObj 161 d) :: (d, dictOf [] 0) :: news := fun p hp => List.Mem.tail (x, instObj 161 d) (List.Mem.tail (d, dictOf [] 0) hp)
  have mx0 : (x, instObj 161 d) ∈ (x, instObj 161 d) :: (d, dictOf [] 0) :: news := .head _
  have md0 : (d, dictOf [] 0) ∈ (x, instObj 161 d) :: (d, dictOf [] 0) :: news := .tail _ (.head _)
  have ok0 : EsOk [] 0 := ⟨Nat.le_refl _, fun _ h => nomatch h⟩
  have xd : x ≠ d := Nat.ne_of_gt l2
  k_steps
  k_dflt (refine set_abs (C := 161) (by k_asm) (by k_asm) (by k_asm) (by walk_at "mine mem") (by walk_at "mine mem") ok0 (by k_is) (by k_is) (by k_is) (by k_is) (by decide) ?_)
  intro h1 tk1 n1 es1 q1 F1 N1 K1 md1 ok1 g1
  have mx1 := K1 (x, instObj 161 d) (by walk_at "mine mem") xd
  have up1 : ∀ p ∈ news, p ∈ n1 := fun p hp => K1 p (by first | exact up0 p hp | exact .tail _ (up0 p hp)) (Nat.ne_of_lt (l1 p hp))
  clear K1 g1 md0 mx0 up0 ok0
  k_steps
  k_dflt (refine set_abs (C := 161) (by k_asm) (by k_asm) (by k_asm) (by walk_at "mine mem") (by walk_at "mine mem") ok1 (by k_is) (by k_is) (by k_is) (by k_is) (by decide) ?_)
  intro h2 tk2 n2 es2 q2 F2 N2 K2 md2 ok2 g2
  have mx2 := K2 (x, instObj 161 d) (by walk_at "mine mem") xd
  have up2 : ∀ p ∈ news, p ∈ n2 := fun p hp => K2 p (by first | exact up1 p hp | exact .tail _ (up1 p hp)) (Nat.ne_of_lt (l1 p hp))
  clear K2 g2 md1 mx1 up1 ok1
  k_steps
  k_dflt (refine set_abs (C := 161) (by k_asm) (by k_asm) (by k_asm) (by walk_at "mine mem") (by walk_at "mine mem") ok2 (by k_is) (by k_is) (by k_is) (by k_is) (by decide) ?_)
  intro h3 tk3 n3 es3 q3 F3 N3 K3 md3 ok3 g3
  have mx3 := K3 (x, instObj 161 d) (by walk_at "mine mem") xd
  have up3 : ∀ p ∈ news, p ∈ n3 := fun p hp => K3 p (by first | exact up2 p hp | exact .tail _ (up2 p hp)) (Nat.ne_of_lt (l1 p hp))
  clear K3 g3 md2 mx2 up2 ok2
  k_steps
  k_dflt (refine set_abs (C := 161) (by k_asm) (by k_asm) (by k_asm) (by walk_at "mine mem") (by walk_at "mine mem") ok3 (by k_is) (by k_is) (by k_is) (by k_is) (by decide) ?_)
  intro h4 tk4 n4 es4 q4 F4 N4 K4 md4 ok4 g4
  have mx4 := K4 (x, instObj 161 d) (by walk_at "mine mem") xd
  have up4 : ∀ p ∈ news, p ∈ n4 := fun p hp => K4 p (by first | exact up3 p hp | exact .tail _ (up3 p hp)) (Nat.ne_of_lt (l1 p hp))
  clear K4 g4 md3 mx3 up3 ok3
  k_steps
  k_dflt (refine set_abs (C := 161) (by k_asm) (by k_asm) (by k_asm) (by walk_at "mine mem") (by walk_at "mine mem") ok4 (by k_is) (by k_is) (by k_is) (by k_is) (by decide) ?_)
  intro h5 tk5 n5 es5 q5 F5 N5 K5 md5 ok5 g5
  have mx5 := K5 (x, instObj 161 d) (by walk_at "mine mem") xd
  have up5 : ∀ p ∈ news, p ∈ n5 := fun p hp => K5 p (by first | exact up4 p hp | exact .tail _ (up4 p hp)) (Nat.ne_of_lt (l1 p hp))
  clear K5 g5 md4 mx4 up4 ok4
  k_steps
  k_dflt (refine set_abs (C := 161) (by k_asm) (by k_asm) (by k_asm) (by walk_at "mine mem") (by walk_at "mine mem") ok5 (by k_is) (by k_is) (by k_is) (by k_is) (by decide) ?_)
  intro h6 tk6 n6 es6 q6 F6 N6 K6 md6 ok6 g6
  have mx6 := K6 (x, instObj 161 d) (by walk_at "mine mem") xd
  have up6 : ∀ p ∈ news, p ∈ n6 := fun p hp => K6 p (by first | exact up5 p hp | exact .tail _ (up5 p hp)) (Nat.ne_of_lt (l1 p hp))
  clear K6 g6 md5 mx5 up5 ok5
  k_steps
  k_dflt (refine set_abs (C := 161) (by k_asm) (by k_asm) (by k_asm) (by walk_at "mine mem") (by walk_at "mine mem") ok6 (by k_is) (by k_is) (by k_is) (by k_is) (by decide) ?_)
  intro h7 tk7 n7 es7 q7 F7 N7 K7 md7 ok7 g7
  have mx7 := K7 (x, instObj 161 d) (by walk_at "mine mem") xd
  have up7 : ∀ p ∈ news, p ∈ n7 := fun p hp => K7 p (by first | exact up6 p hp | exact .tail _ (up6 p hp)) (Nat.ne_of_lt (l1 p hp))
  clear K7 g7 md6 mx6 up6 ok6
  k_steps
  k_dflt (refine set_abs (C := 161) (by k_asm) (by k_asm) (by k_asm) (by walk_at "mine mem") (by walk_at "mine mem") ok7 (by k_is) (by k_is) (by k_is) (by k_is) (by decide) ?_)
  intro h8 tk8 n8 es8 q8 F8 N8 K8 md8 ok8 g8
  have mx8 := K8 (x, instObj 161 d) (by walk_at "mine mem") xd
  have up8 : ∀ p ∈ news, p ∈ n8 := fun p hp => K8 p (by first | exact up7 p hp | exact .tail _ (up7 p hp)) (Nat.ne_of_lt (l1 p hp))
  clear K8 g8 md7 mx7 up7 ok7
  k_steps
  k_dflt (refine set_abs (C := 161) (by k_asm) (by k_asm) (by k_asm) (by walk_at "mine mem") (by walk_at "mine mem") ok8 (by k_is) (by k_is) (by k_is) (by k_is) (by decide) ?_)
  intro h9 tk9 n9 es9 q9 F9 N9 K9 md9 ok9 g9
  have mx9 := K9 (x, instObj 161 d) (by walk_at "mine mem") xd
  have up9 : ∀ p ∈ news, p ∈ n9 := fun p hp => K9 p (by first | exact up8 p hp | exact .tail _ (up8 p hp)) (Nat.ne_of_lt (l1 p hp))
  clear K9 g9 md8 mx8 up8 ok8
  k_steps
  k_dflt (refine set_abs (C := 161) (by k_asm) (by k_asm) (by k_asm) (by walk_at "mine mem") (by walk_at "mine mem") ok9 (by k_is) (by k_is) (by k_is) (by k_is) (by decide) ?_)
  intro h10 tk10 n10 es10 q10 F10 N10 K10 md10 ok10 g10
  have mx10 := K10 (x, instObj 161 d) (by walk_at "mine mem") xd
  have up10 : ∀ p ∈ news, p ∈ n10 := fun p hp => K10 p (by first | exact up9 p hp | exact .tail _ (up9 p hp)) (Nat.ne_of_lt (l1 p hp))
  clear K10 g10 md9 mx9 up9 ok9
  k_steps
  k_dflt (refine set_abs (C := 161) (by k_asm) (by k_asm) (by k_asm) (by walk_at "mine mem") (by walk_at "mine mem") ok10 (by k_is) (by k_is) (by k_is) (by k_is) (by decide) ?_)
  intro h11 tk11 n11 es11 q11 F11 N11 K11 md11 ok11 g11
  have mx11 := K11 (x, instObj 161 d) (by walk_at "mine mem") xd
  have up11 : ∀ p ∈ news, p ∈ n11 := fun p hp => K11 p (by first | exact up10 p hp | exact .tail _ (up10 p hp)) (Nat.ne_of_lt (l1 p hp))
  clear K11 g11 md10 mx10 up10 ok10
  k_steps
  k_dflt (refine set_abs (C := 161) (by k_asm) (by k_asm) (by k_asm) (by walk_at "mine mem") (by walk_at "mine mem") ok11 (by k_is) (by k_is) (by k_is) (by k_is) (by decide) ?_)
  intro h12 tk12 n12 es12 q12 F12 N12 K12 md12 ok12 g12
  have mx12 := K12 (x, instObj 161 d) (by walk_at "mine mem") xd
  have up12 : ∀ p ∈ news, p ∈ n12 := fun p hp => K12 p (by first | exact up11 p hp | exact .tail _ (up11 p hp)) (Nat.ne_of_lt (l1 p hp))
  clear K12 g12 md11 mx11 up11 ok11
  k_steps
  rename Obj.IsDictOf (PySem.strKind _ _) _ [] => ddf
  rename ∀ p ∈ n12, @LT.lt Nat _ p.1 _ => ltf
  k_dflt (refine set_abs (C := 161) (by k_asm) (by k_asm) (by k_asm) (by walk_at "mine mem") (by walk_at "mine mem") ok12 (by k_is) (by k_is) (by k_is) (by k_is) (by decide) ?_)
  intro h13 tk13 n13 es13 q13 F13 N13 K13 md13 ok13 g13
  have mx13 := K13 (x, instObj 161 d) (by walk_at "mine mem") xd
  have up13 : ∀ p ∈ news, p ∈ n13 := fun p hp => K13 p (by first | exact up12 p hp | exact .tail _ (up12 p hp)) (Nat.ne_of_lt (l1 p hp))
  have nef := Nat.ne_of_gt (ltf _ md12)
  have mf13 := K13 _ (.head _) nef
  have ef13 := getL_new g13
  have rf := ltf _ mx12
  clear K13 g13 md12 mx12 up12 ok12
  k_steps
  rename Obj.IsDictOf (PySem.intKind _ _) _ [] => ddo
  rename ∀ p ∈ n13, @LT.lt Nat _ p.1 _ => lto
  k_dflt (refine set_abs (C := 161) (by k_asm) (by k_asm) (by k_asm) (by walk_at "mine mem") (by walk_at "mine mem") ok13 (by k_is) (by k_is) (by k_is) (by k_is) (by decide) ?_)
  intro h14 tk14 n14 es14 q14 F14 N14 K14 md14 ok14 g14
  have mx14 := K14 (x, instObj 161 d) (by walk_at "mine mem") xd
  have up14 : ∀ p ∈ news, p ∈ n14 := fun p hp => K14 p (by first | exact up13 p hp | exact .tail _ (up13 p hp)) (Nat.ne_of_lt (l1 p hp))
  have mf14 := K14 _ (by first | exact mf13 | exact .tail _ mf13) nef
  have ef14 := getL_old g14 (by decide) ef13
  have neo := Nat.ne_of_gt (lto _ md13)
  have mo14 := K14 _ (.head _) neo
  have eo14 := getL_new g14
  have ro := lto _ mf13
  clear K14 g14 md13 mx13 up13 ok13 mf13 ef13
  k_steps
  rename Obj.IsDictOf (PySem.strKind _ _) _ [] => ddy
  rename ∀ p ∈ n14, @LT.lt Nat _ p.1 _ => lty
  k_dflt (refine set_abs (C := 161) (by k_asm) (by k_asm) (by k_asm) (by walk_at "mine mem") (by walk_at "mine mem") ok14 (by k_is) (by k_is) (by k_is) (by k_is) (by decide) ?_)
  intro h15 tk15 n15 es15 q15 F15 N15 K15 md15 ok15 g15
  have mx15 := K15 (x, instObj 161 d) (by walk_at "mine mem") xd
  have up15 : ∀ p ∈ news, p ∈ n15 := fun p hp => K15 p (by first | exact up14 p hp | exact .tail _ (up14 p hp)) (Nat.ne_of_lt (l1 p hp))
  have mf15 := K15 _ (by first | exact mf14 | exact .tail _ mf14) nef
  have ef15 := getL_old g15 (by decide) ef14
  have mo15 := K15 _ (by first | exact mo14 | exact .tail _ mo14) neo
  have eo15 := getL_old g15 (by decide) eo14
  have ney := Nat.ne_of_gt (lty _ md14)
  have my15 := K15 _ (.head _) ney
  have ey15 := getL_new g15
  have ry := lty _ mo14
  clear K15 g15 md14 mx14 up14 ok14 mf14 ef14 mo14 eo14
  k_steps
  k_dflt (refine set_abs (C := 161) (by k_asm) (by k_asm) (by k_asm) (by walk_at "mine mem") (by walk_at "mine mem") ok15 (by k_is) (by k_is) (by k_is) (by k_is) (by decide) ?_)
  intro h16 tk16 n16 es16 q16 F16 N16 K16 md16 ok16 g16
  have mx16 := K16 (x, instObj 161 d) (by walk_at "mine mem") xd
  have up16 : ∀ p ∈ news, p ∈ n16 := fun p hp => K16 p (by first | exact up15 p hp | exact .tail _ (up15 p hp)) (Nat.ne_of_lt (l1 p hp))
  have mf16 := K16 _ (by first | exact mf15 | exact .tail _ mf15) nef
  have ef16 := getL_old g16 (by decide) ef15
  have mo16 := K16 _ (by first | exact mo15 | exact .tail _ mo15) neo
  have eo16 := getL_old g16 (by decide) eo15
  have my16 := K16 _ (by first | exact my15 | exact .tail _ my15) ney
  have ey16 := getL_old g16 (by decide) ey15
  clear K16 g16 md15 mx15 up15 ok15 mf15 ef15 mo15 eo15 my15 ey15
  k_steps
  k_dflt (refine set_abs (C := 161) (by k_asm) (by k_asm) (by k_asm) (by walk_at "mine mem") (by walk_at "mine mem") ok16 (by k_is) (by k_is) (by k_is) (by k_is) (by decide) ?_)
  intro h17 tk17 n17 es17 q17 F17 N17 K17 md17 ok17 g17
  have mx17 := K17 (x, instObj 161 d) (by walk_at "mine mem") xd
  have up17 : ∀ p ∈ news, p ∈ n17 := fun p hp => K17 p (by first | exact up16 p hp | exact .tail _ (up16 p hp)) (Nat.ne_of_lt (l1 p hp))
  have mf17 := K17 _ (by first | exact mf16 | exact .tail _ mf16) nef
  have ef17 := getL_old g17 (by decide) ef16
  have mo17 := K17 _ (by first | exact mo16 | exact .tail _ mo16) neo
  have eo17 := getL_old g17 (by decide) eo16
  have my17 := K17 _ (by first | exact my16 | exact .tail _ my16) ney
  have ey17 := getL_old g17 (by decide) ey16
  clear K17 g17 md16 mx16 up16 ok16 mf16 ef16 mo16 eo16 my16 ey16
  k_steps
  k_dflt (refine set_abs (C := 161) (by k_asm) (by k_asm) (by k_asm) (by walk_at "mine mem") (by walk_at "mine mem") ok17 (by k_is) (by k_is) (by k_is) (by k_is) (by decide) ?_)
  intro h18 tk18 n18 es18 q18 F18 N18 K18 md18 ok18 g18
  have mx18 := K18 (x, instObj 161 d) (by walk_at "mine mem") xd
  have up18 : ∀ p ∈ news, p ∈ n18 := fun p hp => K18 p (by first | exact up17 p hp | exact .tail _ (up17 p hp)) (Nat.ne_of_lt (l1 p hp))
  have mf18 := K18 _ (by first | exact mf17 | exact .tail _ mf17) nef
  have ef18 := getL_old g18 (by decide) ef17
  have mo18 := K18 _ (by first | exact mo17 | exact .tail _ mo17) neo
  have eo18 := getL_old g18 (by decide) eo17
  have my18 := K18 _ (by first | exact my17 | exact .tail _ my17) ney
  have ey18 := getL_old g18 (by decide) ey17
  clear K18 g18 md17 mx17 up17 ok17 mf17 ef17 mo17 eo17 my17 ey17
  k_steps
  k_dflt (refine set_abs (C := 161) (by k_asm) (by k_asm) (by k_asm) (by walk_at "mine mem") (by walk_at "mine mem") ok18 (by k_is) (by k_is) (by k_is) (by k_is) (by decide) ?_)
  intro h19 tk19 n19 es19 q19 F19 N19 K19 md19 ok19 g19
  have mx19 := K19 (x, instObj 161 d) (by walk_at "mine mem") xd
  have up19 : ∀ p ∈ news, p ∈ n19 := fun p hp => K19 p (by first | exact up18 p hp | exact .tail _ (up18 p hp)) (Nat.ne_of_lt (l1 p hp))
  have mf19 := K19 _ (by first | exact mf18 | exact .tail _ mf18) nef
  have ef19 := getL_old g19 (by decide) ef18
  have mo19 := K19 _ (by first | exact mo18 | exact .tail _ mo18) neo
  have eo19 := getL_old g19 (by decide) eo18
  have my19 := K19 _ (by first | exact my18 | exact .tail _ my18) ney
  have ey19 := getL_old g19 (by decide) ey18
  clear K19 g19 md18 mx18 up18 ok18 mf18 ef18 mo18 eo18 my18 ey18
  k_steps
  k_dflt (refine set_abs (C := 161) (by k_asm) (by k_asm) (by k_asm) (by walk_at "mine mem") (by walk_at "mine mem") ok19 (by k_is) (by k_is) (by k_is) (by k_is) (by decide) ?_)
  intro h20 tk20 n20 es20 q20 F20 N20 K20 md20 ok20 g20
  have mx20 := K20 (x, instObj 161 d) (by walk_at "mine mem") xd
  have up20 : ∀ p ∈ news, p ∈ n20 := fun p hp => K20 p (by first | exact up19 p hp | exact .tail _ (up19 p hp)) (Nat.ne_of_lt (l1 p hp))
  have mf20 := K20 _ (by first | exact mf19 | exact .tail _ mf19) nef
  have ef20 := getL_old g20 (by decide) ef19
  have mo20 := K20 _ (by first | exact mo19 | exact .tail _ mo19) neo
  have eo20 := getL_old g20 (by decide) eo19
  have my20 := K20 _ (by first | exact my19 | exact .tail _ my19) ney
  have ey20 := getL_old g20 (by decide) ey19
  clear K20 g20 md19 mx19 up19 ok19 mf19 ef19 mo19 eo19 my19 ey19
  k_steps
  k_dflt (refine set_abs (C := 161) (by k_asm) (by k_asm) (by k_asm) (by walk_at "mine mem") (by walk_at "mine mem") ok20 (by k_is) (by k_is) (by k_is) (by k_is) (by decide) ?_)
  intro h21 tk21 n21 es21 q21 F21 N21 K21 md21 ok21 g21
  have mx21 := K21 (x, instObj 161 d) (by walk_at "mine mem") xd
  have up21 : ∀ p ∈ news, p ∈ n21 := fun p hp => K21 p (by first | exact up20 p hp | exact .tail _ (up20 p hp)) (Nat.ne_of_lt (l1 p hp))
  have mf21 := K21 _ (by first | exact mf20 | exact .tail _ mf20) nef
  have ef21 := getL_old g21 (by decide) ef20
  have mo21 := K21 _ (by first | exact mo20 | exact .tail _ mo20) neo
  have eo21 := getL_old g21 (by decide) eo20
  have my21 := K21 _ (by first | exact my20 | exact .tail _ my20) ney
  have ey21 := getL_old g21 (by decide) ey20
  clear K21 g21 md20 mx20 up20 ok20 mf20 ef20 mo20 eo20 my20 ey20
  k_steps
  k_dflt (refine set_abs (C := 161) (by k_asm) (by k_asm) (by k_asm) (by walk_at "mine mem") (by walk_at "mine mem") ok21 (by k_is) (by k_is) (by k_is) (by k_is) (by decide) ?_)
  intro h22 tk22 n22 es22 q22 F22 N22 K22 md22 ok22 g22
  have mx22 := K22 (x, instObj 161 d) (by walk_at "mine mem") xd
  have up22 : ∀ p ∈ news, p ∈ n22 := fun p hp => K22 p (by first | exact up21 p hp | exact .tail _ (up21 p hp)) (Nat.ne_of_lt (l1 p hp))
  have mf22 := K22 _ (by first | exact mf21 | exact .tail _ mf21) nef
  have ef22 := getL_old g22 (by decide) ef21
  have mo22 := K22 _ (by first | exact mo21 | exact .tail _ mo21) neo
  have eo22 := getL_old g22 (by decide) eo21
  have my22 := K22 _ (by first | exact my21 | exact .tail _ my21) ney
  have ey22 := getL_old g22 (by decide) ey21
  clear K22 g22 md21 mx21 up21 ok21 mf21 ef21 mo21 eo21 my21 ey21
  k_steps
  k_dflt (refine set_abs (C := 161) (by k_asm) (by k_asm) (by k_asm) (by walk_at "mine mem") (by walk_at "mine mem") ok22 (by k_is) (by k_is) (by k_is) (by k_is) (by decide) ?_)
  intro h23 tk23 n23 es23 q23 F23 N23 K23 md23 ok23 g23
  have mx23 := K23 (x, instObj 161 d) (by walk_at "mine mem") xd
  have up23 : ∀ p ∈ news, p ∈ n23 := fun p hp => K23 p (by first | exact up22 p hp | exact .tail _ (up22 p hp)) (Nat.ne_of_lt (l1 p hp))
  have mf23 := K23 _ (by first | exact mf22 | exact .tail _ mf22) nef
  have ef23 := getL_old g23 (by decide) ef22
  have mo23 := K23 _ (by first | exact mo22 | exact .tail _ mo22) neo
  have eo23 := getL_old g23 (by decide) eo22
  have my23 := K23 _ (by first | exact my22 | exact .tail _ my22) ney
  have ey23 := getL_old g23 (by decide) ey22
  clear K23 g23 md22 mx22 up22 ok22 mf22 ef22 mo22 eo22 my22 ey22
  k_steps
  k_dflt (refine set_abs (C := 161) (by k_asm) (by k_asm) (by k_asm) (by walk_at "mine mem") (by walk_at "mine mem") ok23 (by k_is) (by k_is) (by k_is) (by k_is) (by decide) ?_)
  intro h24 tk24 n24 es24 q24 F24 N24 K24 md24 ok24 g24
  have mx24 := K24 (x, instObj 161 d) (by walk_at "mine mem") xd
  have up24 : ∀ p ∈ news, p ∈ n24 := fun p hp => K24 p (by first | exact up23 p hp | exact .tail _ (up23 p hp)) (Nat.ne_of_lt (l1 p hp))
  have mf24 := K24 _ (by first | exact mf23 | exact .tail _ mf23) nef
  have ef24 := getL_old g24 (by decide) ef23
  have mo24 := K24 _ (by first | exact mo23 | exact .tail _ mo23) neo
  have eo24 := getL_old g24 (by decide) eo23
  have my24 := K24 _ (by first | exact my23 | exact .tail _ my23) ney
  have ey24 := getL_old g24 (by decide) ey23
  clear K24 g24 md23 mx23 up23 ok23 mf23 ef23 mo23 eo23 my23 ey23
  k_steps
  k_dflt (refine set_abs (C := 161) (by k_asm) (by k_asm) (by k_asm) (by walk_at "mine mem") (by walk_at "mine mem") ok24 (by k_is) (by k_is) (by k_is) (by k_is) (by decide) ?_)
  intro h25 tk25 n25 es25 q25 F25 N25 K25 md25 ok25 g25
  have mx25 := K25 (x, instObj 161 d) (by walk_at "mine mem") xd
  have up25 : ∀ p ∈ news, p ∈ n25 := fun p hp => K25 p (by first | exact up24 p hp | exact .tail _ (up24 p hp)) (Nat.ne_of_lt (l1 p hp))
  have mf25 := K25 _ (by first | exact mf24 | exact .tail _ mf24) nef
  have ef25 := getL_old g25 (by decide) ef24
  have mo25 := K25 _ (by first | exact mo24 | exact .tail _ mo24) neo
  have eo25 := getL_old g25 (by decide) eo24
  have my25 := K25 _ (by first | exact my24 | exact .tail _ my24) ney
  have ey25 := getL_old g25 (by decide) ey24
  clear K25 g25 md24 mx24 up24 ok24 mf24 ef24 mo24 eo24 my24 ey24
  k_steps
  k_dflt (refine set_abs (C := 161) (by k_asm) (by k_asm) (by k_asm) (by walk_at "mine mem") (by walk_at "mine mem") ok25 (by k_is) (by k_is) (by k_is) (by k_is) (by decide) ?_)
  intro h26 tk26 n26 es26 q26 F26 N26 K26 md26 ok26 g26
  have mx26 := K26 (x, instObj 161 d) (by walk_at "mine mem") xd
  have up26 : ∀ p ∈ news, p ∈ n26 := fun p hp => K26 p (by first | exact up25 p hp | exact .tail _ (up25 p hp)) (Nat.ne_of_lt (l1 p hp))
  have mf26 := K26 _ (by first | exact mf25 | exact .tail _ mf25) nef
  have ef26 := getL_old g26 (by decide) ef25
  have mo26 := K26 _ (by first | exact mo25 | exact .tail _ mo25) neo
  have eo26 := getL_old g26 (by decide) eo25
  have my26 := K26 _ (by first | exact my25 | exact .tail _ my25) ney
  have ey26 := getL_old g26 (by decide) ey25
  clear K26 g26 md25 mx25 up25 ok25 mf25 ef25 mo25 eo25 my25 ey25
  k_steps
  k_dflt (refine set_abs (C := 161) (by k_asm) (by k_asm) (by k_asm) (by walk_at "mine mem") (by walk_at "mine mem") ok26 (by k_is) (by k_is) (by k_is) (by k_is) (by decide) ?_)
  intro h27 tk27 n27 es27 q27 F27 N27 K27 md27 ok27 g27
  have mx27 := K27 (x, instObj 161 d) (by walk_at "mine mem") xd
  have up27 : ∀ p ∈ news, p ∈ n27 := fun p hp => K27 p (by first | exact up26 p hp | exact .tail _ (up26 p hp)) (Nat.ne_of_lt (l1 p hp))
  have mf27 := K27 _ (by first | exact mf26 | exact .tail _ mf26) nef
  have ef27 := getL_old g27 (by decide) ef26
  have mo27 := K27 _ (by first | exact mo26 | exact .tail _ mo26) neo
  have eo27 := getL_old g27 (by decide) eo26
  have my27 := K27 _ (by first | exact my26 | exact .tail _ my26) ney
  have ey27 := getL_old g27 (by decide) ey26
  clear K27 g27 md26 mx26 up26 ok26 mf26 ef26 mo26 eo26 my26 ey26
  k_steps
  k_dflt (refine set_abs (C := 161) (by k_asm) (by k_asm) (by k_asm) (by walk_at "mine mem") (by walk_at "mine mem") ok27 (by k_is) (by k_is) (by k_is) (by k_is) (by decide) ?_)
  intro h28 tk28 n28 es28 q28 F28 N28 K28 md28 ok28 g28
  have mx28 := K28 (x, instObj 161 d) (by walk_at "mine mem") xd
  have up28 : ∀ p ∈ news, p ∈ n28 := fun p hp => K28 p (by first | exact up27 p hp | exact .tail _ (up27 p hp)) (Nat.ne_of_lt (l1 p hp))
  have mf28 := K28 _ (by first | exact mf27 | exact .tail _ mf27) nef
  have ef28 := getL_old g28 (by decide) ef27
  have mo28 := K28 _ (by first | exact mo27 | exact .tail _ mo27) neo
  have eo28 := getL_old g28 (by decide) eo27
  have my28 := K28 _ (by first | exact my27 | exact .tail _ my27) ney
  have ey28 := getL_old g28 (by decide) ey27
  clear K28 g28 md27 mx27 up27 ok27 mf27 ef27 mo27 eo27 my27 ey27
  k_steps
  exact ret x d _ _ _ _ _ _ _ _ _ _ n28 (by k_asm) (by k_asm) mx28 md28 ef28 eo28 ey28 my28 ddy mf28 ddf mo28 ddo up28 l1 ⟨l2, rf, ro, ry⟩


end
/-! L4 -/
section
open PyProof.V
theorem low_of {a : Addr} (h : @LT.lt Nat _ 212 a) : (a == sysModules) = false :=
  beq_false_of_ne (Nat.ne_of_gt (Nat.lt_of_le_of_lt (by decide : @LE.le Nat _ sysModules 212) h))
theorem nil_signs {l : List (Addr × Obj)} {P : Addr} {qual : Str} (h : (P, tabObj #[]) ∈ l) : TabRep l P qual := ⟨[], h, fun _ q => nomatch q⟩
/-- the start -/
theorem start_all {w : World} {n : List (Addr × Obj)} {x d ff fo fx td tf to fd fc : Addr} {es : List DictEntry} {k n1 n2 : Nat} {ox of oo ot og op : Obj} {ws : List Value} {ns : List Int} {tk : Tok}
    (a1 : (x, instObj 161 d) ∈ n) (a2 : (d, dictOf es k) ∈ n) (g1 : getL "files" es = some (some (.ref ff))) (g2 : getL "open" es = some (some (.ref fo))) (g3 : getL "fields" es = some (some (.ref fx)))
    (b1 : (fx, ox) ∈ n) (d1 : ox.IsDictOf (strKind PG w) []) (b2 : (ff, of) ∈ n) (d2 : of.IsDictOf (strKind PG w) []) (b3 : (fo, oo) ∈ n) (d3 : oo.IsDictOf (intKind PG w) [])
    (b4 : (td, ot) ∈ n) (d4 : ot.IsDictOf (strKind PG w) [("files", .ref tf), ("open", .ref to)]) (b5 : (tf, og) ∈ n) (d5 : og.IsDictOf (strKind PG w) []) (b6 : (to, op) ∈ n) (d6 : op.IsDictOf (intKind PG w) [])
    (b7 : (fd, listOf #[.ref fc, .int 0 tk] n1) ∈ n) (b8 : (fc, listOf ws.toArray n2) ∈ n) (hi : IntsAre ws ns) (hl : ns.length ≤ 100) (b9 : (205, tabObj #[]) ∈ n) (b10 : (212, tabObj #[]) ∈ n)
    (c : @LT.lt Nat _ 212 fc ∧ @LT.lt Nat _ fc fd ∧ @LT.lt Nat _ fd d ∧ @LT.lt Nat _ d x ∧ @LT.lt Nat _ x ff ∧ @LT.lt Nat _ ff fo ∧ @LT.lt Nat _ fo fx ∧ @LT.lt Nat _ fx td ∧ @LT.lt Nat _ td tf ∧ @LT.lt Nat _ tf to) :
    All w n ⟨x, d, fx, ff, fo, fun _ => 0⟩ ⟨td, tf, to, fun _ => 0, fun _ => 0, fun _ => 0⟩ ⟨fd, fc⟩ ⟨[], []⟩ (fun _ => "") 0 0 := by
  obtain ⟨c0, c1, c2, c3, c4, c5, c6, c7, c8, c9⟩ := c
  have hW : ∀ a : Nat, a ∈ WL.all ⟨x, d, fx, ff, fo, fun _ => 0⟩ ⟨[], []⟩ → fd < a ∧ a < td := fun a ha => by
    simp only [WL.all, List.map_nil, List.mem_cons, List.not_mem_nil, or_false] at ha
    rcases ha with h | h | h | h | h <;> (have h : @Eq Nat a _ := h) <;> exact ⟨by show @LT.lt Nat _ _ _; omega, by show @LT.lt Nat _ _ _; omega⟩
  have hT : ∀ a : Nat, a ∈ TL.all ⟨td, tf, to, fun _ => 0, fun _ => 0, fun _ => 0⟩ ⟨[], []⟩ → @LE.le Nat _ td a := fun a ha => by
    simp only [TL.all, List.map_nil, List.nil_append, List.mem_cons, List.not_mem_nil, or_false] at ha
    rcases ha with h | h | h <;> (have h : @Eq Nat a _ := h) <;> omega
  have no {P : Prop} {α : Type} {z : α} (h : z ∈ ([] : List α)) : P := nomatch h
  refine ⟨⟨a1, ⟨es, k, a2, g1, g2, g3⟩, ⟨ox, b1, d1⟩, ⟨of, fun _ => 0, b2, d2⟩, ⟨oo, b3, d3⟩, fun _ h => no h, ?_, fun a ha => low_of (Nat.lt_trans (Nat.lt_trans c0 c1) (hW a ha).1)⟩,
    ⟨⟨ot, b4, d4⟩, ⟨og, b5, d5⟩, ⟨op, b6, d6⟩, fun _ h => no h, fun _ h => no h, fun _ h => no h, ⟨Nat.ne_of_lt c8, Nat.ne_of_lt (Nat.lt_trans c8 c9), Nat.ne_of_lt c9, fun _ h => no h, fun _ h => no h, fun _ h => no h, fun _ h => no h, fun _ h => no h⟩, fun a ha => low_of ?_⟩,
    ⟨⟨0, tk, ws, ns, n1, n2, b7, b8, hi, Int.le_refl _, Int.le_refl _, hl⟩, Nat.ne_of_lt c1⟩,
    ⟨⟨.nil, .nil, fun _ h => no h, fun _ h => no h, fun _ h => no h, fun _ h => no h, fun _ h => no h, fun _ h => no h, fun _ h => no h, fun _ h => no h, Nat.zero_le _⟩, fun _ h => no h, fun _ h => no h⟩,
    fun a ha hb => Nat.lt_irrefl _ (Nat.lt_of_lt_of_le (hW a ha).2 (hT a hb)), ⟨fun q => Nat.lt_irrefl _ (hW _ q).1, fun q => Nat.lt_irrefl _ (Nat.lt_trans c1 (hW _ q).1)⟩,
    ⟨fun q => Nat.not_lt.mpr (hT _ q) (by show @LT.lt Nat _ fd td; omega), fun q => Nat.not_lt.mpr (hT _ q) (by show @LT.lt Nat _ fc td; omega)⟩,
    fun a ha => Nat.lt_trans (Nat.lt_trans c0 c1) (hW a ha).1, fun a ha => Nat.lt_of_lt_of_le (by show @LT.lt Nat _ _ _; omega) (hT a ha), ⟨Nat.lt_trans c0 c1, c0⟩, nil_signs b9, nil_signs b10⟩
  · have ne : ∀ a b : Nat, a < b → a ≠ b := fun a b h => Nat.ne_of_lt h
    simp only [WL.all, List.map_nil, List.nodup_cons, List.mem_cons, List.not_mem_nil, or_false, not_or, not_false_eq_true, List.nodup_nil, and_true]
    refine ⟨⟨(ne _ _ c3).symm, ne _ _ (by omega), ne _ _ (by omega), ne _ _ (by omega)⟩, ⟨ne _ _ (by omega), ne _ _ (by omega), ne _ _ (by omega)⟩, ⟨(ne _ _ (by omega)).symm, (ne _ _ (by omega)).symm⟩, ne _ _ c5⟩
  · simp only [TL.dicts, List.map_nil, List.mem_cons, List.not_mem_nil, or_false] at ha
    rcases ha with h | h | h <;> (have h : @Eq Nat a _ := h) <;> omega
theorem All.cell {w : World} {news n' : List (Addr × Obj)} {l : WL} {t : TL} {f : FL} {σ : St} {left : Int → Str} {b : Nat} {lim : Int} {c : Addr} {o : Obj} {v : Option Value} (H : All w news l t f σ left b lim) (U : Uq news) (hm : (c, o) ∈ news) (hd : o.data = .cell v) (cW : c ∉ l.all σ) (cT : c ∉ t.all σ) (cF : f.fd ≠ c ∧ f.fc ≠ c)
    (k : Keep c news n') : All w n' l t f σ left b lim :=
  { H with W := H.W.on fun p hp ha => k p hp fun q => cW (q ▸ ha), T := H.T.mono fun p hp ha => k p hp fun q => cT (q ▸ ha), F := H.F.mono fun p hp h => k p hp (h.elim (fun q => by rw [q]; exact cF.1) fun q => by rw [q]; exact cF.2),
           t5 := H.t5.off U (· = c) (fun _ q => q ▸ notF_cell hm hd) k, t12 := H.t12.off U (· = c) (fun _ q => q ▸ notF_cell hm hd) k }
theorem mid_stepF {α : Type} {M : Model} {A : Around} {E : Value → Shared → Prop} {s : Shared} {x : Sem α} {Q : α → Shared → Prop} (Rs : Shared → α → Shared → Prop) (h : wpAny M A x (Rs s) (fun _ _ => False) s) (k : ∀ f s', Rs s f s' → Q f s') : Here (wpAny M A x Q E s) := wpAny_mono h k fun _ _ e => e.elim
theorem start_go {w : World} {base h : Heap} {L : Addr} {n1 n' : List (Addr × Obj)} {t0 : Addr × Obj} {x d ff fo fx td tf to fd fc c : Addr} {es : List DictEntry} {k k1 k2 : Nat} {ox of oo ot og op oc : Obj} {ws : List Value} {ns : List Int} {tk : Tok}
    (N : News base L h (t0 :: (to, op) :: (tf, og) :: (td, ot) :: n1)) (up : ∀ p ∈ [(fd, listOf #[.ref fc, .int 0 tk] k1), (fc, listOf ws.toArray k2), (c, oc), (205, tabObj #[]), (212, tabObj #[])], p ∈ n1)
    (lt : ∀ p ∈ [(fd, listOf #[.ref fc, .int 0 tk] k1), (fc, listOf ws.toArray k2), (c, oc), (205, tabObj #[]), (212, tabObj #[])], p.1 < d) (ord : @LT.lt Nat _ d x ∧ @LT.lt Nat _ x ff ∧ @LT.lt Nat _ ff fo ∧ @LT.lt Nat _ fo fx)
    (a1 : (x, instObj 161 d) ∈ n1) (a2 : (d, dictOf es k) ∈ n1) (g1 : getL "files" es = some (some (.ref ff))) (g2 : getL "open" es = some (some (.ref fo))) (g3 : getL "fields" es = some (some (.ref fx)))
    (b1 : (fx, ox) ∈ n1) (d1 : ox.IsDictOf (strKind PG w) []) (b2 : (ff, of) ∈ n1) (d2 : of.IsDictOf (strKind PG w) []) (b3 : (fo, oo) ∈ n1) (d3 : oo.IsDictOf (intKind PG w) [])
    (d4 : ot.IsDictOf (strKind PG w) [("files", .ref tf), ("open", .ref to)]) (d5 : og.IsDictOf (strKind PG w) []) (d6 : op.IsDictOf (intKind PG w) [])
    (hi : IntsAre ws ns) (hl : ns.length ≤ 100) (hc : c = L + 1) (hL : @LT.lt Nat _ 212 L) (lc : @LT.lt Nat _ c fc ∧ @LT.lt Nat _ fc fd) (ltd : ∀ p ∈ n1, @LT.lt Nat _ p.1 td) (l2 : @LT.lt Nat _ td tf ∧ @LT.lt Nat _ tf to)
    {v : Option Value} (hd : oc.data = .cell v) (K : Keep c (t0 :: (to, op) :: (tf, og) :: (td, ot) :: n1) n') :
    ∃ l t f σ left, All w n' l t f σ left 0 0 ∧ l.wi = x ∧ t.td = td ∧ f.fd = fd ∧ L + 1 ∉ l.all σ ∧ L + 1 ∉ t.all σ ∧ f.fd ≠ L + 1 ∧ f.fc ≠ L + 1 := by
  obtain ⟨c3, c4, c5, c6⟩ := ord
  obtain ⟨c0, c1⟩ := lc
  obtain ⟨c8, c9⟩ := l2
  have c2 : @LT.lt Nat _ fd d := lt _ (.head _)
  have c7 : @LT.lt Nat _ fx td := ltd _ b1
  have cL : @LT.lt Nat _ 212 c := by rw [hc]; exact Nat.lt_succ_of_lt hL
  have u : ∀ p ∈ n1, p ∈ t0 :: (to, op) :: (tf, og) :: (td, ot) :: n1 := fun p hp => .tail _ (.tail _ (.tail _ (.tail _ hp)))
  have hoc := u _ (up _ (.tail _ (.tail _ (.head _))))
  have H := start_all (w := w) (u _ a1) (u _ a2) g1 g2 g3 (u _ b1) d1 (u _ b2) d2 (u _ b3) d3 (.tail _ (.tail _ (.tail _ (.head _)))) d4 (.tail _ (.tail _ (.head _))) d5 (.tail _ (.head _)) d6
    (u _ (up _ (.head _))) (u _ (up _ (.tail _ (.head _)))) hi hl (u _ (up _ (.tail _ (.tail _ (.tail _ (.head _)))))) (u _ (up _ (.tail _ (.tail _ (.tail _ (.tail _ (.head _))))))) ⟨Nat.lt_trans cL c0, c1, c2, c3, c4, c5, c6, c7, c8, c9⟩
  have nW : c ∉ WL.all ⟨x, d, fx, ff, fo, fun _ => 0⟩ ⟨[], []⟩ := fun q => by
    simp only [WL.all, List.map_nil, List.mem_cons, List.not_mem_nil, or_false] at q
    rcases q with h | h | h | h | h <;> (have h : @Eq Nat c _ := h) <;> omega
  have nT : c ∉ TL.all ⟨td, tf, to, fun _ => 0, fun _ => 0, fun _ => 0⟩ ⟨[], []⟩ := fun q => by
    simp only [TL.all, List.map_nil, List.nil_append, List.mem_cons, List.not_mem_nil, or_false] at q
    rcases q with h | h | h <;> (have h : @Eq Nat c _ := h) <;> omega
  have nF : fd ≠ c ∧ fc ≠ c := ⟨Nat.ne_of_gt (Nat.lt_trans c0 c1), Nat.ne_of_gt c0⟩
  have H' := H.cell (uq_of N) hoc hd nW nT nF K
  subst hc
  exact ⟨_, _, _, _, _, H', rfl, rfl, rfl, nW, nT, nF.1, nF.2⟩
theorem with_law {P : Params} {h : Heap} {a : Obj} {G : Prop} (_ : (hd.heap_1 P).In h) (e : (hd.heap_1 P).lookup 220 = some a) (k : (hd.heap_1 P).lookup 220 = some a → G) : G := k e


end
/-! L1 -/
local macro_rules | `(tactic| walk_at "exec For Name Call cons nil") => `(tactic| (k_here; refine here ?_))
local macro_rules | `(tactic| walk_at "call ref") => `(tactic| (k_here; (with_reducible show wpAny _ _ (call (Value.ref 161) _) _ _ _); refine here ?_))
local macro_rules | `(tactic| walk_at "exec Return some") => `(tactic| (k_here; refine here ?_))
section
open PyProof.V
set_option maxRecDepth 100000 in
set_option maxHeartbeats 8000000 in
theorem law_holds : PySem.Challenge.rw_pq0172_01.Holds := by
  refine hd ?_
  k_go0
  (all_goals try k_fold)
  k_steps
  rename Below callerA _ [] _ => hB
  rename Frag.In _ (ghostOf _ _) => hX
  rename Top topProg _ _ _ _ (ghostOf _ _) => hT
  rename IntsAre _ (List.take _ _) => hI
  refine unhere ?_
  k_dflt (refine world_ok hB (by k_asm) (by k_asm) hX hT rfl (by ktr_room) (by ktr_units) ?_)
  intro x d ff fo fx es k ox of oo h0 tk0 n0 F0 N0 a1 a2 g1 g2 g3 b1 d1 b2 d2 b3 d3 up lt ord
  k_steps
  have hd5 := ‹Obj.IsDictOf (PySem.strKind _ _) _ (strPairs _)›
  dsimp only [strPairs] at hd5
  rename News _ _ _ _ => hN
  rename ∀ p ∈ n0, @LT.lt Nat _ p.1 _ => ltd
  have hlen : _ := Nat.le_trans (Nat.le_of_eq ‹List.length (List.take 40 _) = min 40 _›) (Nat.le_trans (Nat.min_le_left 40 _) (by decide : 40 ≤ 100))
  k_dflt (refine storeC (by k_asm) hN (by rfl) (.tail _ (.tail _ (.tail _ (.tail _ (up _ (.tail _ (.tail _ (.head _)))))))) (by assumption) ?_)
  intro h1 n1 o1 F1 N1 m1 K1 d1'
  obtain ⟨l, t, f, σ, left, A0, wi, td, ff, x1, x2, x3, x4⟩ := start_go hN up lt ord a1 a2 g1 g2 g3 b1 d1 b2 d2 b3 d3 hd5 (by assumption) (by assumption) hI hlen rfl (by omega) ⟨by omega, by omega⟩ ltd ⟨by omega, by omega⟩ (by assumption) K1
  k_steps
  refine with_law hX (by k_dflt k_is) fun ho => ?_
  refine' mid_stepF (LMid _ _ _ o1 l.wi t.td f) ?z1 ?z2
  case z1 =>
    k_dflt (refine' law_for hB F1 N1 hX hT ho ?d ?u ?c5 ?c12 A0 rfl rfl m1 ?dd x1 x2 ⟨x3, x4⟩ ?l ?mf ?mw; (case dd => (rw [td]; exact d1')); (case d => ktr_room); (case u => ktr_units); (case c5 => assumption); (case c12 => assumption); (case l => omega); (case mf => (rw [ff]; walk_at "mine look")); (case mw => (rw [wi]; walk_at "mine look")))
  case z2 =>
    rintro fl s' ⟨rfl, h2, tk2, n2, m2, i2, rfl, F2, N2, J2, hi2⟩
    dsimp only
    k_steps
    refine unhere ?_
    k_dflt (refine' law_end hB F2 N2 hX hT ho ?d ?u J2 ?dd ?r; (case dd => (rw [td]; exact d1')); (case d => ktr_room); (case u => ktr_units))
    intro h3 tk3 n3 F3 N3 q5 q12
    obtain ⟨l5, t5m, _⟩ := q5
    obtain ⟨l12, t12m, _⟩ := q12
    dsimp only
    (try k_unfold)
    (try dsimp only)
    refine ⟨?_, GrownAt.of N3 t5m, GrownAt.of N3 t12m, True.intro⟩
    k_steps

end
end Mine
theorem PySem.Challenge.cw_pq0172_01_holds : PySem.Challenge.rw_pq0172_01.Holds := by
  exact Mine.law_holds
