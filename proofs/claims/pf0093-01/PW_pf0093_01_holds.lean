import PyProof.Rows.All
import Wide.All
import OpenK.AllK
import Wide.FinOn
import PySem.Challenge.RW_pf0093_01
open PySem PySem.W PyProof.Rows PySem.Calls
set_option Elab.async false
set_option maxRecDepth 100000
set_option maxHeartbeats 8000000
set_option compiler.extract_closed false
set_option linter.all false
namespace Mine
open_top hd for PySem.Challenge.rw_pf0093_01
end Mine
namespace Mine
local macro_rules | `(tactic| k_mem) => `(tactic| first | exact List.mem_cons_self | (with_reducible assumption) | (refine' List.mem_cons_of_mem _ ?_; k_mem) | (refine' List.mem_append_left _ ?_; k_mem) | (refine' List.mem_append_right _ ?_; k_mem) | assumption)
local macro_rules | `(tactic| k_all) => `(tactic| first | (with_reducible assumption) | assumption)
def auRfl : Lean.Syntax := .node .none `Lean.Parser.Tactic.tacticSeq #[.node .none `Lean.Parser.Tactic.tacticSeq1Indented #[.node .none `null #[.node .none `Lean.Parser.Tactic.tacticRfl #[.atom .none "rfl"]]]]
def auWide : Lean.Syntax := .node .none `Lean.Parser.Tactic.tacticSeq #[.node .none `Lean.Parser.Tactic.tacticSeq1Indented #[.node .none `null #[.node .none `Lean.Parser.Tactic.withUnfoldingAll #[.atom .none "with_unfolding_all", .node .none `Lean.Parser.Tactic.tacticSeq #[.node .none `Lean.Parser.Tactic.tacticSeq1Indented #[.node .none `null #[.node .none `Lean.Parser.Tactic.tacticRfl #[.atom .none "rfl"]]]]]]]]
section part_MBase
theorem kfill_MBase (P : Params) : PySem.Challenge.rw_pf0093_01 = PySem.Challenge.rw_pf0093_01 ∧ hd.heap_39 P = hd.heap_39 P := by
  k_fill
  exact ⟨rfl, rfl⟩

noncomputable abbrev Led := List (Addr × Obj)
noncomputable def Con (prog : Program) (w : World) (f : Addr) (need : Nat) (news : Led) (vs : List Value) (R : Value → Led → Prop) : Prop :=
  ∀ (p : Program) (loose : List Str) (mean : ExcName → Option Value) (mg mb : Str → Option Value)
    (dp un : Nat) (gd : Option (List Code)) (cn : Str) (cs : Scope) (a : Addr) (ccd : Value) (cl : List (Str × Addr)) (outer : List Env) (A₀ : Around) (base h₀ : Heap) (L : Addr) (m : Str → Option Value) (s : Shared) (Q E : Value → Shared → Prop),
    Below A₀ base outer h₀ → Fr h₀ L s.heap m → (hd.heap_39 w.params).In h₀ → News h₀ L s.heap news → Top p loose mean mg mb h₀ → cs.kind = .function →
    dp + need < recursionLimit → un + 8 * need < cLine →
    (∀ v nw h' tk', Fr h₀ L h' m → News h₀ L h' nw → R v nw → Q v { s with heap := h', toks := tk' }) →
    wpAny (model prog w) (ktrTop dp un gd cn cs L a ccd cl outer) (call (.ref f) vs) Q E s
section
variable {prog : Program} {w : World} {A : Around} {E : Value → Shared → Prop} {s : Shared} {h₀ : Heap} {L l : Addr} {m : Str → Option Value} {news : Led} {vs : List Value} {n : Nat} {ns : List Int}
theorem isL (N : News h₀ L s.heap news) (hm : (l, listOf vs.toArray n) ∈ news) : s.heap.IsList l vs.toArray := ⟨_, (N _ hm).1, rfl, n, rfl⟩
theorem r_len {Q : Value → Shared → Prop} (N : News h₀ L s.heap news) (hm : (l, listOf vs.toArray n) ∈ news) (hz : vs.length < 2 ^ 62)
    (h : Q (.int vs.length (s.toks + 1)) { s with toks := s.toks + 1 + 1 }) : wpAny (model prog w) A (call (.builtin "len") [.ref l]) Q E s := by
  have e : (vs.toArray.size : Int) = vs.length := by rw [List.size_toArray]
  exact call_len_list (isL N hm) (by rw [e]; omega) (by rw [e]; exact h)
theorem r_lenI {Q : Value → Shared → Prop} (N : News h₀ L s.heap news) (hm : (l, listOf vs.toArray n) ∈ news) (hi : IntsAre vs ns) (hz : ns.length < 2 ^ 62)
    (h : Q (.int ns.length (s.toks + 1)) { s with toks := s.toks + 1 + 1 }) : wpAny (model prog w) A (call (.builtin "len") [.ref l]) Q E s := by
  have := hi.length
  exact r_len N hm (by omega) (by rw [this]; exact h)
theorem r_item {Q : Value → Shared → Prop} {value slice : PySem.Expr} {k : Int} {u : Tok} {v : Value} (N : News h₀ L s.heap news) (hm : (l, listOf vs.toArray n) ∈ news)
    (h0 : 0 ≤ k) (hk : k < 2 ^ 62) (hx : vs[k.toNat]? = some v) (h : Q v s)
    (hs : subscripted slice false (.ref l) (.int k u) = operate [.ref l, .int k u] (getItem (.ref l) (.int k u)) := by with_unfolding_all rfl) :
    wpAny (model prog w) A (subscriptTail value slice (.ref l) (.int k u)) Q E s :=
  tail_any (isL N hm).typeIs slot_list_getitem.lookup (wpAny_getItem_list (isL N hm) h0 (by omega) (by simpa using hx) h) hs
theorem lt_of_eq62 {n : Nat} (h : n < 2 ^ 62) : (n : Int) < 2 ^ 62 := by have := Int.ofNat_lt.mpr h; rwa [show ((2 ^ 62 : Nat) : Int) = 2 ^ 62 by decide] at this
theorem r_itemI {Q : Value → Shared → Prop} {value slice : PySem.Expr} {k : Int} {u : Tok} (N : News h₀ L s.heap news) (hm : (l, listOf vs.toArray n) ∈ news) (hi : IntsAre vs ns)
    (h0 : 0 ≤ k) (hk : k < ns.length) (hz : ns.length < 2 ^ 62) (h : ∀ t, Q (.int (ns.getD k.toNat 0) t) s)
    (hs : subscripted slice false (.ref l) (.int k u) = operate [.ref l, .int k u] (getItem (.ref l) (.int k u)) := by with_unfolding_all rfl) :
    wpAny (model prog w) A (subscriptTail value slice (.ref l) (.int k u)) Q E s := by
  have hk' : k.toNat < ns.length := (Int.toNat_lt h0).mpr hk
  obtain ⟨t, ht⟩ := hi.get k.toNat (ns[k.toNat]) (List.getElem?_eq_getElem hk')
  refine r_item N hm h0 (Int.lt_trans hk (lt_of_eq62 hz)) ht ?_ hs
  have := h t
  rwa [List.getD_eq_getElem?_getD, List.getElem?_eq_getElem hk'] at this
end

end part_MBase
section part_MP
noncomputable def locv (ns : List (Str × NameKind)) (m : Str → Option Value) (x : Str) : Option Value :=
  if ns.lookup x = some .local then if x = Str.ofString "__debug__" then none else m x else none
noncomputable def atV (o : Option Value) (k : Value → Prop) : Prop := @Option.rec Value (fun _ => Prop) False k o
noncomputable def peE (ns : List (Str × NameKind)) (m : Str → Option Value) (e : PySem.Expr) (t : Nat) (k : Value → Nat → Prop) : Prop :=
  match e with
  | .Name x _ => atV (locv ns m x) fun v => k v t
  | .Constant c _ _ => (match c with
    | .int i => k (.int i t) (t + 1)
    | .str x => k (.str x t) (t + 1)
    | _ => False)
  | _ => False
noncomputable def peL (ns : List (Str × NameKind)) (m : Str → Option Value) (es : List PySem.Expr) : Nat → (List Value → Nat → Prop) → Prop :=
  es.rec (fun t k => k [] t) fun e _ ih t k => peE ns m e t fun v t1 => ih t1 fun vs t2 => k (v :: vs) t2
section
variable {prog : Program} {w : World} {A : Around} {E : Value → Shared → Prop} {s : Shared} {K : Frag} {h₀ : Heap} {L a : Addr} {m mg mb : Str → Option Value} {cn : Str} {cs : Scope} {ccd : Value} {cl : List (Str × Addr)} {p : Program} {loose : List Str}
theorem peE_plain {ns : List (Str × NameKind)} {e : PySem.Expr} {t : Nat} {k : Value → Nat → Prop} (h : peE ns m e t k) (rest : List PySem.Expr) (env : Env) : starEach (e :: rest) env = (false, eval e env) :: starEach rest env := by
  cases e <;> first | rfl | exact h.elim
theorem locv_some {x : Str} {v : Value} {ns : List (Str × NameKind)} (h : locv ns m x = some v) : ns.lookup x = some .local ∧ (x == Str.ofString "__debug__") = false ∧ m x = some v := by
  unfold locv at h
  by_cases h1 : ns.lookup x = some .local
  · rw [if_pos h1] at h
    by_cases h2 : x = Str.ofString "__debug__"
    · rw [if_pos h2] at h; cases h
    · rw [if_neg h2] at h
      exact ⟨h1, beq_eq_false_iff_ne.mpr h2, h⟩
  · rw [if_neg h1] at h; cases h
theorem peE_eval {e : PySem.Expr} {k : Value → Nat → Prop} {Q : Value → Shared → Prop} (hk : cs.kind = .function) (F : Fr h₀ L s.heap m) (h : peE cs.names m e s.toks k) (hq : ∀ v t, k v t → Q v { s with toks := t }) : wpAny (model prog w) A (eval e (envX cn cs L a ccd cl)) Q E s := by
  cases e <;> try (exact h.elim)
  case Name x pos =>
    have h : atV (locv cs.names m x) fun v => k v s.toks := h
    rcases hv : locv cs.names m x with _ | v
    · rw [hv] at h; exact h.elim
    · rw [hv] at h
      obtain ⟨h1, h2, h3⟩ := locv_some hv
      exact nameX_L F h3 (hq _ _ h) hk h1 h2
  case Constant c q pos =>
    cases c <;> try (exact h.elim)
    · exact wpAny_Constant_int (hq _ _ h)
    · exact Calls.Constant_str (hq _ _ h)
theorem peL_pop {ns : List (Str × NameKind)} {e : PySem.Expr} {es : List PySem.Expr} {t : Nat} {k : List Value → Nat → Prop} (h : peL ns m (e :: es) t k) : peE ns m e t fun v t1 => peL ns m es t1 fun vs t2 => k (v :: vs) t2 := h
theorem peL_eval (hk : cs.kind = .function) (pos : Pos) : ∀ (es : List PySem.Expr) (k : List Value → Nat → Prop) (s : Shared) (Q : List Value → Shared → Prop), Fr h₀ L s.heap m → peL cs.names m es s.toks k → (∀ vs t, k vs t → Q vs { s with toks := t }) →
    wpAny (model prog w) A (spliced (backTo pos (starEach es (envX cn cs L a ccd cl)))) Q E s
  | [], k, s, Q, _, h, hq => args_nil (hq _ _ h)
  | e :: es, k, s, Q, F, h, hq => args_cons (peE_eval hk F (peL_pop h) fun v t h1 => peL_eval hk pos es _ _ _ F h1 fun vs t h2 => hq _ _ h2) (peE_plain (peL_pop h) _ _)
theorem call_plain {f : Str} {fp pos : Pos} {v : Value} {e : PySem.Expr} {es : List PySem.Expr} {Q : Value → Shared → Prop} (F : Fr h₀ L s.heap m) (X : K.In h₀) (T : TopRead p loose mg mb h₀) (hf : nsIn K mainGlobals f = some (some v)) (hv : keepIn K v = true)
    (hp : (backTo pos (starEach es (envX cn cs L a ccd cl))).any (·.1) = false)
    (h : peL cs.names m (e :: es) s.toks fun vs t => wpAny (model prog w) A (call v vs) Q E { s with toks := t })
    (hk : cs.kind = .function := by rfl) (hx : (envX cn cs L a ccd cl).kindOf f = some .globalImplicit := by rfl) (hd : (f == ("__debug__" : Str)) = false := by decide) :
    wpAny (model prog w) A (eval (.Call (.Name f fp) (e :: es) [] pos) (envX cn cs L a ccd cl)) Q E s := by
  refine Call_ (nameX_K F X T hf ?_ hk hx hd)
  refine callWith_K X hv ?_ (peE_plain (peL_pop h) _ _) hp
  exact peL_eval hk _ _ _ _ _ F h fun vs t h1 => ⟨Frag.In.keeps X (Fr.keep F), h1⟩
theorem spliced_plain {pos : Pos} {es : List PySem.Expr} {Q : List Value → Shared → Prop} (F : Fr h₀ L s.heap m) (h : peL cs.names m es s.toks fun vs t => Q vs { s with toks := t }) (hk : cs.kind = .function := by rfl) :
    wpAny (model prog w) A (spliced (backTo pos (starEach es (envX cn cs L a ccd cl)))) Q E s := peL_eval hk _ _ _ _ _ F h fun _ _ h1 => h1
end
section
variable {M : Model} {A : Around} {E : Value → Shared → Prop} {s : Shared} {h₀ : Heap} {L a : Addr} {m : Str → Option Value} {cn : Str} {cs : Scope} {ccd : Value} {cl : List (Str × Addr)} {x : Str} {v : Value} {news : Led}
theorem store_m {Q : Unit → Shared → Prop} (F : Fr h₀ L s.heap m) (N : News h₀ L s.heap news)
    (h : ∀ h', let m' : Str → Option Value := fun y => if y = x then some v else m y; Fr h₀ L h' m' → News h₀ L h' news → Q () { s with heap := h', toks := s.toks + 1 })
    (hk : cs.kind = .function := by rfl) (hx : (envX cn cs L a ccd cl).kindOf x = some .local := by rfl) : wpAny M A (storeName (envX cn cs L a ccd cl) x v) Q E s := storeX_L F N h hk hx
theorem letA {α : Type} {t : Sem α} {Q : α → Shared → Prop} (k : let A' := A; wpAny M A' t Q E s) : wpAny M A t Q E s := k
theorem letM {h : Heap} {P : Prop} (F : Fr h₀ L h m) (k : let m' := m; Fr h₀ L h m' → P) : P := k F
end
noncomputable def ConC (prog : Program) (w : World) (f : Addr) (need : Nat) (news : Led) (vs : List Value) (RC : (Value → Led → Prop) → Prop) : Prop := ∃ R, Con prog w f need news vs R ∧ ∀ k, RC k → ∀ v nw, R v nw → k v nw
theorem Con.cps {prog : Program} {w : World} {f : Addr} {need : Nat} {news : Led} {vs : List Value} {R : Value → Led → Prop} {RC : (Value → Led → Prop) → Prop} (C : Con prog w f need news vs R) (k : ∀ k, RC k → ∀ v nw, R v nw → k v nw) : ConC prog w f need news vs RC := ⟨R, C, k⟩
end part_MP
section part_M1
noncomputable def DeckO (prog : Program) (w : World) (o : Obj) (l : Addr) : Prop := ∃ t tk, 0 ≤ t ∧ o.IsDictOf (strKind prog w) [(Str.ofString "cells", .ref l), (Str.ofString "turn", .int t tk)]
structure DeckK (d l : Addr) (vs : List Value) (cells : List Int) : Prop where
  are : IntsAre vs cells
  few : cells.length ≤ 64
  low : (d == sysModules) = false
  apart : l ≠ d
end part_M1
section part_M4
theorem off_M4 : True := by
  w_top off
  exact trivial
noncomputable abbrev badMro : List Value := [.ref 31, .type "Exception", .type "BaseException", .type "object"]
section
variable {M : Model} {A : Around} {E : Value → Shared → Prop} {h : Heap} {g : Array GenState} {d : Drawn} {t : Nat} {os : OsState}
variable {nm q : Str} {bs : List Value} {hdct : Bool} {sn : List Str} {sub : List Value} {ab : Bool} {col : Option Bool} {dd : Option Addr} {k0 k1 k2 k3 k5 : Option Value} {B initId : String} {bmB : List Value}
theorem bad_check (F : ExcBaseFacts B "Exception.__new__" initId bmB) (hB : badMro.contains (.type B) = true) {rest : List Value} {Q : Unit → Shared → Prop}
    (hC : h.get? 44 = some (excClassObj nm q 44 43 bs badMro hdct sn sub ab col dd k0 k1 k2 k3 k5 "Exception.__new__")) (hq : Q () ⟨h, g, d, t, os⟩) :
    wpAny M A (checkBuiltinCall "Exception.__new__" ⟨.ref 44 :: rest, []⟩) Q E ⟨h, g, d, t, os⟩ := by
  have hcont : (Value.ref 44 :: badMro).contains (.type B) = true := by rw [List.contains_cons, hB, Bool.or_true]
  have hstar := F.noStar
  unfold checkBuiltinCall
  rw [F.newKind, F.newSplit, F.newRow]
  dsimp only
  repeat (first | refine wpAny_loadPart_at hC ?_ | (refine wpAny_isSubtype_exc hC ?_; rw [hcont]) | refine wpAny_staticBase_exc hC ?_ | refine wpAny_madeBy_exc hC ?_ | simp only [bne_self_eq_false, Bool.false_eq_true, if_false] | wp_step)
  exact hq
end
section
variable {prog : Program} {w : World} {A : Around} {R : Result → Shared → Prop} {E : Value → Shared → Prop} {h : Heap} {g : Array GenState} {d : Drawn} {t : Nat} {os : OsState}
variable {nm q : Str} {bs : List Value} {hdct : Bool} {sn : List Str} {sub : List Value} {ab : Bool} {col : Option Bool} {dd : Option Addr} {k0 k1 k2 k3 k5 : Option Value} {B initId : String} {bmB : List Value}
theorem bad_new (F : ExcBaseFacts B "Exception.__new__" initId bmB) (hB : badMro.contains (.type B) = true) {rest : List Value}
    (hC : h.get? 44 = some (excClassObj nm q 44 43 bs badMro hdct sn sub ab col dd k0 k1 k2 k3 k5 "Exception.__new__"))
    (hq : R (.ok (.ret (.ref (h.objs.size + 1)))) ⟨(h.push { cls := .type "tuple", data := .seq rest.toArray }).push
      { cls := .ref 44, data := .fields #[.ref h.objs.size, .none, .none, .none, .bool false, .none] }, g, d, t, os⟩) (hrest : rest.length ≤ sizeLine) :
    codeAny (model prog w) A (.builtin "Exception.__new__" ⟨.ref 44 :: rest, []⟩) R ⟨h, g, d, t, os⟩ := by
  have hends := F.ends
  have hcB : (Value.ref 44 :: badMro).contains (.type B) = true := by rw [List.contains_cons, hB, Bool.or_true]
  have hcA : (Value.ref 44 :: badMro).contains (.type "AttributeError") = false := by decide
  have hcN : (Value.ref 44 :: badMro).contains (.type "NameError") = false := by decide
  refine codeAny_builtinAt F.entry ?_
  unfold Builtin.«BaseException.__new__»
  refine PySem.wpAt_bind ?_
  show PySem.wpAt _ _ _ (stack >>= _) _ _ _
  refine PySem.wpAt_bind (PySem.wpAt_stack fun p below => PySem.wpAt_of_wpAny ?_)
  wp_walk
  refine PySem.wpAt_of_wpAny ?_
  rw [F.owner]
  repeat (first | with_reducible refine wpAny_madeHere_exc F.canon hC ?_ | with_reducible refine wpAny_loadPart_at hC ?_ | (with_reducible refine wpAny_isSubtype_exc hC ?_; first | rw [hcB] | rw [hcA] | rw [hcN]) | wp_step)
  show R _ _
  rw [Heap.size_push]
  exact hq
end
section
variable {prog : Program} {w : World} {A : Around} {E : Value → Shared → Prop} {h : Heap} {g : Array GenState} {d : Drawn} {t : Nat} {os : OsState} {P : Params} {B initId : String} {bmB : List Value}
theorem bad_typecall (F : ExcBaseFacts B "Exception.__new__" initId bmB) (hB : badMro.contains (.type B) = true) (X : (hd.heap_39 P).In h) {v : Value} {Q : Fin → Shared → Prop}
    (hq : ∀ h' e, Heap.MadeExcOf h h' e (.ref 44) [v] →
      wpAny (model prog w) A (call (.ref 28) [.ref e, v]) (fun r s' => r = .none ∧ Q (.done (.ret (.ref e))) s') E ⟨h', g, d, t, os⟩) :
    wpAny (model prog w) A (Builtin.«type.__call__» ⟨[.ref 44, v], []⟩) Q E ⟨h, g, d, t, os⟩ := by
  have hC : Heap.get? h 44 = some (excClassObj _ _ 44 43 _ badMro _ _ _ _ _ _ _ _ _ _ _ "Exception.__new__") := X _ _ (by k_is)
  repeat (first | with_reducible refine wpAny_loadPart_at hC ?_ | with_reducible refine wpAny_madeBy_exc hC ?_ | wp_step)
  refine codeAny_call_builtin_code (Code.quiet_builtin _ F.quiet) (bad_check F hB hC ?_)
  refine bad_new F hB hC ?_ (by size_fits)
  show wpAny _ _ _ _ _ _
  have kp : ∀ b o, h.get? b = some o → ((h.push { cls := .type "tuple", data := .seq #[v] }).push { cls := .ref 44, data := .fields #[.ref h.objs.size, .none, .none, .none, .bool false, .none] }).get? b = some o :=
    fun b o e => Heap.get?_push_of_some _ (Heap.get?_push_of_some _ e)
  have hC₁ := kp _ _ hC
  have X₁ := X.keeps kp
  have hget : ((h.push { cls := .type "tuple", data := .seq #[v] }).push
      { cls := .ref 44, data := .fields #[.ref h.objs.size, .none, .none, .none, .bool false, .none] }).get? (h.objs.size + 1) = some
      { cls := .ref 44, data := .fields #[.ref h.objs.size, .none, .none, .none, .bool false, .none] } := by heap_get
  have hcC : (Value.ref 44 :: badMro).contains (.ref 44) = true := by decide
  unfold isInstance
  repeat (first | with_reducible refine wpAny_loadPart_at hget ?_ | (with_reducible refine wpAny_isSubtype_exc hC₁ ?_; rw [hcC]) | wp_step)
  show wpAny _ _ (typeLookup (.ref 44) _) _ _ _
  refine Looks.here (r := some (.ref 28)) (looks_findIn X₁ (by k_is)) ?_
  have hf : ∃ oI, ((h.push { cls := .type "tuple", data := .seq #[v] }).push { cls := .ref 44, data := .fields #[.ref h.objs.size, .none, .none, .none, .bool false, .none] }).get? 28 = some oI ∧ oI.cls = .type "function" := ⟨_, X₁ _ _ (by k_is), rfl⟩
  obtain ⟨oI, hfI, hfc⟩ := hf
  refine wpAny_holding (wpAny_bind ?_)
  unfold bindSpecial
  refine wpAny_bind (wpAny_typeOf (T := "function") ⟨_, hfI, hfc⟩ ?_)
  rw [if_pos (by decide)]
  refine wpAny_pure (wpAny_bind (wpAny_mono (hq _ (h.objs.size + 1) ⟨kp, Heap.get?_none_of_le (Nat.le_succ _), h.objs.size, hget, Heap.get?_none_of_le (Nat.le_refl _), ?_⟩) (fun r s' hr => ?_) fun _ _ x => x))
  · exact Heap.get?_push_of_some _ (Heap.get?_push_at rfl rfl)
  · obtain ⟨rfl, hQ⟩ := hr
    wp_walk
    exact hQ
theorem bad_call (F : ExcBaseFacts B "Exception.__new__" initId bmB) (hB : badMro.contains (.type B) = true) {s : Shared} (X : (hd.heap_39 P).In s.heap) {v : Value} {Q : Value → Shared → Prop}
    (hq : ∀ h' e, Heap.MadeExcOf s.heap h' e (.ref 44) [v] →
      wpAny (model prog w) (A.under (.builtin "type.__call__" ⟨[.ref 44, v], []⟩)) (call (.ref 28) [.ref e, v]) (fun r s' => r = .none ∧ Q (.ref e) s') E { s with heap := h' }) :
    wpAny (model prog w) A (call (.ref 44) [v]) Q E s := by
  obtain ⟨h, g, d, t, os⟩ := s
  have hC : Heap.get? h 44 = some (excClassObj _ _ 44 43 _ badMro _ _ _ _ _ _ _ _ _ _ _ "Exception.__new__") := X _ _ (by k_is)
  have f1 := tc_lookup
  have f2 := tc_bind (.ref 44)
  have hT : (⟨h, g, d, t, os⟩ : Shared).TypeIs (.ref 44) "type" := ⟨_, hC, rfl⟩
  refine wpAny_call (codeAny_of_tree ?_)
  show wpAny _ _ (callAny (.ref 44) _) _ _ _
  repeat (any_goals (first | assumption | with_reducible refine wpAny_loadPart_at hC ?_ | wp_step))
  refine ⟨rfl, ?_⟩
  refine codeAny_call_builtin_at (Code.quiet_builtin _ (by decide +kernel)) entry_typeCall (wpAny_check_type_call_sub hC (bad_typecall F hB X fun h' e hm => ?_))
  exact hq h' e hm
end
end part_M4
section part_M5
theorem off_M5 : True := by
  w_top off
  exact trivial
noncomputable abbrev excOf (T : Addr) (d : Option Addr) : Obj := ⟨.ref 44, d, .fields #[.ref T, .none, .none, .none, .bool false, .none], #[]⟩
noncomputable abbrev tupOf (vs : List Value) : Obj := { cls := .type "tuple", data := .seq vs.toArray }
open PySem.Builtin PySem.Builtin.ObjectAttr
theorem refuse_bad (self : Value) : refuseLoop self "__setattr__" (.ref 44 :: badMro) = pure () := by
  rw [refuseLoop_ref, refuseLoop_ref]
  kernel_rfl
theorem clsIn_bad {P : Params} : ∃ cd, clsIn (hd.heap_39 P) 44 = some cd ∧ cd.hasDict = true ∧ cd.mro = .ref 44 :: badMro := ⟨_, by k_is, rfl, rfl⟩
section
variable {prog : Program} {w : World} {A : Around} {E : Value → Shared → Prop} {s : Shared} {g : Heap} {L e T : Addr} {m : Str → Option Value} {rest : Led} {name : Str} {v : Value} {Q : Unit → Shared → Prop}
theorem bad_setattr (F : Fr g L s.heap m) (X₀ : (hd.heap_39 w.params).In g) (N : News g L s.heap ((e, excOf T none) :: rest)) (hne : ∀ p ∈ rest, p.1 ≠ e) (hname : name = Str.ofString "text")
    (h : ∀ h' d tk', Fr g L h' m → News g L h' ((e, excOf T (some d)) :: rest) → Q () { s with heap := h', toks := tk' }) :
    wpAny (model prog w) A (setAttr (.ref e) name v) Q E s := by
  subst hname
  have X := X₀.keeps F.keep
  have he := (N _ (.head _)).1
  have I : InstAt s.heap e (excOf T none) 44 none := ⟨he, rfl, rfl, trivial⟩
  refine set_plain X I (by k_is) ?_
  generalize hs1 : ({ s with toks := s.toks + 1 } : Shared) = s1
  have I1 : InstAt s1.heap e (excOf T none) 44 none := by subst hs1; exact I
  have X1 : (hd.heap_39 w.params).In s1.heap := by subst hs1; exact X
  have F1 : Fr g L s1.heap m := by subst hs1; exact F
  have N1 : News g L s1.heap ((e, excOf T none) :: rest) := by subst hs1; exact N
  have SF := PySem.F.store_object
  obtain ⟨cd, hc, hdict, hmro⟩ := clsIn_bad (P := w.params)
  have sub : Looks (model prog w) s1.heap (isInstance (.ref e) (.type "object")) true := I1.type.andThen (looks_mroIn X1 (by k_is))
  refine codeAny_call_builtin SF.slot.plain SF.entry (@check_slot (model prog w) _ _ s1 "object.__setattr__" "object" "__setattr__" (.ref e) [.str (Str.ofString "text") s.toks, v] [] _ SF.kind SF.split sub (SF.args (.ref e) (.str (Str.ofString "text") s.toks) v) ?_)
  have hm : Looks (model prog w) s1.heap (mroOf (.ref 44)) cd.mro := (looks_clsIn X1 hc).andThen .now
  rw [osa_eq, refuse_eq]
  refine wpAny_bind (wpAny_bind (I1.type.here (wpAny_bind (hm.here ?_))))
  rw [hmro, refuse_bad]
  refine wpAny_pure (wpAny_bind (I1.type.here (wpAny_bind ((looks_findIn (r := none) X1 (by k_is)).here (wpAny_bind (wpAny_pure ?_))))))
  show wpAny _ _ (storeInOwnDict (.ref e) (.ref 44) _ _ _ _) _ _ _
  unfold storeInOwnDict
  refine wpAny_bind (wpAny_pure ?_)
  rw [if_neg (by decide)]
  refine wpAny_bind ?_
  unfold ownDictForStores instanceDict
  dsimp only
  refine wpAny_bind (wpAny_loadPart I1.at_ ?_)
  dsimp only
  refine wpAny_bind ?_
  refine (looks_clsIn X1 hc).here ?_
  rw [hdict]
  simp only [Bool.not_true, Bool.false_eq_true, if_false]
  rw [if_neg (by decide)]
  have hlt : e < s1.heap.objs.size := Heap.lt_size I1.at_
  have F2 := F1.push { cls := .type "dict", data := .dict #[] }
  have N2 := N1.push F1 { cls := .type "dict", data := .dict #[] }
  refine wpAny_bind (wpAny_alloc ?_)
  have U := news_upd (f := fun o : Obj => { o with dict := some s1.heap.objs.size }) (pre := [(s1.heap.objs.size, { cls := .type "dict", data := .dict #[] })]) F2 N2 (by intro p hp; rw [List.mem_singleton.mp hp]; exact Nat.ne_of_gt hlt) hne (o' := excOf T (some s1.heap.objs.size)) rfl rfl
  refine wpAny_bind (wpAny_update (N2 _ (.tail _ (.head _))).1 ?_)
  generalize hh2 : Heap.update (Heap.push s1.heap { cls := .type "dict", data := .dict #[] }) e (fun o : Obj => { o with dict := some s1.heap.objs.size }) = h2 at U ⊢
  show wpAny _ _ (pure (some s1.heap.objs.size)) _ _ _
  refine wpAny_pure ?_
  dsimp only
  unfold storeInDict
  refine wpAny_bind (wpAny_pure (wpAny_bind ?_))
  obtain ⟨F3, N3⟩ := U
  have D3 := (N3 _ (.head _)).1
  unfold nsSet
  refine wpAny_bind (wpAny_bind (wpAny_askSetting (wpAny_pure (wpAny_bind (wpAny_mkText (wpAny_bind (wpAny_loadPart D3 ?_)))))))
  dsimp only
  have hno : aRefKeyMayBeTheName (Str.ofString "text") #[] = false := by rw [aRefKeyMayBeTheName_at]; simp
  rw [hno]
  simp only [Bool.false_eq_true, if_false]
  refine wpAny_updatePart D3 ?_
  obtain ⟨hsh, hhsh⟩ : ∃ x, x = (if Array.isEmpty (Str.cps (Str.ofString "text")) = true then (0 : Int) else reduceHash (Params.strHash (Setting.params { program := Model.prog (model prog w), params := World.params (Model.w (model prog w)) }) (Str.cps (Str.ofString "text")))) := ⟨_, rfl⟩
  rw [← hhsh]
  have ep := putName_dict (Str.ofString "text") hsh (.str (Str.ofString "text") s1.toks) v [] 0
  have U4 := news_upd (f := Obj.putName (Str.ofString "text") hsh (.str (Str.ofString "text") s1.toks) v) (pre := []) F3 N3 (fun _ hp => nomatch hp) (by
    intro p hp
    rcases List.mem_cons.mp hp with rfl | hp
    · exact Nat.ne_of_lt hlt
    · exact Nat.ne_of_lt (Heap.lt_size (N1 _ (.tail _ hp)).1)) ep rfl
  obtain ⟨F4, N4⟩ := U4
  refine wpAny_bind (wpAny_lookBehind (N4 _ (.head _)).1 (pastItsLine_dict (by rw [sizeLine_eq]; exact Nat.le_of_ble_eq_true rfl)) ?_)
  have hs : s = { s1 with toks := s.toks } := by subst hs1; rfl
  refine wpAny_pure ?_
  have fin := h _ s1.heap.objs.size (s1.toks + 1) F4 (fun p hp => N4 p (.tail _ hp))
  subst hs1
  exact fin
theorem bad_init {x : Value} {Q : Value → Shared → Prop} (F : Fr g L s.heap m) (X₀ : (hd.heap_39 w.params).In g) (N : News g L s.heap ((e, excOf T none) :: rest)) (hne : ∀ p ∈ rest, p.1 ≠ e)
    (h : ∀ h' T', Fr g L h' m → News g L h' ((e, excOf T' none) :: (T', tupOf [x]) :: rest) → e < T' → (∀ p ∈ rest, p.1 < T') → Q .none { s with heap := h' }) :
    wpAny (model prog w) A (call (.builtin "Exception.__init__") [.ref e, x]) Q E s := by
  have X := X₀.keeps F.keep
  have he := (N _ (.head _)).1
  have F0 := PySem.F.excBase_Exception
  obtain ⟨hp, g', d, t, os⟩ := s
  have hC : Heap.get? hp 44 = some (excClassObj _ _ 44 43 _ badMro _ _ _ _ _ _ _ _ _ _ _ "Exception.__new__") := X _ _ (by k_is)
  have hcB : (Value.ref 44 :: badMro).contains (.type "Exception") = true := by decide
  have hshort := F0.noStar
  refine wpAny_call (codeAny_call_builtin F0.init.plain F0.initEntry ?_)
  have chk : ∀ {M : Model} {A : Around} {E : Value → Shared → Prop} {Q : Unit → Shared → Prop}, Q () ⟨hp, g', d, t, os⟩ → wpAny M A (checkBuiltinCall "Exception.__init__" ⟨[.ref e, x], []⟩) Q E ⟨hp, g', d, t, os⟩ := by
    intro M A E Q hq
    unfold checkBuiltinCall
    rw [F0.initKind, F0.initSplit, F0.initRow]
    dsimp only
    repeat (first | (with_reducible refine wpAny_loadPart_at he ?_) | with_reducible refine wpAny_loadPart_at hC ?_ | (with_reducible refine wpAny_isSubtype_exc hC ?_; rw [hcB]) | wp_step)
    exact hq
  refine chk ?_
  wp_walk
  show Q .none ⟨(hp.push { cls := .type "tuple", data := .seq #[x] }).update e (Obj.mapFields fun y => y.setIfInBounds 0 (Value.ref hp.objs.size)), g', d, t, os⟩
  have hlt : e < hp.objs.size := Heap.lt_size he
  have N2 := N.push F { cls := .type "tuple", data := .seq #[x] }
  have U := news_upd (f := Obj.mapFields fun y => y.setIfInBounds 0 (Value.ref hp.objs.size)) (pre := [(hp.objs.size, { cls := .type "tuple", data := .seq #[x] })]) (F.push { cls := .type "tuple", data := .seq #[x] }) N2
    (by intro p hp; rw [List.mem_singleton.mp hp]; exact Nat.ne_of_gt hlt) hne (o' := excOf hp.objs.size none) rfl rfl
  refine h _ hp.objs.size U.1 (fun p hp => U.2 p ?_) hlt (fun p hp => Heap.lt_size (N _ (.tail _ hp)).1)
  rcases List.mem_cons.mp hp with rfl | hp
  · exact .tail _ (.head _)
  · rcases List.mem_cons.mp hp with rfl | hp
    · exact .head _
    · exact .tail _ (.tail _ hp)
end
end part_M5
section part_M6
theorem off_M6 : True := by
  w_top off
  exact trivial
theorem meta_exc : typeOf (.type "Exception") = pure (.type "type") := by kernel_rfl
section
local macro_rules | `(tactic| walk_at "getMethod type:Exception") => `(tactic| (k_here; refine' method_type ?F ?X ?m (by decide +kernel) ?e ?h ?_; (case F => k_asm); (case X => k_asm); (case m => exact meta_exc); (case e => k_dflt k_is); (case h => k_handed)))
local macro_rules | `(tactic| walk_at "call builtin:Exception.__init__") => `(tactic| (k_here; k_dflt (refine' bad_init ?F ?X ?N ?n ?_; (case F => k_asm); (case X => k_asm); (case N => k_asm); (case n => assumption)); intro h9 T9 F9 N9 l9 l8))
theorem under_frames {A : Around} {l : List Env} {args : List Value} (h : A.frames = some l) : (A.under (.builtin "type.__call__" ⟨args, []⟩)).frames = some l := by
  obtain ⟨a, b, c, d, e⟩ := A
  cases h
  rfl
theorem ne_tup {news : Led} {e T : Addr} {o : Obj} (h : ∀ p ∈ news, p.1 ≠ e) (l : e < T) : ∀ p ∈ (T, o) :: news, p.1 ≠ e := by
  intro p hp
  rcases List.mem_cons.mp hp with rfl | hp
  · exact Nat.ne_of_gt l
  · exact h p hp
local macro_rules | `(tactic| walk_at "setAttr ref") => `(tactic| (k_here; k_dflt (refine' bad_setattr ?F ?X ?N ?n rfl ?_; (case F => k_asm); (case X => k_asm); (case N => k_asm); (case n => exact ne_tup (by assumption) (by assumption))); intro h9 d9 tk9 F9 N9))
variable {prog : Program} {w : World} {A A₀ : Around} {E : Value → Shared → Prop} {s : Shared} {base g : Heap} {env : Env} {outer : List Env} {L : Addr} {m mg mb : Str → Option Value} {p : Program} {loose : List Str} {mean : ExcName → Option Value} {news : Led} {x : Str} {t : Tok} {Q : Value → Shared → Prop}
theorem bad_made (B : Below A₀ base outer g) (F : Fr g L s.heap m) (X : (hd.heap_39 w.params).In g) (N : News g L s.heap news) (T : Top p loose mean mg mb g)
    (hA : A.frames = some (env :: outer)) (hf : env.frame = some L) (hke : env.scope.kind = .function) (hd : A.depth + 3 < recursionLimit)
    (hq : ∀ (h' : Heap) (e T' d : Addr) (tk' : Nat), Fr g L h' m → News g L h' ((e, excOf T' (some d)) :: (T', tupOf [.str x t]) :: news) → (∀ p ∈ news, p.1 ≠ e) → (∀ p ∈ news, p.1 < T') → e < T' → Q (.ref e) { s with heap := h', toks := tk' }) : wpAny (model prog w) A (call (.ref 44) [.str x t]) Q E s := by
  refine bad_call PySem.F.excBase_Exception (by decide) (X.keeps F.keep) fun h' e hm => ?_
  obtain ⟨t₁, he, htn, ht⟩ := hm.there
  have F₁ : Fr g L h' m := F.of_stays (fun b o e => hm.keeps _ _ (F.keep _ _ e)) (Heap.UpToSlots.of_keeps hm.keeps)
  have hne : ∀ p ∈ news, p.1 ≠ e := fun p hp z => by have h1 := (N p hp).1; have h2 := hm.new; rw [← z, h1] at h2; cases h2
  have hL : L ≠ e := fun z => by obtain ⟨oL, _, _, hoL, _⟩ := F.ns; have h2 := hm.new; rw [← z, hoL] at h2; cases h2
  have hge : g.get? e = none := by
    cases q : g.get? e with
    | none => rfl
    | some o => have h1 := F.keep _ _ q; have h2 := hm.new; rw [h1] at h2; cases h2
  have N₁ : News g L h' ((e, excOf t₁ none) :: news) := by
    intro p hp
    rcases List.mem_cons.mp hp with rfl | hp
    · exact ⟨he, fun z => hL z.symm, hge⟩
    · exact ⟨hm.keeps _ _ (N p hp).1, (N p hp).2⟩
  refine wpAny_call ?_
  refine' code_def B F₁ X N₁ T ?kA hf hke ?k6 ?k7 ?k8 ?k9 ?kB ?_ ?c2 ?c3 ?c4 ?c5
  case kA => exact under_frames hA
  case k6 => k_is
  case k7 => k_is
  case k8 => (simp only [depth_under_make]; omega)
  case k9 => exact BindsTo.of_eq rfl
  case kB => exact locs rfl
  case c2 => exact rfl
  case c3 => exact rfl
  case c4 => exact rfl
  case c5 => decide
  intro g' L' h' FG' F' N' B' X' T'
  dsimp only
  k_steps
  all_goals exact hq _ _ _ _ _ (by k_asm) (by k_asm) hne (by assumption) (by assumption)
end
end part_M6
section part_M7
noncomputable def BadRaised (P : Params) (E : Value → Shared → Prop) (v : Value) (s₁ : Shared) : Prop :=
  ∃ e T d, v = .ref e ∧ (hd.heap_39 P).In s₁.heap ∧ s₁.heap.get? e = some (excOf T (some d)) ∧ E (.ref e) s₁
section
variable {M : Model} {A : Around} {E : Value → Shared → Prop} {s : Shared} {env : Env} {P : Params}
theorem raise_stmt {x : Sem Value} {Q : Flow → Shared → Prop} (hh : A.handled = none) (h : wpAny M A x (BadRaised P E) E s) : wpAny M A (raiseStmt env (some x) none) Q E s := by
  unfold raiseStmt
  refine wpAny_bind (wpAny_mono h (fun v s₁ h₁ => ?_) fun _ _ x => x)
  obtain ⟨e, T, d', rfl, X, he, hE⟩ := h₁
  obtain ⟨hp, g, d, tk, os⟩ := s₁
  have hC : Heap.get? hp 44 = some (excClassObj _ _ 44 43 _ badMro _ _ _ _ _ _ _ _ _ _ _ "Exception.__new__") := X _ _ (by k_is)
  have hcB : (Value.ref 44 :: badMro).contains (.type "BaseException") = true := by decide
  repeat (first | with_reducible refine wpAny_loadPart_at he ?_ | with_reducible refine wpAny_loadPart_at hC ?_ | (with_reducible refine wpAny_isSubtype_exc hC ?_; rw [hcB]) | wp_step)
  exact wpAny_raiseNew_none hh hE
theorem Raise_bad {g : Heap} {e : PySem.Expr} {pos : Pos} {Q : Flow → Shared → Prop} (_ : (hd.heap_39 P).In g) (hh : A.handled = none)
    (h : wpAny M A (eval e env) (BadRaised P E) E s) : wpAny M A (exec (.Raise (some e) none pos) env) Q E s := by
  show wpAny M A (do standAt pos; raiseStmt env (some (do let v ← eval e env; standAt pos; pure v)) none) Q E s
  exact wpAny_bind (wpAny_standAt (raise_stmt hh (wpAny_bind (wpAny_mono h (fun v s₁ h₁ => wpAny_bind (wpAny_standAt (wpAny_pure h₁))) fun _ _ x => x))))
end
section
variable {M : Model} {A : Around} {E : Value → Shared → Prop} {s' : Shared} {base g : Heap} {outer : List Env} {L a e T d : Addr} {m : Str → Option Value} {name : Str} {scope : Scope} {cd : Value} {Q : Unit → Shared → Prop} {news : Led} {vs : List Value}
theorem leave_bad (K : Below A base outer g) (F : Fr g L s'.heap m) (N : News g L s'.heap ((e, excOf T (some d)) :: (T, tupOf vs) :: news)) (h1 : ∀ p ∈ news, p.1 ≠ e) (h2 : ∀ p ∈ news, p.1 < T) (h3 : e < T)
    (hQ : ∀ h', RaisedS base g outer e (.ref 44) T vs news h' → g.UpToSlots h' → Q () { s' with heap := h' }) (hk : scope.kind = .function := by rfl) :
    wpAny M (A.deeper (envOf name scope L a cd)) (leaving (envOf name scope L a cd) (.ref e)) Q E s' := by
  have he := N _ (.head _)
  have hT := N _ (.tail _ (.head _))
  obtain ⟨oL, esL, epL, hoL, rL⟩ := F.ns
  have hin2 : ∀ b, b ∈ [e, T] → b = e ∨ b = T := fun b hb => by
    rcases List.mem_cons.mp hb with h | h
    · exact .inl h
    · exact .inr (List.mem_singleton.mp h)
  have off : ∀ b o, g.get? b = some o → b ∉ [e, T] := fun b o q hb => by
    rcases hin2 b hb with rfl | rfl
    · rw [he.2.2] at q; cases q
    · rw [hT.2.2] at q; cases q
  have hLoff : L ∉ [e, T] := fun hb => by
    rcases hin2 L hb with h | h
    · exact he.2.1 h.symm
    · exact hT.2.1 h.symm
  generalize hH : hideAll s'.heap [e, T] = H
  have kH : ∀ b o, H.get? b = some o → s'.heap.get? b = some o := fun b o q => by subst hH; exact of_hideAll _ q
  have FH : Fr g L H m := by
    subst hH
    exact ⟨⟨oL, esL, epL, hideAll_get _ hoL hLoff, rL⟩, fun b o q => hideAll_get _ (F.keep b o q) (off b o q), F.above⟩
  have NH : News g L H news := fun p hp => by
    subst hH
    refine ⟨hideAll_get _ (N p (.tail _ (.tail _ hp))).1 fun hb => ?_, (N p (.tail _ (.tail _ hp))).2⟩
    rcases hin2 _ hb with h | h
    · exact h1 p hp h
    · exact Nat.ne_of_lt (h2 p hp) h
  have eH : H.get? e = none := by subst hH; exact hideAll_none _ (.head _)
  have tH : H.get? T = none := by subst hH; exact hideAll_none _ (.tail _ (.head _))
  have K' := K.push (name := name) (a := a) (cd := cd) FH hk
  have hin : ∀ env ∈ (envOf name scope L a cd :: outer), ∀ b, env.frame = some b → b ∈ (envOf name scope L a cd :: outer).filterMap (·.frame) := fun env he b hb => List.mem_filterMap.mpr ⟨env, he, hb⟩
  have st : base.StaysIn (hideAll H ((envOf name scope L a cd :: outer).filterMap (·.frame))) := fun b o q => hideAll_get _ (K'.stays b o q) fun hm => by
    rw [(K'.frames.mem hm).1] at q; cases q
  have sg : ∀ b o, g.get? b = some o → b ∉ outer.filterMap (·.frame) → (hideAll H ((envOf name scope L a cd :: outer).filterMap (·.frame))).get? b = some o := fun b o q nm => hideAll_get _ (FH.keep b o q) fun hm => by
    rcases kts_mem hm with z | z
    · rw [z, kts_self FH] at q
      cases q
    · exact nm z
  have hl : ∀ q ∈ news, (hideAll H ((envOf name scope L a cd :: outer).filterMap (·.frame))).get? q.1 = some q.2 ∧ g.get? q.1 = none ∧ base.get? q.1 = none := fun q hq => by
    refine ⟨hideAll_get _ (NH q hq).1 fun hm => ?_, (NH q hq).2.2, fresh_of_stays K.stays (NH q hq).2.2⟩
    obtain ⟨env, he, hf⟩ := List.mem_filterMap.mp hm
    rcases List.mem_cons.mp he with rfl | he
    · exact (NH q hq).2.1 (Option.some.inj hf).symm
    · obtain ⟨o, ho, _⟩ := (K.frames.mem (List.mem_filterMap.mpr ⟨env, he, hf⟩)).2
      rw [(NH q hq).2.2] at ho; cases ho
  have fr := funFrames_hide K'.frames hin
  have none_B : ∀ b, H.get? b = none → (hideAll H ((envOf name scope L a cd :: outer).filterMap (·.frame))).get? b = none := fun b hb => by
    cases q : (hideAll H ((envOf name scope L a cd :: outer).filterMap (·.frame))).get? b with
    | none => rfl
    | some o => have := of_hideAll _ q; rw [hb] at this; cases this
  refine wpAny_leaving_firstW (a0 := .ref T) K'.stack (fr.of_keeps fun b o hb _ => ⟨o, kH b o hb, rfl⟩) rfl he.1 (fun b o q => kH b o (of_hideAll _ q)) (none_B e eH) rfl rfl rfl fun h' hL => ?_
  obtain ⟨k1, ⟨_, _, k2⟩, k3, k4⟩ := hL
  exact hQ h' ⟨⟨_, st, sg, hl, ⟨k1, none_B e eH, k2, k3⟩, none_B T tH⟩, Heap.TupAt.of_slots ⟨_, _, hT.1, rfl, rfl⟩ k4⟩ ((Heap.UpToSlots.of_keeps F.keep).trans k4)
end
section
variable {prog : Program} {w : World} {A A₀ : Around} {E₀ : Value → Shared → Prop} {s : Shared} {base g : Heap} {outer : List Env} {L a : Addr} {m mg mb : Str → Option Value} {name : Str} {scope : Scope} {cd : Value} {p : Program} {loose : List Str} {mean : ExcName → Option Value} {news : Led}
theorem raise_text {x y : Str} {t : Tok} {p1 p2 p3 p4 : Pos} {Q : Flow → Shared → Prop} (B : Below A base outer g) (F : Fr g L s.heap m) (X : (hd.heap_39 w.params).In g) (N : News g L s.heap news) (T : Top p loose mean mg mb g)
    (hv : locv scope.names m x = some (.str y t)) (hb : nsIn (hd.heap_39 w.params) mainGlobals (Str.ofString "BadMove") = some (some (.ref 44))) (hx : scope.names.lookup (Str.ofString "BadMove") = some .globalImplicit)
    (hkk : keepIn (hd.heap_39 w.params) (.ref 44) = true) (hk : scope.kind = .function) (hh : A.handled = none) (hA : (A.deeper (envOf name scope L a cd)).frames = some (envOf name scope L a cd :: outer)) (hdp : (A.deeper (envOf name scope L a cd)).depth + 3 < recursionLimit)
    (hQ : ∀ e T' h' tk', RaisedS base g outer e (.ref 44) T' [.str y t] news h' → g.UpToSlots h' → E₀ (.ref e) { s with heap := h', toks := tk' }) :
    wpAny (model prog w) (A.deeper (envOf name scope L a cd)) (exec (.Raise (some (.Call (.Name (Str.ofString "BadMove") p1) [.Name x p2] [] p3)) none p4) (envOf name scope L a cd)) Q
      (fun e s' => wpAny (model prog w) (A.deeper (envOf name scope L a cd)) (leaving (envOf name scope L a cd) e) (fun _ s'' => E₀ e s'') (fun e' s'' => E₀ e' s'') s') s := by
  obtain ⟨h1, h2, h3⟩ := locv_some hv
  refine Raise_bad X hh (call_plain F X (topRead_of T) hb hkk rfl ?_ hk hx (by decide))
  show atV (locv scope.names m x) _
  rw [hv]
  exact bad_made B F X N T hA rfl hk hdp fun h' e T' d tk' F' N' l7 l8 l9 => ⟨e, T', d, rfl, X.keeps F'.keep, (N' _ (.head _)).1, leave_bad B F' N' l7 l8 l9 (fun h9 r u => hQ e T' h9 tk' r u) hk⟩
end
end part_M7
section part_ML
noncomputable def Turns {σ : Type} (ld : σ → Led) (ps : σ → List (Str × Value)) (x : Str) (stored : List Str) (m₀ : Str → Option Value) (P : Nat → σ → Prop) (i : Nat) (m : Str → Option Value) (nx : Led) : Prop :=
  ∃ c : σ, nx = ld c ∧ (∀ p ∈ ps c, m p.1 = some p.2) ∧ (∀ z, z ≠ x → (∀ p ∈ ps c, z ≠ p.1) → stored.contains z = false → m z = m₀ z) ∧ P i c
noncomputable abbrev within {σ : Type} (ps : σ → List (Str × Value)) (stored : List Str) (m₀ u : Str → Option Value) (c : σ) : Str → Option Value := kstB (fun z => if stored.contains z then u z else m₀ z) (ps c)
section
variable {prog : Program} {w : World} {A : Around} {E : Value → Shared → Prop} {s : Shared} {env : Env} {h₀ : Heap} {x : Str} {body : List Stmt} {Q : Flow → Shared → Prop}
theorem loop_list {σ : Type} {l : Addr} {vs : List Value} {nn : Nat} {m₀ : Str → Option Value} (ld : σ → Led) (ps : σ → List (Str × Value)) (stored : List Str) (P : Nat → σ → Prop) (c₀ : σ)
    (hh : A.handled = none) (hl : ∀ c, (l, listOf vs.toArray nn) ∈ ld c) (F : Fr h₀ env.locals s.heap m₀) (N : News h₀ env.locals s.heap (ld c₀)) (hk : ∀ p ∈ ps c₀, m₀ p.1 = some p.2) (hp : P 0 c₀)
    (turn : ∀ (c : σ) i v (u : Str → Option Value) h tk own, vs[i]? = some v → OwnOff own ((ld c).map (·.1)) → P i c →
      Fr h₀ env.locals h (fun y => if y = x then some v else within ps stored m₀ u c y) → News h₀ env.locals h (ld c ++ own) →
      wpAny (model prog w) A (execs body env) (InvPostG h₀ env.locals (Turns ld ps x stored m₀ P (i + 1)) own { s with heap := h, toks := tk } Q) E { s with heap := h, toks := tk })
    (done : ∀ (c : σ) (u : Str → Option Value) h tk, P vs.length c → Fr h₀ env.locals h (fun y => if y = x then u y else within ps stored m₀ u c y) → News h₀ env.locals h (ld c) → Q .next { s with heap := h, toks := tk }) :
    wpAny (model prog w) A (pyIter (.ref l)) (fun it s₂ => LoopAtV prog w A h₀ env x body Q E it s₂) E s := by
  refine kdl_iter (fun i m nx => Turns ld ps x stored m₀ P i m nx) hh (hl c₀) F N ⟨c₀, rfl, hk, fun _ _ _ _ => rfl, hp⟩ ?_ ?_
  · rintro i v m₁ nx h tk own hv hoff _ ⟨c, rfl, h1, h2, hp'⟩ F₁ N₁
    refine wpAny_mono (turn c i v m₁ h tk own hv hoff hp' (kst_fr h1 h2 F₁) N₁) (fun f s₂ p => ?_) fun _ _ x => x
    have up : InvEndG h₀ env.locals (Turns ld ps x stored m₀ P (i + 1)) own { s with heap := h, toks := tk } s₂ →
        InvEndG h₀ env.locals (fun m' nx => (l, listOf vs.toArray nn) ∈ nx ∧ Turns ld ps x stored m₀ P (i + 1) m' nx) own { s with heap := h, toks := tk } s₂ := by
      rintro ⟨h', tk', m', news', nx', e', F', N', hn', ho', ha, hS⟩
      refine ⟨h', tk', m', news', nx', e', F', N', hn', ho', ha, ?_, hS⟩
      obtain ⟨c', rfl, _⟩ := hS
      exact hl c'
    cases f with
    | ret v => exact p
    | brk => exact p
    | next => exact up p
    | cont => exact up p
  · rintro m₁ nx h tk ⟨c, rfl, h1, h2, hp'⟩ F₁ N₁
    exact done c m₁ h tk hp' (kst_frOut h1 h2 F₁) N₁
theorem loop_range {σ : Type} {r : Addr} {a₀ b₀ : Int} {t₀ u₀ v₀ : Tok} {n : Nat} {m₀ : Str → Option Value} (ld : σ → Led) (ps : σ → List (Str × Value)) (stored : List Str) (P : Nat → σ → Prop) (c₀ : σ)
    (hh : A.handled = none) (hr : IsRange s.heap r a₀ b₀ 1 t₀ u₀ v₀) (hsmall : Builtin.Range.small a₀ b₀ 1 = true) (hsz : Builtin.Range.rangeSize a₀ b₀ 1 = (n : Int)) (F : Fr h₀ env.locals s.heap m₀) (N : News h₀ env.locals s.heap (ld c₀)) (hk : ∀ p ∈ ps c₀, m₀ p.1 = some p.2) (hp : P 0 c₀)
    (turn : ∀ (c : σ) (i : Nat) t (u : Str → Option Value) h tk own, i < n → OwnOff own ((ld c).map (·.1)) → P i c →
      Fr h₀ env.locals h (fun y => if y = x then some (.int (a₀ + i) t) else within ps stored m₀ u c y) → News h₀ env.locals h (ld c ++ own) →
      wpAny (model prog w) A (execs body env) (InvPostG h₀ env.locals (Turns ld ps x stored m₀ P (i + 1)) own { s with heap := h, toks := tk } Q) E { s with heap := h, toks := tk })
    (done : ∀ (c : σ) (u : Str → Option Value) h tk, P n c → Fr h₀ env.locals h (fun y => if y = x then u y else within ps stored m₀ u c y) → News h₀ env.locals h (ld c) → Q .next { s with heap := h, toks := tk }) :
    wpAny (model prog w) A (pyIter (.ref r)) (fun it s₂ => LoopAtV prog w A h₀ env x body Q E it s₂) E s := by
  refine wpAny_pyIter_range hr hsmall ?_
  have W : Walks prog w A s.heap.objs.size [s.heap.objs.size] [s.heap.objs.size] n (fun i v => i < n ∧ ∃ t, v = .int (a₀ + i * 1) t)
      (fun i h => IsRangeIter h s.heap.objs.size (a₀ + (i : Nat) * 1) ((n : Int) - (i : Nat)) 1) := (Walks.range hh _ a₀ 1 n).bound
  refine kdr_loop (fun i m nx => Turns ld ps x stored m₀ P i m nx) W (fun _ h => h) (fun _ h => h) ?_ ?_ ?_ ?_ (by show IsRangeIter _ _ _ _ _; rw [hsz]; simpa using Heap.get?_push_size _ rfl) (F.push _) (fun p hp => ⟨Heap.get?_push_of_some _ (N p hp).1, (N p hp).2⟩) ⟨c₀, rfl, hk, fun _ _ _ _ => rfl, hp⟩ ?_ ?_
  · intro i h hi b hb
    rw [List.mem_singleton.mp hb]
    exact ⟨_, hi⟩
  · intro hm
    exact absurd F.ns.lt ((List.mem_singleton.mp hm) ▸ Nat.lt_irrefl _)
  · intro b hb
    rw [List.mem_singleton.mp hb]
    exact next_is_new F
  · intro p hp hI
    exact absurd (Heap.lt_size (N p hp).1) ((List.mem_singleton.mp hI) ▸ Nat.lt_irrefl _)
  · rintro i v m₁ nx h tk own hi ⟨_, t, rfl⟩ hoff ⟨c, rfl, h1, h2, hp'⟩ F₁ N₁
    have e1 : a₀ + (i : Int) * 1 = a₀ + (i : Int) := by omega
    rw [e1] at F₁
    exact turn c i t m₁ h tk own hi hoff hp' (kst_fr h1 h2 F₁) N₁
  · rintro m₁ nx h tk ⟨c, rfl, h1, h2, hp'⟩ F₁ N₁
    exact done c m₁ h tk hp' (kst_frOut h1 h2 F₁) N₁
end
end part_ML
section part_M8
noncomputable def ConX (prog : Program) (w : World) (f : Addr) (need : Nat) (news : Led) (vs : List Value) (R : Value → Led → Prop) (P : Prop) : Prop :=
  ∀ (p : Program) (loose : List Str) (mean : ExcName → Option Value) (mg mb : Str → Option Value)
    (dp un : Nat) (gd : Option (List Code)) (cn : Str) (cs : Scope) (a : Addr) (ccd : Value) (cl : List (Str × Addr)) (outer : List Env) (A₀ : Around) (base h₀ : Heap) (L : Addr) (m : Str → Option Value) (s : Shared) (Q E : Value → Shared → Prop),
    Below A₀ base outer h₀ → Fr h₀ L s.heap m → (hd.heap_39 w.params).In h₀ → News h₀ L s.heap news → Top p loose mean mg mb h₀ → cs.kind = .function →
    dp + need < recursionLimit → un + 8 * need < cLine →
    (∀ v nw h' tk', Fr h₀ L h' m → News h₀ L h' nw → R v nw → Q v { s with heap := h', toks := tk' }) →
    (P → ∀ e t xs G h' tk', Fr h₀ L G m → RaisedS base G (envX cn cs L a ccd cl :: outer) e (.ref 44) t xs news h' → G.UpToSlots h' → E (.ref e) { s with heap := h', toks := tk' }) →
    wpAny (model prog w) (ktrTop dp un gd cn cs L a ccd cl outer) (call (.ref f) vs) Q E s
theorem con_useX {prog : Program} {w : World} {f : Addr} {need : Nat} {news : Led} {vs : List Value} {R : Value → Led → Prop} {P : Prop}
    {p : Program} {loose : List Str} {mean : ExcName → Option Value} {mg mb : Str → Option Value}
    {dp un : Nat} {gd : Option (List Code)} {cn : Str} {cs : Scope} {a : Addr} {ccd : Value} {cl : List (Str × Addr)} {outer : List Env} {A₀ : Around} {base h₀ : Heap} {L : Addr} {m : Str → Option Value} {s : Shared} {Q E : Value → Shared → Prop}
    (C : ConX prog w f need news vs R P) (B : Below A₀ base outer h₀) (F : Fr h₀ L s.heap m) (X : (hd.heap_39 w.params).In h₀) (N : News h₀ L s.heap news) (T : Top p loose mean mg mb h₀) (hk : cs.kind = .function)
    (hd : dp + need < recursionLimit) (hu : un + 8 * need < cLine)
    (ret : ∀ v nw h' tk', Fr h₀ L h' m → News h₀ L h' nw → R v nw → Q v { s with heap := h', toks := tk' })
    (rai : P → ∀ e t xs G h' tk', Fr h₀ L G m → RaisedS base G (envX cn cs L a ccd cl :: outer) e (.ref 44) t xs news h' → G.UpToSlots h' → E (.ref e) { s with heap := h', toks := tk' }) :
    wpAny (model prog w) (ktrTop dp un gd cn cs L a ccd cl outer) (call (.ref f) vs) Q E s := C _ _ _ _ _ _ _ _ _ _ _ _ _ _ _ _ _ _ _ _ _ _ B F X N T hk hd hu ret rai
noncomputable def ConXC (prog : Program) (w : World) (f : Addr) (need : Nat) (news : Led) (vs : List Value) (RC : (Value → Led → Prop) → Prop) (P : Prop) : Prop := ∃ R, ConX prog w f need news vs R P ∧ ∀ k, RC k → ∀ v nw, R v nw → k v nw
theorem ConX.cps {prog : Program} {w : World} {f : Addr} {need : Nat} {news : Led} {vs : List Value} {R : Value → Led → Prop} {RC : (Value → Led → Prop) → Prop} {P : Prop} (C : ConX prog w f need news vs R P) (k : ∀ k, RC k → ∀ v nw, R v nw → k v nw) : ConXC prog w f need news vs RC P := ⟨R, C, k⟩
theorem raisedS_sub {base G : Heap} {l : List Env} {e t : Addr} {cls : Value} {vs : List Value} {news news' : Led} {h : Heap} (R : RaisedS base G l e cls t vs news h) (hs : ∀ p ∈ news', p ∈ news) : RaisedS base G l e cls t vs news' h := by
  obtain ⟨⟨B, b1, b2, b3, b4, b5⟩, b6⟩ := R
  exact ⟨⟨B, b1, b2, fun q hq => b3 q (hs q hq), b4, b5⟩, b6⟩
end part_M8
section part_R1
theorem off_R1 : True := by
  w_top off
  exact trivial
set_option genInjectivity false in
set_option genSizeOf false in
structure Cx (sc : Scope) (room : Nat) where
  prog : Program
  w : World
  dp : Nat
  un : Nat
  gd : Option (List Code)
  name : Str
  L : Addr
  a : Addr
  cd : Value
  cl : List (Str × Addr)
  outer : List Env
  A₀ : Around
  base : Heap
  g : Heap
  p : Program
  loose : List Str
  mean : ExcName → Option Value
  mg : Str → Option Value
  mb : Str → Option Value
  s₀ : Shared
  EE : Value → Shared → Prop
  n₀ : Led
  P : Prop
  hk : sc.kind = .function
  hdp : dp + room < recursionLimit
  hun : un + 8 * room < cLine
  B : Below A₀ base outer g
  X : (hd.heap_39 w.params).In g
  T : Top p loose mean mg mb g
  rai : P → ∀ (x y : Str) (t : Tok) (p1 p2 p3 p4 : Pos) (Q : Flow → Shared → Prop) (m : Str → Option Value) (news : Led) (h : Heap) (tk : Nat), Fr g L h m → News g L h news → (∀ q ∈ n₀, q ∈ news) → locv sc.names m x = some (.str y t) →
    sc.names.lookup (Str.ofString "BadMove") = some .globalImplicit →
    wpAny (model prog w) (ktrTop dp un gd name sc L a cd cl outer) (exec (.Raise (some (.Call (.Name (Str.ofString "BadMove") p1) [.Name x p2] [] p3)) none p4) (envX name sc L a cd cl)) Q EE { s₀ with heap := h, toks := tk }
  po : PassesOwn (model prog w) (ktrTop dp un gd name sc L a cd cl outer) (envX name sc L a cd cl) EE
  pas : P → ∀ (m : Str → Option Value) (news : Led) (e t : Addr) (xs : List Value) (G h : Heap) (tk : Nat), Fr g L G m → RaisedS base G (envX name sc L a cd cl :: outer) e (.ref 44) t xs news h → G.UpToSlots h → (∀ q ∈ n₀, q ∈ news) → EE (.ref e) { s₀ with heap := h, toks := tk }
section
variable {sc : Scope} {room : Nat}
noncomputable abbrev Cx.env (C : Cx sc room) : Env := envX C.name sc C.L C.a C.cd C.cl
noncomputable abbrev Cx.A (C : Cx sc room) : Around := ktrTop C.dp C.un C.gd C.name sc C.L C.a C.cd C.cl C.outer
noncomputable abbrev Cx.st (C : Cx sc room) (h : Heap) (tk : Nat) : Shared := { C.s₀ with heap := h, toks := tk }
noncomputable def Cx.PE {α : Type} (C : Cx sc room) (m : Str → Option Value) (K : α → Led → Prop) (v : α) (s' : Shared) : Prop := ∃ h tk n, s' = C.st h tk ∧ Fr C.g C.L h m ∧ News C.g C.L h n ∧ K v n
noncomputable def Cx.R {α : Type} (C : Cx sc room) (m : Str → Option Value) (n : Led) (t : Sem α) (K : α → Led → Prop) : Prop := ∀ h tk, Fr C.g C.L h m → News C.g C.L h n → wpAny (model C.prog C.w) C.A t (C.PE m K) C.EE (C.st h tk)
noncomputable abbrev Cx.E (C : Cx sc room) (m : Str → Option Value) (n : Led) (e : PySem.Expr) (K : Value → Led → Prop) : Prop := C.R m n (eval e C.env) K
noncomputable def Cx.PS (C : Cx sc room) (Q : Flow → (Str → Option Value) → Led → Prop) (f : Flow) (s' : Shared) : Prop := ∃ h tk m n, s' = C.st h tk ∧ Fr C.g C.L h m ∧ News C.g C.L h n ∧ Q f m n
noncomputable def Cx.S (C : Cx sc room) (m : Str → Option Value) (n : Led) (st : List Stmt) (Q : Flow → (Str → Option Value) → Led → Prop) : Prop := ∀ h tk, Fr C.g C.L h m → News C.g C.L h n → wpAny (model C.prog C.w) C.A (execs st C.env) (C.PS Q) C.EE (C.st h tk)
variable {C : Cx sc room} {m : Str → Option Value} {n : Led}
theorem Cx.R.to {α : Type} {t : Sem α} {K : α → Led → Prop} (r : C.R m n t K) {Q : α → Shared → Prop} {h : Heap} {tk : Nat} (F : Fr C.g C.L h m) (N : News C.g C.L h n)
    (k : ∀ v h' tk' n', K v n' → Fr C.g C.L h' m → News C.g C.L h' n' → Q v (C.st h' tk')) : wpAny (model C.prog C.w) C.A t Q C.EE (C.st h tk) :=
  wpAny_mono (r h tk F N) (fun v s' ⟨h', tk', n', e, F', N', q⟩ => by subst e; exact k v h' tk' n' q F' N') fun _ _ x => x
theorem Cx.kind_of {x : Str} {k : NameKind} (h : sc.names.lookup x = some k) : C.env.kindOf x = some k := by
  exact h
-- expressions
theorem e_local {x : Str} {pos : Pos} {v : Value} {K : Value → Led → Prop} (hv : locv sc.names m x = some v) (q : K v n) : C.E m n (.Name x pos) K := fun h tk F N => by
  obtain ⟨h1, h2, h3⟩ := locv_some hv
  exact nameX_L F h3 ⟨h, tk, n, rfl, F, N, q⟩ C.hk (C.kind_of h1) h2
theorem e_glob {x : Str} {pos : Pos} {v : Value} {K : Value → Led → Prop} (hf : nsIn (hd.heap_39 C.w.params) mainGlobals x = some (some v)) (hx : sc.names.lookup x = some .globalImplicit) (hb : (x == Str.ofString "__debug__") = false) (q : K v n) : C.E m n (.Name x pos) K := fun h tk F N =>
  nameX_K F C.X (topRead_of C.T) hf ⟨h, tk, n, rfl, F, N, q⟩ C.hk (C.kind_of hx) hb
theorem e_int {env : Env} {i : Int} {k : Nat} {pos : Pos} {K : Value → Led → Prop} (q : ∀ t, K (.int i t) n) : C.R m n (eval (.Constant (.int i) k pos) env) K := fun h tk F N => wpAny_Constant_int ⟨h, tk + 1, n, rfl, F, N, q _⟩
theorem e_str {env : Env} {x : Str} {k : Nat} {pos : Pos} {K : Value → Led → Prop} (q : ∀ t, K (.str x t) n) : C.R m n (eval (.Constant (.str x) k pos) env) K := fun h tk F N => Calls.Constant_str ⟨h, tk + 1, n, rfl, F, N, q _⟩
theorem e_bin {env : Env} {l r : PySem.Expr} {op : Operator} {pos : Pos} {K : Value → Led → Prop} (q : C.R m n (eval l env) fun a n1 => C.R m n1 (eval r env) fun b n2 => C.R m n2 (binaryOp op a b) K) : C.R m n (eval (.BinOp l op r pos) env) K := fun h tk F N =>
  wpAny_BinOp (q.to F N fun a h1 tk1 n1 q1 F1 N1 => q1.to F1 N1 fun b h2 tk2 n2 q2 F2 N2 => q2 h2 tk2 F2 N2)
theorem e_neg {i : Int} {k : Nat} {p1 pos : Pos} {K : Value → Led → Prop} (q : ∀ t, K (.int (-i) t) n) : C.E m n (.UnaryOp .USub (.Constant (.int i) k p1) pos) K := fun h tk F N => PySem.wpAny_UnaryOp (wpAny_Constant_int (PyProof.Rows.neg_int ⟨h, _, n, rfl, F, N, q _⟩))
theorem e_call {f : Str} {fp pos : Pos} {v : Value} {e : PySem.Expr} {es : List PySem.Expr} {K : Value → Led → Prop} (hf : nsIn (hd.heap_39 C.w.params) mainGlobals f = some (some v)) (hv : keepIn (hd.heap_39 C.w.params) v = true) (hx : sc.names.lookup f = some .globalImplicit) (hb : (f == Str.ofString "__debug__") = false)
    (he : starEach (e :: es) C.env = (false, eval e C.env) :: starEach es C.env) (hp : (backTo pos (starEach es C.env)).any (·.1) = false)
    (q : let K1 : List Value → Led → Prop := fun vs n1 => C.R m n1 (call v vs) K; C.R m n (spliced (backTo pos (starEach (e :: es) C.env))) K1) : C.E m n (.Call (.Name f fp) (e :: es) [] pos) K := fun h tk F N => by
  refine Call_ (nameX_K F C.X (topRead_of C.T) hf (callWith_K C.X hv ?_ he hp) C.hk (C.kind_of hx) hb)
  exact q.to F N fun vs h1 tk1 n1 q1 F1 N1 => ⟨Frag.In.keeps C.X (Fr.keep F1), q1 h1 tk1 F1 N1⟩
theorem l_nil {env : Env} {pos : Pos} {K : List Value → Led → Prop} (q : K [] n) : C.R m n (spliced (backTo pos (starEach [] env))) K := fun h tk F N => args_nil ⟨h, tk, n, rfl, F, N, q⟩
theorem l_cons {env : Env} {pos : Pos} {e : PySem.Expr} {es : List PySem.Expr} {K : List Value → Led → Prop} (q : C.R m n (eval e env) fun v n1 => C.R m n1 (spliced (backTo pos (starEach es env))) fun vs n2 => K (v :: vs) n2)
    (he : starEach (e :: es) env = (false, eval e env) :: starEach es env := by rfl) : C.R m n (spliced (backTo pos (starEach (e :: es) env))) K := fun h tk F N =>
  args_cons (q.to F N fun v h1 tk1 n1 q1 F1 N1 => q1.to F1 N1 fun vs h2 tk2 n2 q2 F2 N2 => ⟨h2, tk2, n2, rfl, F2, N2, q2⟩) he
theorem l_plain {pos : Pos} {es : List PySem.Expr} {K : List Value → Led → Prop} (q : ∀ t, peL sc.names m es t fun vs _ => K vs n) : C.R m n (spliced (backTo pos (starEach es C.env))) K := fun h tk F N => by
  have q := q tk
  exact peL_eval C.hk _ _ _ _ _ F q fun vs t k => ⟨h, t, n, rfl, F, N, k⟩
theorem e_callP {f : Str} {fp pos : Pos} {v : Value} {e : PySem.Expr} {es : List PySem.Expr} {K : Value → Led → Prop} (hf : nsIn (hd.heap_39 C.w.params) mainGlobals f = some (some v)) (hv : keepIn (hd.heap_39 C.w.params) v = true) (hx : sc.names.lookup f = some .globalImplicit) (hb : (f == Str.ofString "__debug__") = false)
    (he : starEach (e :: es) C.env = (false, eval e C.env) :: starEach es C.env) (hp : (backTo pos (starEach es C.env)).any (·.1) = false)
    (q : ∀ t, peL sc.names m (e :: es) t fun vs _ => C.R m n (call v vs) K) : C.E m n (.Call (.Name f fp) (e :: es) [] pos) K := e_call hf hv hx hb he hp (l_plain q)
noncomputable def pvE (ns : List (Str × NameKind)) (m : Str → Option Value) (e : PySem.Expr) (k : Value → Prop) : Prop :=
  match e with
  | .Name x _ => atV (locv ns m x) k
  | .Constant c _ _ => (match c with
    | .int i => ∀ t, k (.int i t)
    | .str x => ∀ t, k (.str x t)
    | _ => False)
  | _ => False
theorem pv_eval {e : PySem.Expr} {k : Value → Prop} {K : Value → Led → Prop} (q : pvE sc.names m e k) (hk : ∀ v, k v → K v n) : C.E m n e K := by
  cases e <;> try (exact q.elim)
  case Name x pos =>
    have q : atV (locv sc.names m x) k := q
    rcases hv : locv sc.names m x with _ | v
    · rw [hv] at q; exact q.elim
    · rw [hv] at q; exact e_local hv (hk _ q)
  case Constant c i pos =>
    cases c <;> try (exact q.elim)
    · exact e_int fun t => hk _ (q t)
    · exact e_str fun t => hk _ (q t)
theorem two_plain {l r : PySem.Expr} {K : Value → Value → Led → Prop} (q : pvE sc.names m l fun a => pvE sc.names m r fun b => K a b n) : C.E m n l fun a n1 => C.E m n1 r fun b n2 => K a b n2 :=
  pv_eval q fun _ q => pv_eval q fun _ q => q
theorem e_binP {l r : PySem.Expr} {op : Operator} {pos : Pos} {K : Value → Led → Prop} (q : pvE sc.names m l fun a => pvE sc.names m r fun b => C.R m n (binaryOp op a b) K) : C.E m n (.BinOp l op r pos) K := e_bin (two_plain (K := fun a b n2 => C.R m n2 (binaryOp op a b) K) q)
-- calls
theorem r_con {f : Addr} {vs : List Value} {need : Nat} {R : Value → Led → Prop} {K : Value → Led → Prop} (c : Con C.prog C.w f need n vs R) (hr : need ≤ room) (k : ∀ v nw, R v nw → K v nw) : C.R m n (call (.ref f) vs) K := fun h tk F N =>
  c _ _ _ _ _ _ _ _ _ _ _ _ _ _ _ _ _ _ _ _ _ _ C.B F C.X N C.T C.hk (Nat.lt_of_le_of_lt (Nat.add_le_add_left hr _) C.hdp) (Nat.lt_of_le_of_lt (Nat.add_le_add_left (Nat.mul_le_mul_left _ hr) _) C.hun) fun v nw h' tk' F' N' r => ⟨h', tk', nw, rfl, F', N', k v nw r⟩
theorem r_conX {f : Addr} {vs : List Value} {need : Nat} {R : Value → Led → Prop} {P' : Prop} {K : Value → Led → Prop} (c : ConX C.prog C.w f need n vs R P') (hr : need ≤ room) (hp : P' → C.P) (hn : ∀ q ∈ C.n₀, q ∈ n) (k : ∀ v nw, R v nw → K v nw) : C.R m n (call (.ref f) vs) K := fun h tk F N =>
  c _ _ _ _ _ _ _ _ _ _ _ _ _ _ _ _ _ _ _ _ _ _ C.B F C.X N C.T C.hk (Nat.lt_of_le_of_lt (Nat.add_le_add_left hr _) C.hdp) (Nat.lt_of_le_of_lt (Nat.add_le_add_left (Nat.mul_le_mul_left _ hr) _) C.hun) (fun v nw h' tk' F' N' r => ⟨h', tk', nw, rfl, F', N', k v nw r⟩)
    fun p e t xs G h' tk' F' R' U' => C.pas (hp p) _ _ e t xs G h' tk' F' R' U' hn
theorem r_k {f : Addr} {vs : List Value} {need : Nat} {RC : (Value → Led → Prop) → Prop} {K : Value → Led → Prop} (c : ConC C.prog C.w f need n vs RC) (hr : need ≤ room) (q : RC K) : C.R m n (call (.ref f) vs) K := let ⟨_, c, k⟩ := c; r_con c hr fun v nw r => k K q v nw r
theorem r_kX {f : Addr} {vs : List Value} {need : Nat} {RC : (Value → Led → Prop) → Prop} {P' : Prop} {K : Value → Led → Prop} (c : ConXC C.prog C.w f need n vs RC P') (hr : need ≤ room) (hp : P' → C.P) (hn : ∀ q ∈ C.n₀, q ∈ n) (q : RC K) : C.R m n (call (.ref f) vs) K := let ⟨_, c, k⟩ := c; r_conX c hr hp hn fun v nw r => k K q v nw r
-- any step by hand
-- statements
variable {Q : Flow → (Str → Option Value) → Led → Prop} {rest : List Stmt}
theorem s_nil (q : Q .next m n) : C.S m n [] Q := fun h tk F N => wpAny_execs_nil ⟨h, tk, m, n, rfl, F, N, q⟩
noncomputable def Cx.S1 (C : Cx sc room) (x : Str) (v : Value) (m : Str → Option Value) (n : Led) (st : List Stmt) (Q : Flow → (Str → Option Value) → Led → Prop) : Prop := C.S (fun y => if y = x then some v else m y) n st Q
theorem s_go {x : Str} {v : Value} (q : let m' : Str → Option Value := fun y => if y = x then some v else m y; C.S m' n rest Q) : C.S1 x v m n rest Q := q
theorem s_assign {x : Str} {px pos : Pos} {e : PySem.Expr} (q : let K : Value → Led → Prop := fun v n1 => C.S1 x v m n1 rest Q; C.E m n e K) (hx : sc.names.lookup x = some .local := by rfl)
    (hs : swapsWith e (some (.Name x px)) pos.line C.env = pure false := by rfl) : C.S m n (.Assign [.Name x px] e pos :: rest) Q := fun h tk F N =>
  wpAny_execs_cons (wpAny_Assign_Name (q.to F N fun v h1 tk1 n1 q1 F1 N1 => store_m F1 N1 (fun h2 F2 N2 => q1 h2 (tk1 + 1) F2 N2) C.hk (C.kind_of hx)) hs)
theorem s_return {e : PySem.Expr} {pos : Pos} (q : C.E m n e fun v n1 => Q (.ret v) m n1) : C.S m n (.Return (some e) pos :: rest) Q := fun h tk F N =>
  wpAny_execs_cons (wpAny_Return_some (q.to F N fun v h1 tk1 n1 q1 F1 N1 => ⟨h1, tk1, m, n1, rfl, F1, N1, q1⟩))
theorem s_raise {x y : Str} {t : Tok} {p1 p2 p3 p4 : Pos} (hp : C.P) (hv : locv sc.names m x = some (.str y t)) (hn : ∀ q ∈ C.n₀, q ∈ n) (hx : sc.names.lookup (Str.ofString "BadMove") = some .globalImplicit := by rfl) :
    C.S m n (.Raise (some (.Call (.Name (Str.ofString "BadMove") p1) [.Name x p2] [] p3)) none p4 :: rest) Q := fun h tk F N => wpAny_execs_cons (C.rai hp _ _ _ _ _ _ _ _ _ _ _ _ F N hn hv hx)
noncomputable def Cx.T1 (C : Cx sc room) (m : Str → Option Value) (n : Led) (st : Stmt) (Q : Flow → (Str → Option Value) → Led → Prop) : Prop := ∀ h tk, Fr C.g C.L h m → News C.g C.L h n → wpAny (model C.prog C.w) C.A (exec st C.env) (C.PS Q) C.EE (C.st h tk)
noncomputable def Cx.on (C : Cx sc room) (rest : List Stmt) (Q : Flow → (Str → Option Value) → Led → Prop) (f : Flow) (m : Str → Option Value) (n : Led) : Prop := match f with
  | .next => C.S m n rest Q
  | f => Q f m n
theorem Cx.PS.of {f : Flow} {s' : Shared} (z : C.PS Q f s') {P : Shared → Prop} (k : ∀ h tk m n, Fr C.g C.L h m → News C.g C.L h n → Q f m n → P (C.st h tk)) : P s' := by
  obtain ⟨h, tk, m, n, rfl, F, N, z⟩ := z
  exact k h tk m n F N z
theorem Cx.PS.mk {f : Flow} {h : Heap} {tk : Nat} (F : Fr C.g C.L h m) (N : News C.g C.L h n) (z : Q f m n) : C.PS Q f (C.st h tk) := ⟨h, tk, m, n, rfl, F, N, z⟩
theorem s_seq {st : Stmt} (q : C.T1 m n st (C.on rest Q)) : C.S m n (st :: rest) Q := fun h tk F N => by
  refine wpAny_execs_cons (wpAny_mono (q h tk F N) (fun f s' z => ?_) fun _ _ x => x)
  cases f with
  | next => exact z.of fun h1 tk1 m1 n1 F1 N1 z => z h1 tk1 F1 N1
  | brk => exact z
  | cont => exact z
  | ret v => exact z
theorem Cx.T1.mono {st : Stmt} {Q' : Flow → (Str → Option Value) → Led → Prop} (q : C.T1 m n st Q) (k : ∀ f m n, Q f m n → Q' f m n) : C.T1 m n st Q' := fun h tk F N =>
  wpAny_mono (q h tk F N) (fun f s' z => z.of fun _ _ _ _ F1 N1 z => .mk F1 N1 (k _ _ _ z)) fun _ _ x => x
theorem Cx.S.mono {st : List Stmt} {Q' : Flow → (Str → Option Value) → Led → Prop} (q : C.S m n st Q) (k : ∀ f m n, Q f m n → Q' f m n) : C.S m n st Q' := fun h tk F N =>
  wpAny_mono (q h tk F N) (fun f s' z => z.of fun _ _ _ _ F1 N1 z => .mk F1 N1 (k _ _ _ z)) fun _ _ x => x
theorem s_cut {st : Stmt} (J : (Str → Option Value) → Led → Prop) (q : C.T1 m n st fun f m n => match f with
    | .next => J m n
    | f => Q f m n) (k : ∀ m n, J m n → C.S m n rest Q) : C.S m n (st :: rest) Q := s_seq (q.mono fun f m n z => by
  cases f with
  | next => exact k m n z
  | brk => exact z
  | cont => exact z
  | ret v => exact z)
theorem if1 {t : PySem.Expr} {body orelse : List Stmt} {pos : Pos} (q : C.R m n (isTrue t C.env (eval t C.env)) fun b n1 => (b = true → C.S m n1 body Q) ∧ (b = false → C.S m n1 orelse Q)) : C.T1 m n (.If t body orelse pos) Q := fun h tk F N =>
  wpAny_If (q.to F N fun b h1 tk1 n1 q1 F1 N1 => by
    cases b with
    | true => rw [if_pos rfl]; exact q1.1 rfl h1 tk1 F1 N1
    | false => rw [if_neg Bool.false_ne_true]; exact q1.2 rfl h1 tk1 F1 N1)
theorem s_if {t : PySem.Expr} {body orelse : List Stmt} {pos : Pos} (q : let K : Bool → Led → Prop := fun b n1 => (b = true → C.S m n1 body (C.on rest Q)) ∧ (b = false → C.S m n1 orelse (C.on rest Q)); C.R m n (isTrue t C.env (eval t C.env)) K) : C.S m n (.If t body orelse pos :: rest) Q := s_seq (if1 q)
theorem s_let {st : List Stmt} (q : let m' := m; C.S m' n st Q) : C.S m n st Q := q
theorem s_letQ {st : List Stmt} (q : let Q' := Q; C.S m n st Q') : C.S m n st Q := q
theorem s_weak {st : List Stmt} (n' : Led) (hs : ∀ p ∈ n', p ∈ n) (q : C.S m n' st Q) : C.S m n st Q := fun h tk F N => q h tk F fun p hp => N p (hs p hp)
theorem s_ext {st : List Stmt} {m' : Str → Option Value} (e : ∀ z, m z = m' z) (q : C.S m' n st Q) : C.S m n st Q := by
  obtain rfl : m = m' := funext e
  exact q
theorem s_skip (q : C.S m n rest Q) : C.S m n [] (C.on rest Q) := s_nil q
-- tests
noncomputable abbrev Cx.Tst (C : Cx sc room) (m : Str → Option Value) (n : Led) (t : PySem.Expr) (K : Bool → Led → Prop) : Prop := C.R m n (isTrue t C.env (eval t C.env)) K
theorem t_cmp {env : Env} {l r : PySem.Expr} {op : CmpOp} {pos : Pos} {K : Bool → Led → Prop} (q : C.R m n (eval l env) fun a n1 => C.R m n1 (eval r env) fun b n2 => C.R m n2 (compareOp op a b) fun c n3 => ∃ z, c = .bool z ∧ K z n3)
    (hm : behindInMarks op r = false := by rfl) : C.R m n (isTrue (.Compare l [op] [r] pos) env (eval (.Compare l [op] [r] pos) env)) K := fun h tk F N =>
  wpAny_isTrue_Compare1 (q.to F N fun a h1 tk1 n1 q1 F1 N1 => q1.to F1 N1 fun b h2 tk2 n2 q2 F2 N2 => q2.to F2 N2 fun c h3 tk3 n3 q3 F3 N3 => by
    obtain ⟨z, rfl, q3⟩ := q3
    exact wpAny_truthy_bool ⟨h3, tk3, n3, rfl, F3, N3, q3⟩) hm
theorem t_cmpP {l r : PySem.Expr} {op : CmpOp} {pos : Pos} {K : Bool → Led → Prop} (q : pvE sc.names m l fun a => pvE sc.names m r fun b => C.R m n (compareOp op a b) fun c n3 => ∃ z, c = .bool z ∧ K z n3)
    (hm : behindInMarks op r = false := by rfl) : C.Tst m n (.Compare l [op] [r] pos) K := t_cmp (two_plain (K := fun a b n2 => C.R m n2 (compareOp op a b) fun c n3 => ∃ z, c = .bool z ∧ K z n3) q) hm
theorem t_and {x : PySem.Expr} {es : List PySem.Expr} {pos : Pos} {K : Bool → Led → Prop} (q : C.Tst m n x fun b n1 => (b = true → C.Tst m n1 (.BoolOp .And es pos) K) ∧ (b = false → K false n1)) : C.Tst m n (.BoolOp .And (x :: es) pos) K := fun h tk F N =>
  isTrue_and (q.to F N fun b h1 tk1 n1 q1 F1 N1 => by
    cases b with
    | true => exact q1.1 rfl h1 tk1 F1 N1
    | false => exact ⟨h1, tk1, n1, rfl, F1, N1, q1.2 rfl⟩)
theorem t_or {x : PySem.Expr} {es : List PySem.Expr} {pos : Pos} {K : Bool → Led → Prop} (q : C.Tst m n x fun b n1 => (b = false → C.Tst m n1 (.BoolOp .Or es pos) K) ∧ (b = true → K true n1)) : C.Tst m n (.BoolOp .Or (x :: es) pos) K := fun h tk F N =>
  isTrue_or (q.to F N fun b h1 tk1 n1 q1 F1 N1 => by
    cases b with
    | false => exact q1.1 rfl h1 tk1 F1 N1
    | true => exact ⟨h1, tk1, n1, rfl, F1, N1, q1.2 rfl⟩)
theorem t_and_nil {pos : Pos} {K : Bool → Led → Prop} (q : K true n) : C.Tst m n (.BoolOp .And [] pos) K := fun h tk F N => isTrue_and_nil ⟨h, tk, n, rfl, F, N, q⟩
theorem t_or_nil {pos : Pos} {K : Bool → Led → Prop} (q : K false n) : C.Tst m n (.BoolOp .Or [] pos) K := fun h tk F N => isTrue_or_nil ⟨h, tk, n, rfl, F, N, q⟩
theorem t_not {x : PySem.Expr} {pos : Pos} {K : Bool → Led → Prop} (q : C.Tst m n x fun b n1 => (b = true → K false n1) ∧ (b = false → K true n1)) : C.Tst m n (.UnaryOp .Not x pos) K := fun h tk F N =>
  isTrue_not (q.to F N fun b h1 tk1 n1 q1 F1 N1 => by
    cases b with
    | true => exact ⟨h1, tk1, n1, rfl, F1, N1, q1.1 rfl⟩
    | false => exact ⟨h1, tk1, n1, rfl, F1, N1, q1.2 rfl⟩)
-- numbers
variable {a b : Int} {t u : Tok} {x y : Str} {K : Value → Led → Prop}
theorem v_add (q : ∀ t, K (.int (a + b) t) n) : C.R m n (binaryOp .Add (.int a t) (.int b u)) K := fun h tk F N => PyProof.Rows.add_int ⟨h, _, n, rfl, F, N, q _⟩
theorem v_sub (q : ∀ t, K (.int (a - b) t) n) : C.R m n (binaryOp .Sub (.int a t) (.int b u)) K := fun h tk F N => PyProof.Rows.sub_int ⟨h, _, n, rfl, F, N, q _⟩
theorem v_mul (hm : IntMulOk a b) (q : ∀ t, K (.int (a * b) t) n) : C.R m n (binaryOp .Mult (.int a t) (.int b u)) K := fun h tk F N => PyProof.Rows.mul_int ⟨h, _, n, rfl, F, N, q _⟩ hm
theorem v_mod (hb : b ≠ 0) (q : ∀ t, K (.int (a.fmod b) t) n) : C.R m n (binaryOp .Mod (.int a t) (.int b u)) K := fun h tk F N => PyProof.Rows.mod_int hb ⟨h, _, n, rfl, F, N, q _⟩
theorem v_div (hb : b ≠ 0) (hp : Builtin.divisionGoesByPylong a b = false) (q : ∀ t, K (.int (a.fdiv b) t) n) : C.R m n (binaryOp .FloorDiv (.int a t) (.int b u)) K := fun h tk F N => PyProof.Rows.floordiv_int hb ⟨h, _, n, rfl, F, N, q _⟩ (.inl hp)
theorem v_and (q : ∀ t, K (.int (Builtin.bitAnd a b) t) n) : C.R m n (binaryOp .BitAnd (.int a t) (.int b u)) K := fun h tk F N => PyProof.Rows.and_int ⟨h, _, n, rfl, F, N, q _⟩
theorem v_or (q : ∀ t, K (.int (Builtin.bitOr a b) t) n) : C.R m n (binaryOp .BitOr (.int a t) (.int b u)) K := fun h tk F N => PyProof.Rows.or_int ⟨h, _, n, rfl, F, N, q _⟩
theorem v_shr (hb : 0 ≤ b) (q : ∀ t, K (.int (a.fdiv (2 ^ b.toNat)) t) n) : C.R m n (binaryOp .RShift (.int a t) (.int b u)) K := fun h tk F N => PyProof.Rows.rshift_int hb ⟨h, _, n, rfl, F, N, q _⟩
theorem v_shl (hb : 0 ≤ b) (hb2 : b ≤ 1000000) (ha : a.natAbs < 2 ^ 64) (q : ∀ t, K (.int (a * 2 ^ b.toNat) t) n) : C.R m n (binaryOp .LShift (.int a t) (.int b u)) K := fun h tk F N => PyProof.Rows.lshift_int_small hb hb2 ha ⟨h, _, n, rfl, F, N, q _⟩
theorem v_cat (hz : x.length + y.length ≤ sizeLine) (q : ∀ t, K (.str (x ++ y) t) n) : C.R m n (binaryOp .Add (.str x t) (.str y u)) K := fun h tk F N => PyProof.Rows.add_str (fun t tk => ⟨h, tk, n, rfl, F, N, q t⟩) hz
theorem b_eq {K : Bool → Led → Prop} (p : a = b → K true n) (q : a ≠ b → K false n) : C.R m n (compareOp .Eq (.int a t) (.int b u)) fun c n3 => ∃ z, c = .bool z ∧ K z n3 := fun h tk F N => PyProof.Rows.eq_int ⟨h, tk, n, rfl, F, N, _, rfl, by
  cases hz : (a == b) with
  | true => exact p (eq_of_beq hz)
  | false => exact q (ne_of_beq_false hz)⟩
theorem b_ne {K : Bool → Led → Prop} (p : a ≠ b → K true n) (q : a = b → K false n) : C.R m n (compareOp .NotEq (.int a t) (.int b u)) fun c n3 => ∃ z, c = .bool z ∧ K z n3 := fun h tk F N => PyProof.Rows.ne_int ⟨h, tk, n, rfl, F, N, _, rfl, by
  cases hz : (a != b) with
  | true => exact p (bne_iff_ne.mp hz)
  | false => exact q ((fun hz => Decidable.byContradiction fun x => by rw [bne_iff_ne.mpr x] at hz; cases hz) hz)⟩
theorem b_lt {K : Bool → Led → Prop} (p : a < b → K true n) (q : ¬ a < b → K false n) : C.R m n (compareOp .Lt (.int a t) (.int b u)) fun c n3 => ∃ z, c = .bool z ∧ K z n3 := fun h tk F N => PyProof.Rows.lt_int ⟨h, tk, n, rfl, F, N, _, rfl, by
  cases hz : (decide (a < b)) with
  | true => exact p (of_decide_eq_true hz)
  | false => exact q (of_decide_eq_false hz)⟩
theorem b_le {K : Bool → Led → Prop} (p : a ≤ b → K true n) (q : ¬ a ≤ b → K false n) : C.R m n (compareOp .LtE (.int a t) (.int b u)) fun c n3 => ∃ z, c = .bool z ∧ K z n3 := fun h tk F N => PyProof.Rows.le_int ⟨h, tk, n, rfl, F, N, _, rfl, by
  cases hz : (decide (a ≤ b)) with
  | true => exact p (of_decide_eq_true hz)
  | false => exact q (of_decide_eq_false hz)⟩
theorem b_gt {K : Bool → Led → Prop} (p : b < a → K true n) (q : ¬ b < a → K false n) : C.R m n (compareOp .Gt (.int a t) (.int b u)) fun c n3 => ∃ z, c = .bool z ∧ K z n3 := fun h tk F N => PyProof.Rows.gt_int ⟨h, tk, n, rfl, F, N, _, rfl, by
  cases hz : (decide (b < a)) with
  | true => exact p (of_decide_eq_true hz)
  | false => exact q (of_decide_eq_false hz)⟩
theorem b_ge {K : Bool → Led → Prop} (p : b ≤ a → K true n) (q : ¬ b ≤ a → K false n) : C.R m n (compareOp .GtE (.int a t) (.int b u)) fun c n3 => ∃ z, c = .bool z ∧ K z n3 := fun h tk F N => PyProof.Rows.ge_int ⟨h, tk, n, rfl, F, N, _, rfl, by
  cases hz : (decide (b ≤ a)) with
  | true => exact p (of_decide_eq_true hz)
  | false => exact q (of_decide_eq_false hz)⟩
theorem b_eqS {K : Bool → Led → Prop} (p : x = y → K true n) (q : x ≠ y → K false n) : C.R m n (compareOp .Eq (.str x t) (.str y u)) fun c n3 => ∃ z, c = .bool z ∧ K z n3 := fun h tk F N => PyProof.Rows.eq_str ⟨h, tk, n, rfl, F, N, _, rfl, by
  cases hz : (x == y) with
  | true => exact p (eq_of_beq hz)
  | false => exact q (beq_eq_false_iff_ne.mp hz)⟩
theorem b_neS {K : Bool → Led → Prop} (p : x ≠ y → K true n) (q : x = y → K false n) : C.R m n (compareOp .NotEq (.str x t) (.str y u)) fun c n3 => ∃ z, c = .bool z ∧ K z n3 := fun h tk F N => PyProof.Rows.ne_str ⟨h, tk, n, rfl, F, N, _, rfl, by
  cases hz : (x != y) with
  | true => exact p (bne_iff_ne.mp hz)
  | false => exact q (Decidable.byContradiction fun x => by rw [bne_iff_ne.mpr x] at hz; cases hz)⟩
theorem at_true {A B : Prop} (p : A) : (true = true → A) ∧ (true = false → B) := ⟨fun _ => p, fun h => (nomatch h)⟩
theorem at_false {A B : Prop} (p : B) : (false = true → A) ∧ (false = false → B) := ⟨fun h => (nomatch h), fun _ => p⟩
theorem at_true' {A B : Prop} (p : B) : (true = false → A) ∧ (true = true → B) := ⟨fun h => (nomatch h), fun _ => p⟩
theorem at_false' {A B : Prop} (p : A) : (false = false → A) ∧ (false = true → B) := ⟨fun _ => p, fun h => (nomatch h)⟩
theorem on_next (q : C.S m n rest Q) : C.on rest Q .next m n := q
theorem on_ret {v : Value} (q : Q (.ret v) m n) : C.on rest Q (.ret v) m n := q
end
section
variable {sc : Scope} {room : Nat} {C : Cx sc room} {m : Str → Option Value} {n : Led} {K : Value → Led → Prop} {x y : Str} {t u : Tok} {px pos sp ap : Pos}
theorem e_builtin1 {f : Str} {id : String} {fp : Pos} {e : PySem.Expr} (hf : nsIn (hd.heap_39 C.w.params) mainGlobals f = some none) (hx : sc.names.lookup f = some .globalImplicit) (hb : (f == Str.ofString "__debug__") = false) (hv : bootBuiltins f = some (.builtin id)) (hn : f ≠ Str.ofString "__name__")
    (q : C.E m n e fun v n1 => C.R m n1 (call (.builtin id) [v]) K) (he : starEach [e] C.env = (false, eval e C.env) :: starEach [] C.env := by rfl) : C.E m n (.Call (.Name f fp) [e] [] pos) K := fun h tk F N =>
  Call_ (nameX_B F C.X (topRead_of C.T) hf hv hn (PyProof.Rows.callWith_builtin1 (args_cons (q.to F N fun v h1 tk1 n1 q1 F1 N1 => args_nil (q1 h1 tk1 F1 N1)) he) he rfl) C.hk (C.kind_of hx) hb)
theorem v_lenS (hz : x.length < 100000) (q : ∀ t, K (.int x.length t) n) : C.R m n (call (.builtin "len") [.str x t]) K := fun h tk F N => len_str (by omega) ⟨h, tk + 1 + 1, n, rfl, F, N, q _⟩
theorem v_lenL {l : Addr} {vs : List Value} {k : Nat} (hm : (l, listOf vs.toArray k) ∈ n) (hz : vs.length < 2 ^ 62) (q : ∀ t, K (.int vs.length t) n) : C.R m n (call (.builtin "len") [.ref l]) K := fun h tk F N => r_len N hm hz ⟨h, tk + 1 + 1, n, rfl, F, N, q _⟩
theorem e_sub {env : Env} {value slice : PySem.Expr} (q : C.R m n (eval value env) fun o n1 => C.R m n1 (eval slice env) fun i n2 => C.R m n2 (subscriptTail value slice o i) K) : C.R m n (eval (.Subscript value slice pos) env) K := fun h tk F N =>
  Subscript_ (q.to F N fun o h1 tk1 n1 q1 F1 N1 => q1.to F1 N1 fun i h2 tk2 n2 q2 F2 N2 => q2 h2 tk2 F2 N2)
theorem e_subP {value slice : PySem.Expr} (q : pvE sc.names m value fun a => pvE sc.names m slice fun b => C.R m n (subscriptTail value slice a b) K) : C.E m n (.Subscript value slice pos) K := e_sub (two_plain (K := fun a b n2 => C.R m n2 (subscriptTail value slice a b) K) q)
theorem v_item {value slice : PySem.Expr} {i : Int} (h0 : 0 ≤ i) (h1 : i < x.length) (hz : x.length < 100000) (q : ∀ t, K (.str (Txt.item x i) t) n)
    (hs : subscripted slice false (.str x t) (.int i u) = operate [.str x t, .int i u] (getItem (.str x t) (.int i u)) := by with_unfolding_all rfl) (ht : ∀ r, letTemporaryGo value (.str x t) r = pure () := by intro _; with_unfolding_all rfl) :
    C.R m n (subscriptTail value slice (.str x t) (.int i u)) K := fun h tk F N =>
  item_str (fitsSsize_of (N := 9223372036854775808) (by omega) (by omega) (Int.le_refl _)) (by omega) h1 (fun _ => ⟨h, tk + 1, n, rfl, F, N, q _⟩) hs ht
theorem e_to {hi : PySem.Expr} (hv : locv sc.names m x = some (.str y t)) (hz : y.length ≤ sizeLine) (q : C.E m n hi fun i n1 => ∃ j u, i = .int j u ∧ ∀ t, K (.str (Txt.slice y none (some j)) t) n1) : C.E m n (.Subscript (.Name x px) (.Slice none (some hi) none sp) pos) K := fun h tk F N => by
  obtain ⟨h1, h2, h3⟩ := locv_some hv
  refine Subscript_ (nameX_L F h3 (wpAny_Slice (evalPart_none_step (evalPart_some_step (q.to F N fun i h1 tk1 n1 q1 F1 N1 => ?_)))) C.hk (C.kind_of h1) h2)
  obtain ⟨j, u, rfl, q1⟩ := q1
  exact evalPart_none_step (slice_strN_ns_len (s := ⟨_, _, _, _, _⟩) F1 N1 (fun h2 t2 k F2 N2 _ => ⟨h2, k, n1, rfl, F2, N2, q1 t2⟩) (hsz := hz))
theorem e_from {lo : PySem.Expr} (hv : locv sc.names m x = some (.str y t)) (hz : y.length ≤ sizeLine) (q : C.E m n lo fun i n1 => ∃ j u, i = .int j u ∧ ∀ t, K (.str (Txt.slice y (some j) none) t) n1) : C.E m n (.Subscript (.Name x px) (.Slice (some lo) none none sp) pos) K := fun h tk F N => by
  obtain ⟨h1, h2, h3⟩ := locv_some hv
  refine Subscript_ (nameX_L F h3 (wpAny_Slice (evalPart_some_step (q.to F N fun i h1 tk1 n1 q1 F1 N1 => ?_))) C.hk (C.kind_of h1) h2)
  obtain ⟨j, u, rfl, q1⟩ := q1
  exact evalPart_none_step (evalPart_none_step (slice_strN_sn_len (s := ⟨_, _, _, _, _⟩) F1 N1 (fun h2 t2 k F2 N2 _ => ⟨h2, k, n1, rfl, F2, N2, q1 t2⟩) (hsz := hz)))
theorem e_mid {lo hi : PySem.Expr} (hv : locv sc.names m x = some (.str y t)) (hz : y.length ≤ sizeLine) (q : C.E m n lo fun i n1 => ∃ j u, i = .int j u ∧ C.E m n1 hi fun i2 n2 => ∃ j2 u2, i2 = .int j2 u2 ∧ ∀ t, K (.str (Txt.slice y (some j) (some j2)) t) n2) : C.E m n (.Subscript (.Name x px) (.Slice (some lo) (some hi) none sp) pos) K := fun h tk F N => by
  obtain ⟨h1, h2, h3⟩ := locv_some hv
  refine Subscript_ (nameX_L F h3 (wpAny_Slice (evalPart_some_step (q.to F N fun i h1 tk1 n1 q1 F1 N1 => ?_))) C.hk (C.kind_of h1) h2)
  obtain ⟨j, u, rfl, q1⟩ := q1
  refine evalPart_some_step (q1.to F1 N1 fun i2 h2 tk2 n2 q2 F2 N2 => ?_)
  obtain ⟨j2, u2, rfl, q2⟩ := q2
  exact evalPart_none_step (slice_strN_ss_len (s := ⟨_, _, _, _, _⟩) F2 N2 (fun h2 t2 k F2 N2 _ => ⟨h2, k, n2, rfl, F2, N2, q2 t2⟩) (hsz := hz))
theorem e_find {o a : PySem.Expr} {pl : Sem Bool} (q : C.E m n o fun ov n1 => ∃ x t, ov = .str x t ∧ C.E m n1 a fun av n2 => ∃ y u, av = .str y u ∧ ∀ t, K (.int (Txt.find x y) t) n2)
    (hm : eval (.Call (.Attribute o (Str.ofString "find") ap) [a] [] pos) C.env = (do
      let ov ← eval o C.env
      standAt ap.atName
      let (f, first) ← holding [ov] (getMethod ov (Str.ofString "find") pl)
      callWith pos f first (backTo pos (starEach [a] C.env)) (backToKw pos (keywordEach [] C.env))) := by rfl)
    (he : starEach [a] C.env = (false, eval a C.env) :: starEach [] C.env := by rfl) : C.E m n (.Call (.Attribute o (Str.ofString "find") ap) [a] [] pos) K := fun h tk F N => by
  refine MethodCall_ (q.to F N fun ov h1 tk1 n1 q1 F1 N1 => ?_) hm
  obtain ⟨x, t, rfl, q1⟩ := q1
  walk1
  refine callWith_method1 (args_cons (q1.to F1 N1 fun av h2 tk2 n2 q2 F2 N2 => ?_) he) he rfl
  obtain ⟨y, u, rfl, q2⟩ := q2
  refine args_nil ?_
  walk1
  exact ⟨h2, _, n2, rfl, F2, N2, q2 _⟩
noncomputable def Cx.tEnd {σ : Type} (_C : Cx sc room) (x : Str) (ld : σ → Led) (ps : σ → List (Str × Value)) (stored : List Str) (m₀ : Str → Option Value) (P : Nat → σ → Prop) (own : Led) (i : Nat) (m' : Str → Option Value) (n' : Led) : Prop :=
  ∃ c' : σ, (∀ p ∈ ld c', p ∈ n') ∧ (∀ p ∈ own, p ∈ n') ∧ OwnOff own ((ld c').map (·.1)) ∧ (∀ p ∈ ps c', m' p.1 = some p.2) ∧ (∀ z, z ≠ x → (∀ p ∈ ps c', z ≠ p.1) → stored.contains z = false → m' z = m₀ z) ∧ P i c'
noncomputable def Cx.turn {σ : Type} (C : Cx sc room) (x : Str) (ld : σ → Led) (ps : σ → List (Str × Value)) (stored : List Str) (m₀ : Str → Option Value) (P : Nat → σ → Prop) (own : Led) (i : Nat) (Q : Flow → (Str → Option Value) → Led → Prop) (f : Flow) (m' : Str → Option Value) (n' : Led) : Prop := match f with
  | .ret v => Q (.ret v) m' n'
  | .brk => Q .next m' n'
  | _ => C.tEnd x ld ps stored m₀ P own i m' n'
theorem Cx.turn.of {σ : Type} {ld : σ → Led} {ps : σ → List (Str × Value)} {stored : List Str} {P : Nat → σ → Prop} {own : Led} {i : Nat} {Q : Flow → (Str → Option Value) → Led → Prop} {h₁ : Heap} {tk₁ : Nat} {f : Flow} {s' : Shared}
    (z : C.PS (C.turn x ld ps stored m P own i Q) f s') : InvPostG C.g C.L (Turns ld ps x stored m P i) own (C.st h₁ tk₁) (C.PS Q) f s' := z.of fun h' tk' m' n' F N z => by
  have up : C.tEnd x ld ps stored m P own i m' n' → InvEndG C.g C.L (Turns ld ps x stored m P i) own (C.st h₁ tk₁) (C.st h' tk') := fun ⟨c', z⟩ => ⟨h', tk', m', n', _, rfl, F, N, z.1, z.2.1, z.2.2.1, c', rfl, z.2.2.2.1, z.2.2.2.2.1, z.2.2.2.2.2⟩
  cases f with
  | ret v => exact Cx.PS.mk F N z
  | brk => exact Cx.PS.mk F N z
  | next => exact up z
  | cont => exact up z
theorem forL {σ : Type} {px fp : Pos} {iter : PySem.Expr} {body : List Stmt} {Q : Flow → (Str → Option Value) → Led → Prop} (ld : Addr → Led → σ → Led) (ps : σ → List (Str × Value)) (stored : List Str) (P : Nat → σ → Prop) (c₀ : σ)
    (hx : sc.names.lookup x = some .local) (hfs : ∀ v, foldedSetIterable iter C.env v = pure v)
    (q : C.E m n iter fun v n1 => ∃ l vs nn, v = .ref l ∧ n1 = ld l n1 c₀ ∧ (∀ c, (l, listOf (List.toArray vs) nn) ∈ ld l n1 c) ∧
      (∀ (c : σ) i v (u : Str → Option Value) own, vs[i]? = some v → OwnOff own ((ld l n1 c).map (·.1)) → P i c →
        (let m' : Str → Option Value := fun y => if y = x then some v else within ps stored m u c y
         C.S m' (ld l n1 c ++ own) body (C.turn x (ld l n1) ps stored m P own (i + 1) Q))) ∧
      (∀ (c : σ) (u : Str → Option Value), P vs.length c → (let m' : Str → Option Value := fun y => if y = x then u y else within ps stored m u c y
         Q .next m' (ld l n1 c))))
    (hk : ∀ p ∈ ps c₀, m p.1 = some p.2) (hp : P 0 c₀) : C.T1 m n (.For (.Name x px) iter body [] fp) Q := fun h tk F N =>
  For_invVF (h₀ := C.g) F (C.kind_of hx) (by show (sc.kind == _ || (sc.kind == _ && _)) = false; rw [C.hk]; rfl) (q.to F N fun v h1 tk1 n1 q1 F1 N1 => by
    obtain ⟨l, vs, nn, rfl, e, hl, turn, done⟩ := q1
    rw [e] at N1
    exact loop_list (env := C.env) (ld l n1) ps stored P c₀ rfl hl F1 N1 hk hp
      (fun c i v u h tk own hv ho hp' F' N' => wpAny_mono (turn c i v u own hv ho hp' h tk F' N') (fun f s' z => Cx.turn.of z) fun _ _ x => x)
      (fun c u h tk q F' N' => ⟨h, tk, _, _, rfl, F', N', done c u q⟩)) hfs C.po
theorem s_unpack3 {x1 x2 x3 : Str} {q1 q2 q3 tp sp : Pos} {k : Nat} {e : PySem.Expr} {rest : List Stmt} {Q : Flow → (Str → Option Value) → Led → Prop} (q : C.E m n e fun v n1 => ∃ D v1 v2 v3, v = .ref D ∧ (D, tupOf [v1, v2, v3]) ∈ n1 ∧
      (let m1 : Str → Option Value := fun y => if y = x1 then some v1 else m y
       let m2 : Str → Option Value := fun y => if y = x2 then some v2 else m1 y
       let m3 : Str → Option Value := fun y => if y = x3 then some v3 else m2 y
       C.S m3 n1 rest Q))
    (h1 : sc.names.lookup x1 = some .local := by rfl) (h2 : sc.names.lookup x2 = some .local := by rfl) (h3 : sc.names.lookup x3 = some .local := by rfl)
    (hs : swapsWithSole [.Tuple [.Name x1 q1, .Name x2 q2, .Name x3 q3] k tp] e sp.line C.env = pure false := by rfl)
    (hw : swappedStores [.Tuple [.Name x1 q1, .Name x2 q2, .Name x3 q3] k tp] e C.env = pure none := by rfl) : C.S m n (.Assign [.Tuple [.Name x1 q1, .Name x2 q2, .Name x3 q3] k tp] e sp :: rest) Q := fun h tk F N =>
  wpAny_execs_cons (Assign_Tuple (q.to F N fun v h1 tk1 n1 q1 F1 N1 => by
    obtain ⟨D, v1, v2, v3, rfl, hm, q1⟩ := q1
    refine unpackN_ F1 N1 (News.isTup N1 hm) rfl rfl rfl fun h2 F2 N2 => ?_
    refine assignInOrder_cons (PyProof.Rows.assign_Name (store_m F2 N2 (fun h3 F3 N3 => ?_) C.hk (C.kind_of (by assumption))))
    refine assignInOrder_cons (PyProof.Rows.assign_Name (store_m F3 N3 (fun h4 F4 N4 => ?_) C.hk (C.kind_of (by assumption))))
    refine assignInOrder_cons (PyProof.Rows.assign_Name (store_m F4 N4 (fun h5 F5 N5 => ?_) C.hk (C.kind_of (by assumption))))
    exact assignInOrder_nil (q1 h5 _ F5 N5)) hs hw)
-- made objects
theorem v_tuple {vs : List Value} (hz : vs.length ≤ sizeLine) (q : ∀ D, (∀ p ∈ n, p.1 < D) → K (.ref D) ((D, tupOf vs) :: n)) : C.R m n (newTuple vs) K := fun h tk F N =>
  kup_newTuple F N (fun D h' F' N' l => ⟨h', tk, _, rfl, F', N', q D l⟩) hz
theorem e_tuple {env : Env} {es : List PySem.Expr} {k : Nat} (q : C.R m n (spliced (backTo pos (starEach es env))) fun vs n1 => C.R m n1 (newTuple vs) K) : C.R m n (eval (.Tuple es k pos) env) K := fun h tk F N =>
  Tuple_ (q.to F N fun vs h1 tk1 n1 q1 F1 N1 => q1 h1 tk1 F1 N1)
theorem v_list {vs : List Value} (hz : vs.length ≤ sizeLine) (q : ∀ l, (∀ p ∈ n, p.1 < l) → K (.ref l) ((l, listOf vs.toArray 0) :: n)) : C.R m n (newList vs) K := fun h tk F N =>
  newList_K F N (fun l h' F' N' l1 => ⟨h', tk, _, rfl, F', N', q l l1⟩) hz
theorem e_list {es : List PySem.Expr} (q : C.R m n (spliced (backTo pos (starEach es C.env))) fun vs n1 => C.R m n1 (newList vs) K) : C.E m n (.List es pos) K := fun h tk F N =>
  List_ (q.to F N fun vs h1 tk1 n1 q1 F1 N1 => q1 h1 tk1 F1 N1)
end
section
variable {prog : Program} {w : World} {f : Addr} {need : Nat} {news : Led} {vs : List Value} {R : Value → Led → Prop} {P : Prop}
  {name qual : Str} {params : Arguments} {body : List Stmt} {scope : Scope} {dV kV doc pm cdv ct oc : Value} {an od : Option Addr} {osl : Array (Option Value)} {binds : List (Str × Value)}
theorem dp_in {dp need lim : Nat} (h : dp + (need + 1) < lim) : dp + 1 + need < lim := by rw [Nat.add_right_comm]; exact h
theorem un_in {un need lim : Nat} (h : un + 8 * (need + 1) < lim) : un + 3 + 8 * need < lim := Nat.lt_of_le_of_lt (by rw [Nat.add_right_comm]; exact Nat.add_le_add_left (by decide : 3 ≤ 8) (un + 8 * need)) h
theorem dp_3 {dp need lim : Nat} (hr : 3 ≤ need) (h : dp + (need + 1) < lim) : dp + 1 + 3 < lim := Nat.lt_of_le_of_lt (Nat.succ_le_succ (Nat.add_le_add_left hr dp) : dp + 1 + 3 ≤ dp + (need + 1)) h
theorem runs_conX (ho : (hd.heap_39 w.params).lookup f = some ⟨oc, od, .func (fnOf name qual params body scope dV kV doc pm an cdv ct), osl⟩) (hcd : codeIn (hd.heap_39 w.params) cdv qual = true)
    (hbm : nsIn (hd.heap_39 w.params) mainGlobals (Str.ofString "BadMove") = some (some (.ref 44))) (hk4 : keepIn (hd.heap_39 w.params) (.ref 44) = true) (hr : P → 3 ≤ need)
    (run : ∀ (C : Cx scope need) (Q : Flow → (Str → Option Value) → Led → Prop), C.prog = prog → C.w = w → C.n₀ = news → (P → C.P) → (∀ v m n n', R v n → (∀ p ∈ n, p ∈ n') → Q (.ret v) m n') → C.S (fun y => binds.reverse.lookup y) news body Q)
    (hbind : ∀ s, BindsTo s (fnOf name qual params body scope dV kV doc pm an cdv ct) ⟨vs, []⟩ binds := by exact fun _ => BindsTo.of_eq rfl) (hloc : ∀ y ∈ binds, scope.names.lookup y.1 = some .local := by exact locs rfl)
    (hco : scope.isCoroutine = false := by rfl) (hgen : scope.isGenerator = false := by rfl) (hk : scope.kind = .function := by rfl) (hcell : ∀ x ∈ scope.names, x.2 ≠ .cell := by decide) : ConX prog w f (need + 1) news vs R P := by
  intro p loose mean mg mb dp un gd cn cs a ccd cl outer A₀ base h₀ L m s Q E B F X N T hke hdp hun hret hrai
  refine wpAny_call (code_def B F X N T rfl rfl hke ho hcd (Nat.lt_of_le_of_lt (Nat.le_add_right _ _) hdp) (hbind _) hloc (fun g L' h₁ FG F' N' B' X' T' => ?_) hco hgen hk hcell)
  let C : Cx scope need := {
    prog := prog, w := w
    dp := dp + 1, un := un + 3, gd := gd, name := qual, L := L', a := f, cd := cdv, cl := [], outer := envX cn cs L a ccd cl :: outer, A₀ := ktrTop dp un gd cn cs L a ccd cl outer, base := base, g := g
    p := p, loose := loose, mean := mean, mg := mg, mb := mb, s₀ := s, n₀ := news, P := P, hk := hk, hdp := dp_in hdp, hun := un_in hun, B := B', X := X', T := T'
    EE := fun e s' => wpAny (model prog w) ((ktrTop dp un gd cn cs L a ccd cl outer).deeper (envOf qual scope L' f cdv)) (leaving (envOf qual scope L' f cdv) e) (fun _ s'' => E e s'') (fun e' s'' => E e' s'') s'
    rai := fun hp x y t p1 p2 p3 p4 Q m n h tk F2 N2 hn hv hb => raise_text B' F2 X' N2 T' hv hbm hb hk4 hk rfl rfl (dp_3 (hr hp) hdp) fun e T2 h' tk' r u => hrai hp e T2 _ g h' tk' FG (raisedS_sub r hn) u
    po := by passes_own
    pas := fun hp m n e t xs G h tk F2 R2 U2 hn => leave_onS B' F2 R2 U2 fun h' r _ u => hrai hp e t xs g h' tk FG (raisedS_sub r hn) u }
  exact wpAny_mono (run C (fun fl _ n' => ∃ v n, fl = .ret v ∧ R v n ∧ ∀ p ∈ n, p ∈ n') rfl rfl rfl id (fun v _ n _ r z => ⟨v, n, rfl, r, z⟩) h₁ (s.toks + binds.length) F' N') (fun fl s' z => z.of fun h tk m1 n1 F2 N2 ⟨v, n2, e, r, y⟩ => by
    subst e
    exact leaveK_ F2 N2 fun F3 N3 => hret v n2 h tk F3 (fun p hp => N3 p (y p hp)) r) fun _ _ x => x
theorem ConX.never {need : Nat} (c : ConX prog w f need news vs R False) : Con prog w f need news vs R := fun _ _ _ _ _ _ _ _ _ _ _ _ _ _ _ _ _ _ _ _ _ _ B F X N T hk hd hu h =>
  c _ _ _ _ _ _ _ _ _ _ _ _ _ _ _ _ _ _ _ _ _ _ B F X N T hk hd hu h fun z => z.elim
end
end part_R1
section part_M2
open PyProof
theorem and_low (t k i : Nat) (h : t < 2 ^ i) : t &&& (k * 2 ^ i) = 0 := by
  apply Nat.eq_of_testBit_eq
  intro j
  rw [Nat.testBit_and, Nat.zero_testBit, Nat.testBit_mul_two_pow]
  by_cases hj : i ≤ j
  · have : t.testBit j = false := Nat.testBit_lt_two_pow (Nat.lt_of_lt_of_le h (Nat.pow_le_pow_right (by decide) hj))
    rw [this, Bool.false_and]
  · have : decide (j ≥ i) = false := decide_eq_false (by omega)
    simp [this]
theorem bitAnd_nat (a b : Nat) : Builtin.bitAnd (a : Int) (b : Int) = ((a &&& b : Nat) : Int) := by
  unfold Builtin.bitAnd
  simp
theorem bitOr_low {t k : Int} (i : Nat) (h0 : 0 ≤ t) (h : t < 2 ^ i) (hk : 0 ≤ k) : Builtin.bitOr t (k * 2 ^ i) = t + k * 2 ^ i := by
  obtain ⟨t, rfl⟩ := Int.eq_ofNat_of_zero_le h0
  obtain ⟨k, rfl⟩ := Int.eq_ofNat_of_zero_le hk
  have h' : t < 2 ^ i := by exact_mod_cast h
  have e : (k : Int) * 2 ^ i = ((k * 2 ^ i : Nat) : Int) := by push_cast; rfl
  rw [bitOr_and, e, bitAnd_nat, and_low t k i h']
  simp
noncomputable def packed (o t sp pr : Int) : Int := t + o * 64 + (if sp = 1 then pr - 2 else 0) * 4096 + sp * 16384
theorem pack_or {t o x s : Int} (ht : 0 ≤ t ∧ t < 64) (ho : 0 ≤ o ∧ o < 64) (hx : 0 ≤ x ∧ x < 4) (hs : 0 ≤ s ∧ s < 4) : Builtin.bitOr (Builtin.bitOr (Builtin.bitOr t (o * 2 ^ 6)) (x * 2 ^ 12)) (s * 2 ^ 14) = t + o * 64 + x * 4096 + s * 16384 := by
  have h1 : 0 ≤ t + o * 64 ∧ t + o * 64 < 4096 := ⟨Int.add_nonneg ht.1 (Int.mul_nonneg ho.1 (by decide)), Int.add_lt_add_of_lt_of_le ht.2 (Int.mul_le_mul_of_nonneg_right (Int.le_of_lt_add_one ho.2 : o ≤ 63) (by decide))⟩
  have h2 : 0 ≤ t + o * 64 + x * 4096 ∧ t + o * 64 + x * 4096 < 16384 := ⟨Int.add_nonneg h1.1 (Int.mul_nonneg hx.1 (by decide)), Int.add_lt_add_of_lt_of_le h1.2 (Int.mul_le_mul_of_nonneg_right (Int.le_of_lt_add_one hx.2 : x ≤ 3) (by decide))⟩
  rw [bitOr_low 6 ht.1 ht.2 ho.1]
  show Builtin.bitOr (Builtin.bitOr (t + o * 64) _) _ = _
  rw [bitOr_low 12 h1.1 h1.2 hx.1]
  show Builtin.bitOr (t + o * 64 + x * 4096) _ = _
  rw [bitOr_low 14 h2.1 h2.2 hs.1]
  rfl
theorem mul8 {a b : Int} (h : 2 ≤ b ∧ b ≤ 8) : IntMulOk a b := .of_right (intBits_le_64 (Int.lt_of_lt_of_le (by decide) h.1) (Int.lt_of_le_of_lt h.2 (by decide)))
theorem mul100 {a b : Int} (h : 0 ≤ b ∧ b < 100) : IntMulOk a b := .of_right (intBits_le_64 (Int.lt_of_lt_of_le (by decide) h.1) (Int.lt_trans h.2 (by decide)))
theorem abs_small {x : Int} (h : 0 ≤ x ∧ x < 64) : x.natAbs < 2 ^ 64 := Nat.lt_trans (Int.ofNat_lt.mp ((Int.natAbs_of_nonneg h.1).symm ▸ h.2)) (by decide : 64 < 2 ^ 64)
section
theorem c_pack (prog : Program) (w : World) (news : Led) (o t sp pr : Int) (t1 t2 t3 t4 : Tok) (ho : 0 ≤ o ∧ o < 64) (ht : 0 ≤ t ∧ t < 64) (hs : 0 ≤ sp ∧ sp < 4) (hp : (pr - 2).natAbs < 2 ^ 64 ∧ (sp = 1 → 2 ≤ pr ∧ pr < 6)) :
    Con prog w 53 1 news [.int o t1, .int t t2, .int sp t3, .int pr t4] (fun v nw => ∃ tr, v = .int (packed o t sp pr) tr ∧ nw = news) := by
  have hx : sp = 1 → 0 ≤ pr - 2 ∧ pr - 2 < 4 := fun h => ⟨Int.sub_nonneg_of_le (hp.2 h).1, Int.sub_left_lt_of_lt_add (hp.2 h).2⟩
  have a3 := hp.1
  have a1 := abs_small ho
  have a2 := abs_small ⟨hs.1, Int.lt_trans hs.2 (by decide)⟩
  have a4 : (0 : Int).natAbs < 2 ^ 64 := by decide
  refine' ConX.never (runs_conX (P := False) ?ho ?hcd ?hbm ?hk4 (fun z => z.elim) ?run ?hbind ?hloc ?hco ?hgen ?hk ?hcell)
  (case ho => k_is)
  (case hcd => k_is)
  (case hbm => k_is)
  (case hk4 => k_is)
  (case hbind => exact fun _ => BindsTo.of_eq rfl)
  (case hloc => exact locs rfl)
  (case hco => exact rfl)
  (case hgen => exact rfl)
  (case hk => exact rfl)
  (case hcell => decide)
  rintro C Q rfl rfl hn0 hP hQ
  refine s_let ?_
  intro m0
  (repeat' (first | with_reducible intro _ | ((with_reducible refine e_binP ?_); (first | (with_unfolding_all change Cx.R _ _ _ _ _) | (intro _; (with_unfolding_all change Cx.R _ _ _ _ _)) | (intro _; intro _; (with_unfolding_all change Cx.R _ _ _ _ _)))) | ((with_reducible refine' s_assign ?_ ?kx_1 ?ks_1); (case kx_1 => exact rfl); (case ks_1 => exact rfl); intro ka) | ((with_reducible refine s_go ?_); (try clear ka); intro _) | (with_reducible refine s_return ?_) | ((with_reducible refine s_if ?_); intro kc) | (with_reducible refine s_skip ?_) | ((with_reducible refine at_true ?_); (try clear kc)) | ((with_reducible refine at_false ?_); (try clear kc)) | (with_reducible refine e_int fun _ => ?_) | (with_reducible refine e_bin ?_) | (with_reducible refine v_sub fun _ => ?_) | (with_reducible refine v_or fun _ => ?_) | (with_reducible refine b_eq (fun _ => ?_) (fun _ => ?_)) | ((with_reducible refine' e_local ?kv_1 ?_); (case kv_1 => exact rfl)) | ((with_reducible refine' e_glob ?kf_1 ?kx_1 ?kb_1 ?_); (case kf_1 => k_is); (case kx_1 => exact rfl); (case kb_1 => exact rfl)) | ((with_reducible refine' t_cmp ?_ ?km_1); (case km_1 => exact rfl)) | ((with_reducible refine' v_shl ?k0_1 ?k1_1 ?k2_1 fun _ => ?_); (case k0_1 => decide); (case k1_1 => decide); (case k2_1 => first | (with_reducible assumption) | omega)) | (with_reducible refine ⟨_, _, rfl, ?_⟩) | fail))
  all_goals refine hQ _ _ _ _ ⟨_, congrArg (Value.int · _) ?_, rfl⟩ fun _ h => h
  · have hsp : sp = 1 := by assumption
    exact (pack_or ht ho (hx hsp) hs).trans (by rw [packed, if_pos hsp])
  · have hsp : sp ≠ 1 := by assumption
    exact (pack_or ht ho (by decide) hs).trans (by rw [packed, if_neg hsp])
theorem fdiv_pow (x : Int) (k : Nat) : Int.fdiv x (2 ^ k) = x / 2 ^ k := Int.fdiv_eq_ediv_of_nonneg _ (Int.le_of_lt (Int.pow_pos (by decide)))
theorem c_from (prog : Program) (w : World) (news : Led) (x : Int) (t1 : Tok)  :
    Con prog w 60 1 news [.int x t1] (fun v nw => ∃ tr, v = .int (x / 64 % 64) tr ∧ nw = news) := by
  refine' ConX.never (runs_conX (P := False) ?ho ?hcd ?hbm ?hk4 (fun z => z.elim) ?run ?hbind ?hloc ?hco ?hgen ?hk ?hcell)
  (case ho => k_is)
  (case hcd => k_is)
  (case hbm => k_is)
  (case hk4 => k_is)
  (case hbind => exact fun _ => BindsTo.of_eq rfl)
  (case hloc => exact locs rfl)
  (case hco => exact rfl)
  (case hgen => exact rfl)
  (case hk => exact rfl)
  (case hcell => decide)
  rintro C Q rfl rfl hn0 hP hQ
  refine s_let ?_
  intro m0
  (repeat' (first | with_reducible intro _ | ((with_reducible refine e_binP ?_); (first | (with_unfolding_all change Cx.R _ _ _ _ _) | (intro _; (with_unfolding_all change Cx.R _ _ _ _ _)) | (intro _; intro _; (with_unfolding_all change Cx.R _ _ _ _ _)))) | (with_reducible refine s_return ?_) | (with_reducible refine e_int fun _ => ?_) | (with_reducible refine e_bin ?_) | (with_reducible refine v_and fun _ => ?_) | ((with_reducible refine' v_shr ?k0_2 fun _ => ?_); (case k0_2 => decide)) | (with_reducible refine ⟨_, _, rfl, ?_⟩) | fail))
  all_goals refine hQ _ _ _ _ ⟨_, congrArg (Value.int · _) ?_, rfl⟩ fun _ h => h
  show Builtin.bitAnd (Int.fdiv x (2 ^ 6)) 63 = _
  rw [fdiv_pow, bitAnd_m6]; rfl
theorem c_to (prog : Program) (w : World) (news : Led) (x : Int) (t1 : Tok) :
    Con prog w 67 1 news [.int x t1] (fun v nw => ∃ tr, v = .int (x % 64) tr ∧ nw = news) := by
  refine' ConX.never (runs_conX (P := False) ?ho ?hcd ?hbm ?hk4 (fun z => z.elim) ?run ?hbind ?hloc ?hco ?hgen ?hk ?hcell)
  (case ho => k_is)
  (case hcd => k_is)
  (case hbm => k_is)
  (case hk4 => k_is)
  (case hbind => exact fun _ => BindsTo.of_eq rfl)
  (case hloc => exact locs rfl)
  (case hco => exact rfl)
  (case hgen => exact rfl)
  (case hk => exact rfl)
  (case hcell => decide)
  rintro C Q rfl rfl hn0 hP hQ
  refine s_let ?_
  intro m0
  (repeat' (first | with_reducible intro _ | ((with_reducible refine e_binP ?_); (first | (with_unfolding_all change Cx.R _ _ _ _ _) | (intro _; (with_unfolding_all change Cx.R _ _ _ _ _)) | (intro _; intro _; (with_unfolding_all change Cx.R _ _ _ _ _)))) | (with_reducible refine s_return ?_) | (with_reducible refine v_and fun _ => ?_) | (with_reducible refine ⟨_, _, rfl, ?_⟩) | fail))
  all_goals refine hQ _ _ _ _ ⟨_, congrArg (Value.int · _) ?_, rfl⟩ fun _ h => h
  rw [bitAnd_m6]
noncomputable def promoOf (x : Int) : Int := if x / 16384 % 4 = 1 then x / 4096 % 4 + 2 else 0
theorem c_promo (prog : Program) (w : World) (news : Led) (x : Int) (t1 : Tok) :
    Con prog w 74 1 news [.int x t1] (fun v nw => ∃ tr, v = .int (promoOf x) tr ∧ nw = news) := by
  refine' ConX.never (runs_conX (P := False) ?ho ?hcd ?hbm ?hk4 (fun z => z.elim) ?run ?hbind ?hloc ?hco ?hgen ?hk ?hcell)
  (case ho => k_is)
  (case hcd => k_is)
  (case hbm => k_is)
  (case hk4 => k_is)
  (case hbind => exact fun _ => BindsTo.of_eq rfl)
  (case hloc => exact locs rfl)
  (case hco => exact rfl)
  (case hgen => exact rfl)
  (case hk => exact rfl)
  (case hcell => decide)
  rintro C Q rfl rfl hn0 hP hQ
  refine s_let ?_
  intro m0
  (repeat' (first | with_reducible intro _ | ((with_reducible refine e_binP ?_); (first | (with_unfolding_all change Cx.R _ _ _ _ _) | (intro _; (with_unfolding_all change Cx.R _ _ _ _ _)) | (intro _; intro _; (with_unfolding_all change Cx.R _ _ _ _ _)))) | (with_reducible refine s_return ?_) | ((with_reducible refine s_if ?_); intro kc) | (with_reducible refine s_skip ?_) | (with_reducible refine on_ret ?_) | ((with_reducible refine at_true ?_); (try clear kc)) | ((with_reducible refine at_false ?_); (try clear kc)) | (with_reducible refine e_int fun _ => ?_) | (with_reducible refine e_bin ?_) | (with_reducible refine v_add fun _ => ?_) | (with_reducible refine v_and fun _ => ?_) | (with_reducible refine b_ne (fun _ => ?_) (fun _ => ?_)) | ((with_reducible refine' e_glob ?kf_4 ?kx_4 ?kb_4 ?_); (case kf_4 => k_is); (case kx_4 => exact rfl); (case kb_4 => exact rfl)) | ((with_reducible refine' t_cmp ?_ ?km_4); (case km_4 => exact rfl)) | ((with_reducible refine' v_shr ?k0_4 fun _ => ?_); (case k0_4 => decide)) | (with_reducible refine ⟨_, _, rfl, ?_⟩) | fail))
  all_goals refine hQ _ _ _ _ ⟨_, congrArg (Value.int · _) ?_, rfl⟩ fun _ h => h
  all_goals (have h8 : Int.fdiv x (2 ^ Int.toNat 14) = x / 16384 := fdiv_pow x 14)
  all_goals unfold promoOf
  · have h9 : Builtin.bitAnd (Int.fdiv x (2 ^ Int.toNat 14)) 3 ≠ 1 := by assumption
    rw [h8, bitAnd_m2] at h9
    rw [if_neg h9]
  · have h9 : Builtin.bitAnd (Int.fdiv x (2 ^ Int.toNat 14)) 3 = 1 := by assumption
    rw [h8, bitAnd_m2] at h9
    rw [if_pos h9]
    show Builtin.bitAnd (Int.fdiv x (2 ^ 12)) 3 + 2 = _
    rw [fdiv_pow, bitAnd_m2]; rfl
noncomputable def letterOf (k : Int) : Str := if k = 2 then Str.ofString "n" else if k = 3 then Str.ofString "b" else if k = 4 then Str.ofString "r" else if k = 5 then Str.ofString "q" else Str.ofString ""
theorem c_letter (prog : Program) (w : World) (news : Led) (k : Int) (t1 : Tok) :
    Con prog w 102 1 news [.int k t1] (fun v nw => ∃ tr, v = .str (letterOf k) tr ∧ nw = news) := by
  refine' ConX.never (runs_conX (P := False) ?ho ?hcd ?hbm ?hk4 (fun z => z.elim) ?run ?hbind ?hloc ?hco ?hgen ?hk ?hcell)
  (case ho => k_is)
  (case hcd => k_is)
  (case hbm => k_is)
  (case hk4 => k_is)
  (case hbind => exact fun _ => BindsTo.of_eq rfl)
  (case hloc => exact locs rfl)
  (case hco => exact rfl)
  (case hgen => exact rfl)
  (case hk => exact rfl)
  (case hcell => decide)
  rintro C Q rfl rfl hn0 hP hQ
  refine s_let ?_
  intro m0
  (repeat' (first | with_reducible intro _ | (with_reducible refine s_return ?_) | ((with_reducible refine s_if ?_); intro kc) | (with_reducible refine s_skip ?_) | (with_reducible refine on_ret ?_) | ((with_reducible refine at_true ?_); (try clear kc)) | ((with_reducible refine at_false ?_); (try clear kc)) | (with_reducible refine e_str fun _ => ?_) | (with_reducible refine b_eq (fun _ => ?_) (fun _ => ?_)) | ((with_reducible refine' e_local ?kv_5 ?_); (case kv_5 => exact rfl)) | ((with_reducible refine' e_glob ?kf_5 ?kx_5 ?kb_5 ?_); (case kf_5 => k_is); (case kx_5 => exact rfl); (case kb_5 => exact rfl)) | ((with_reducible refine' t_cmp ?_ ?km_5); (case km_5 => exact rfl)) | (with_reducible refine ⟨_, _, rfl, ?_⟩) | fail))
  all_goals refine hQ _ _ _ _ ⟨_, congrArg (Value.str · _) ?_, rfl⟩ fun _ h => h
  all_goals (unfold letterOf; simp only [*, if_true, if_false]; try rfl)
noncomputable def figureOf (k : Int) : Str := if k = 5 then Str.ofString "1" else if k = 4 then Str.ofString "2" else if k = 3 then Str.ofString "3" else if k = 2 then Str.ofString "4" else Str.ofString ""
theorem c_figure (prog : Program) (w : World) (news : Led) (k : Int) (t1 : Tok) :
    Con prog w 130 1 news [.int k t1] (fun v nw => ∃ tr, v = .str (figureOf k) tr ∧ nw = news) := by
  refine' ConX.never (runs_conX (P := False) ?ho ?hcd ?hbm ?hk4 (fun z => z.elim) ?run ?hbind ?hloc ?hco ?hgen ?hk ?hcell)
  (case ho => k_is)
  (case hcd => k_is)
  (case hbm => k_is)
  (case hk4 => k_is)
  (case hbind => exact fun _ => BindsTo.of_eq rfl)
  (case hloc => exact locs rfl)
  (case hco => exact rfl)
  (case hgen => exact rfl)
  (case hk => exact rfl)
  (case hcell => decide)
  rintro C Q rfl rfl hn0 hP hQ
  refine s_let ?_
  intro m0
  (repeat' (first | with_reducible intro _ | (with_reducible refine s_return ?_) | ((with_reducible refine s_if ?_); intro kc) | (with_reducible refine s_skip ?_) | (with_reducible refine on_ret ?_) | ((with_reducible refine at_true ?_); (try clear kc)) | ((with_reducible refine at_false ?_); (try clear kc)) | (with_reducible refine e_str fun _ => ?_) | (with_reducible refine b_eq (fun _ => ?_) (fun _ => ?_)) | ((with_reducible refine' e_local ?kv_6 ?_); (case kv_6 => exact rfl)) | ((with_reducible refine' e_glob ?kf_6 ?kx_6 ?kb_6 ?_); (case kf_6 => k_is); (case kx_6 => exact rfl); (case kb_6 => exact rfl)) | ((with_reducible refine' t_cmp ?_ ?km_6); (case km_6 => exact rfl)) | (with_reducible refine ⟨_, _, rfl, ?_⟩) | fail))
  all_goals refine hQ _ _ _ _ ⟨_, congrArg (Value.str · _) ?_, rfl⟩ fun _ h => h
  all_goals (unfold figureOf; simp only [*, if_true, if_false]; try rfl)
theorem c_file (prog : Program) (w : World) (news : Led) (f x : Int) (t1 t2 : Tok) (hf : 0 < f) :
    Con prog w 81 1 news [.int f t1, .int x t2] (fun v nw => ∃ tr, v = .int (x % f) tr ∧ 0 ≤ x % f ∧ x % f < f ∧ nw = news) := by
  refine' ConX.never (runs_conX (P := False) ?ho ?hcd ?hbm ?hk4 (fun z => z.elim) ?run ?hbind ?hloc ?hco ?hgen ?hk ?hcell)
  (case ho => k_is)
  (case hcd => k_is)
  (case hbm => k_is)
  (case hk4 => k_is)
  (case hbind => exact fun _ => BindsTo.of_eq rfl)
  (case hloc => exact locs rfl)
  (case hco => exact rfl)
  (case hgen => exact rfl)
  (case hk => exact rfl)
  (case hcell => decide)
  rintro C Q rfl rfl hn0 hP hQ
  refine s_let ?_
  intro m0
  (repeat' (first | with_reducible intro _ | ((with_reducible refine e_binP ?_); (first | (with_unfolding_all change Cx.R _ _ _ _ _) | (intro _; (with_unfolding_all change Cx.R _ _ _ _ _)) | (intro _; intro _; (with_unfolding_all change Cx.R _ _ _ _ _)))) | (with_reducible refine s_return ?_) | ((with_reducible refine' v_mod ?k0_7 fun _ => ?_); (case k0_7 => omega)) | (with_reducible refine ⟨_, _, rfl, ?_⟩) | fail))
  all_goals refine hQ _ _ _ _ ⟨_, congrArg (Value.int · _) ?_, Int.emod_nonneg _ (Int.ne_of_gt hf), Int.emod_lt_of_pos _ hf, rfl⟩ fun _ h => h
  exact Int.fmod_eq_emod_of_nonneg _ (Int.le_of_lt hf)
theorem c_rank (prog : Program) (w : World) (news : Led) (f x : Int) (t1 t2 : Tok) (hf : 0 < f) (hf2 : f < 100) (hx : 0 ≤ x) (hx2 : x < 10000) :
    Con prog w 88 1 news [.int f t1, .int x t2] (fun v nw => ∃ tr, v = .int (x / f) tr ∧ 0 ≤ x / f ∧ x / f ≤ x ∧ nw = news) := by
  refine' ConX.never (runs_conX (P := False) ?ho ?hcd ?hbm ?hk4 (fun z => z.elim) ?run ?hbind ?hloc ?hco ?hgen ?hk ?hcell)
  (case ho => k_is)
  (case hcd => k_is)
  (case hbm => k_is)
  (case hk4 => k_is)
  (case hbind => exact fun _ => BindsTo.of_eq rfl)
  (case hloc => exact locs rfl)
  (case hco => exact rfl)
  (case hgen => exact rfl)
  (case hk => exact rfl)
  (case hcell => decide)
  rintro C Q rfl rfl hn0 hP hQ
  refine s_let ?_
  intro m0
  (repeat' (first | with_reducible intro _ | ((with_reducible refine e_binP ?_); (first | (with_unfolding_all change Cx.R _ _ _ _ _) | (intro _; (with_unfolding_all change Cx.R _ _ _ _ _)) | (intro _; intro _; (with_unfolding_all change Cx.R _ _ _ _ _)))) | (with_reducible refine s_return ?_) | ((with_reducible refine' v_div ?k0_8 ?k1_8 fun _ => ?_); (case k0_8 => omega); (case k1_8 => exact PyProof.noPylong_small (by omega))) | (with_reducible refine ⟨_, _, rfl, ?_⟩) | fail))
  all_goals refine hQ _ _ _ _ ⟨_, congrArg (Value.int · _) ?_, Int.ediv_nonneg hx (Int.le_of_lt hf), Int.ediv_le_self _ hx, rfl⟩ fun _ h => h
  exact Int.fdiv_eq_ediv_of_nonneg _ (Int.le_of_lt hf)
noncomputable def fileIx (x : Str) : Int := Txt.find (Str.ofString "abcdefgh") (Txt.item x 0)
noncomputable def rankIx (x : Str) : Int := Txt.find (Str.ofString "12345678") (Txt.item x 1)
noncomputable def squareOf (f r : Int) (x : Str) : Int :=
  if x.length ≠ 2 then -1 else if fileIx x < 0 ∨ f ≤ fileIx x ∨ rankIx x < 0 ∨ r ≤ rankIx x then -1 else rankIx x * f + fileIx x
theorem sq_len {f r : Int} {x : Str} (h : (x.length : Int) ≠ 2) : squareOf f r x = -1 := if_pos fun e => h (congrArg Nat.cast e)
theorem sq_on {f r : Int} {x : Str} (h : (x.length : Int) = 2) : squareOf f r x = if fileIx x < 0 ∨ f ≤ fileIx x ∨ rankIx x < 0 ∨ r ≤ rankIx x then -1 else rankIx x * f + fileIx x := if_neg fun n => n (Int.ofNat.inj h)
theorem sq_no {a b c d : Prop} (h1 : ¬ a) (h2 : ¬ b) (h3 : ¬ c) (h4 : ¬ d) : ¬ (a ∨ b ∨ c ∨ d) := fun h => h.elim h1 fun h => h.elim h2 fun h => h.elim h3 h4
theorem c_square (prog : Program) (w : World) (news : Led) (f r : Int) (x : Str) (t1 t2 t3 : Tok) (hf : 0 ≤ f ∧ f < 100) (hx : x.length < 100) :
    Con prog w 95 1 news [.int f t1, .int r t2, .str x t3] (fun v nw => ∃ tr, v = .int (squareOf f r x) tr ∧ nw = news) := by
  refine' ConX.never (runs_conX (P := False) ?ho ?hcd ?hbm ?hk4 (fun z => z.elim) ?run ?hbind ?hloc ?hco ?hgen ?hk ?hcell)
  (case ho => k_is)
  (case hcd => k_is)
  (case hbm => k_is)
  (case hk4 => k_is)
  (case hbind => exact fun _ => BindsTo.of_eq rfl)
  (case hloc => exact locs rfl)
  (case hco => exact rfl)
  (case hgen => exact rfl)
  (case hk => exact rfl)
  (case hcell => decide)
  rintro C Q rfl rfl hn0 hP hQ
  refine s_let ?_
  intro m0
  (repeat' (first | with_reducible intro _ | ((with_reducible refine' t_cmpP ?_ ?km_9); (case km_9 => exact rfl); (first | (with_unfolding_all change Cx.R _ _ _ _ _) | (intro _; (with_unfolding_all change Cx.R _ _ _ _ _)) | (intro _; intro _; (with_unfolding_all change Cx.R _ _ _ _ _)))) | ((with_reducible refine e_binP ?_); (first | (with_unfolding_all change Cx.R _ _ _ _ _) | (intro _; (with_unfolding_all change Cx.R _ _ _ _ _)) | (intro _; intro _; (with_unfolding_all change Cx.R _ _ _ _ _)))) | ((with_reducible refine e_subP ?_); (first | (with_unfolding_all change Cx.R _ _ _ _ _) | (intro _; (with_unfolding_all change Cx.R _ _ _ _ _)) | (intro _; intro _; (with_unfolding_all change Cx.R _ _ _ _ _)))) | ((with_reducible refine' s_assign ?_ ?kx_9 ?ks_9); (case kx_9 => exact rfl); (case ks_9 => exact rfl); intro ka) | ((with_reducible refine s_go ?_); (try clear ka); intro _) | (with_reducible refine s_return ?_) | ((with_reducible refine s_if ?_); intro kc) | (with_reducible refine s_skip ?_) | (with_reducible refine on_ret ?_) | ((with_reducible refine at_true ?_); (try clear kc)) | ((with_reducible refine at_false ?_); (try clear kc)) | ((with_reducible refine at_true' ?_); (try clear kc)) | ((with_reducible refine at_false' ?_); (try clear kc)) | (with_reducible refine e_int fun _ => ?_) | (with_reducible refine e_bin ?_) | (with_reducible refine t_or ?_) | (with_reducible refine t_or_nil ?_) | (with_reducible refine v_add fun _ => ?_) | (with_reducible refine b_ne (fun _ => ?_) (fun _ => ?_)) | (with_reducible refine b_lt (fun _ => ?_) (fun _ => ?_)) | (with_reducible refine b_ge (fun _ => ?_) (fun _ => ?_)) | ((with_reducible refine' e_local ?kv_9 ?_); (case kv_9 => exact rfl)) | ((with_reducible refine' e_glob ?kf_9 ?kx_9 ?kb_9 ?_); (case kf_9 => k_is); (case kx_9 => exact rfl); (case kb_9 => exact rfl)) | ((with_reducible refine' t_cmp ?_ ?km_9); (case km_9 => exact rfl)) | (with_reducible refine e_neg fun _ => ?_) | ((with_reducible refine' v_mul ?km_9 fun _ => ?_); (case km_9 => first | (with_reducible assumption) | (with_reducible exact mul8 (by with_reducible assumption)) | (with_reducible exact mul100 (by with_reducible assumption)) | mul_fits)) | ((with_reducible refine' v_item ?k0_9 ?k1_9 ?k2_9 (fun _ => ?_) ?kd_9 ?ke_9); (case kd_9 => with_unfolding_all rfl); (case ke_9 => (intro _; with_unfolding_all rfl)); (case k0_9 => first | (with_reducible assumption) | decide | assumption); (case k1_9 => first | omega | exact Int.lt_of_lt_of_le (by with_reducible assumption) (by decide)); (case k2_9 => first | omega | decide)) | ((with_reducible refine' e_find ?_ ?km_9 ?kh_9); (case km_9 => exact rfl); (case kh_9 => exact rfl)) | ((with_reducible refine' e_builtin1 ?kf_9 ?kx_9 ?kb_9 ?kv_9 ?kn_9 ?_ ?kh_9); (case kf_9 => k_is); (case kx_9 => exact rfl); (case kb_9 => exact rfl); (case kv_9 => boot_fast); (case kn_9 => decide); (case kh_9 => exact rfl)) | ((with_reducible refine' v_lenS ?kz_9 fun _ => ?_); (case kz_9 => omega)) | (with_reducible refine ⟨_, _, rfl, ?_⟩) | fail))
  all_goals refine hQ _ _ _ _ ⟨_, congrArg (Value.int · _) ?_, rfl⟩ fun _ h => h
  · exact (sq_len (by assumption)).symm
  all_goals refine (Eq.trans (sq_on (by assumption)) ?_).symm
  · exact if_pos (Or.inl (by assumption))
  · exact if_pos (Or.inr (Or.inl (by assumption)))
  · exact if_pos (Or.inr (Or.inr (Or.inl (by assumption))))
  · exact if_pos (Or.inr (Or.inr (Or.inr (by assumption))))
  · exact if_neg (sq_no (by assumption) (by assumption) (by assumption) (by assumption))
end
theorem k_pack (prog : Program) (w : World) (news : Led) (o t sp pr : Int) (t1 t2 t3 t4 : Tok) (ho : 0 ≤ o ∧ o < 64) (ht : 0 ≤ t ∧ t < 64) (hs : 0 ≤ sp ∧ sp < 4) (hp : (pr - 2).natAbs < 2 ^ 64 ∧ (sp = 1 → 2 ≤ pr ∧ pr < 6)) : ConC prog w 53 1 news [.int o t1, .int t t2, .int sp t3, .int pr t4] (fun kk => ∀ tt, kk (.int (packed o t sp pr) tt) news) := (c_pack prog w news o t sp pr t1 t2 t3 t4 ho ht hs hp).cps (by rintro k h v nw ⟨t, rfl, rfl⟩; exact h t)
theorem k_from (prog : Program) (w : World) (news : Led) (x : Int) (t1 : Tok) : ConC prog w 60 1 news [.int x t1] (fun kk => ∀ tt, kk (.int (x / 64 % 64) tt) news) := (c_from prog w news x t1).cps (by rintro k h v nw ⟨t, rfl, rfl⟩; exact h t)
theorem k_to (prog : Program) (w : World) (news : Led) (x : Int) (t1 : Tok) : ConC prog w 67 1 news [.int x t1] (fun kk => ∀ tt, kk (.int (x % 64) tt) news) := (c_to prog w news x t1).cps (by rintro k h v nw ⟨t, rfl, rfl⟩; exact h t)
theorem k_promo (prog : Program) (w : World) (news : Led) (x : Int) (t1 : Tok) : ConC prog w 74 1 news [.int x t1] (fun kk => ∀ tt, kk (.int (promoOf x) tt) news) := (c_promo prog w news x t1).cps (by rintro k h v nw ⟨t, rfl, rfl⟩; exact h t)
theorem k_letter (prog : Program) (w : World) (news : Led) (k : Int) (t1 : Tok) : ConC prog w 102 1 news [.int k t1] (fun kk => ∀ tt, kk (.str (letterOf k) tt) news) := (c_letter prog w news k t1).cps (by rintro k h v nw ⟨t, rfl, rfl⟩; exact h t)
theorem k_figure (prog : Program) (w : World) (news : Led) (k : Int) (t1 : Tok) : ConC prog w 130 1 news [.int k t1] (fun kk => ∀ tt, kk (.str (figureOf k) tt) news) := (c_figure prog w news k t1).cps (by rintro k h v nw ⟨t, rfl, rfl⟩; exact h t)
theorem k_file (prog : Program) (w : World) (news : Led) (f x : Int) (t1 t2 : Tok) (hf : 0 < f) : ConC prog w 81 1 news [.int f t1, .int x t2] (fun kk => ∀ tt, 0 ≤ x % f → x % f < f → kk (.int (x % f) tt) news) := (c_file prog w news f x t1 t2 hf).cps (by rintro k h v nw ⟨t, rfl, h1, h2, rfl⟩; exact h t h1 h2)
theorem k_rank (prog : Program) (w : World) (news : Led) (f x : Int) (t1 t2 : Tok) (hf : 0 < f) (hf2 : f < 100) (hx : 0 ≤ x) (hx2 : x < 10000) : ConC prog w 88 1 news [.int f t1, .int x t2] (fun kk => ∀ tt, 0 ≤ x / f → x / f ≤ x → kk (.int (x / f) tt) news) := (c_rank prog w news f x t1 t2 hf hf2 hx hx2).cps (by rintro k h v nw ⟨t, rfl, h1, h2, rfl⟩; exact h t h1 h2)
theorem k_square (prog : Program) (w : World) (news : Led) (f r : Int) (x : Str) (t1 t2 t3 : Tok) (hf : 0 ≤ f ∧ f < 100) (hx : x.length < 100) : ConC prog w 95 1 news [.int f t1, .int r t2, .str x t3] (fun kk => ∀ tt, kk (.int (squareOf f r x) tt) news) := (c_square prog w news f r x t1 t2 t3 hf hx).cps (by rintro k h v nw ⟨t, rfl, rfl⟩; exact h t)
end part_M2
section part_M3
theorem e_strI {C : Cx sc room} {m : Str → Option Value} {n : Led} {K : Value → Led → Prop} {fp pos : Pos} {e : PySem.Expr} (hf : nsIn (hd.heap_39 C.w.params) mainGlobals (Str.ofString "str") = some none) (hb : bootBuiltins (Str.ofString "str") = some (.type "str")) (hx : sc.names.lookup (Str.ofString "str") = some .globalImplicit)
    (he : starEach [e] C.env = (false, eval e C.env) :: starEach [] C.env) (q : C.E m n e fun v n1 => ∃ j t, v = .int j t ∧ 0 ≤ j ∧ j < 100000 ∧ ∀ t, K (.str (toString j) t) n1) : C.E m n (.Call (.Name (Str.ofString "str") fp) [e] [] pos) K := fun h tk F N =>
  Call_ (nameX_B F C.X (topRead_of C.T) hf hb (by decide) (by
    rw [he]
    refine PyProof.Rows.callWith_type rfl (Calls.evalArgs_plain ?_)
    show wpAny (model C.prog C.w) C.A (spliced (backTo pos ((false, eval e C.env) :: starEach [] C.env))) _ C.EE (C.st h tk)
    rw [← he]
    refine args_cons (q.to F N fun v h1 tk1 n1 q1 F1 N1 => args_nil ?_) he
    obtain ⟨j, t, rfl, h0, hz, q1⟩ := q1
    exact str_of_int_fit (N := 100000) (by split <;> omega) (by decide) fun _ => ⟨h1, _, n1, rfl, F1, N1, q1 _⟩) C.hk (C.kind_of hx) (by decide))
section
noncomputable def dec (n : Int) : Str := Str.ofString (toString n)
noncomputable def sqName (f x : Int) : Str := dec (x % f + 1) ++ dec (x / f + 1)
theorem dec_len {a : Int} (h0 : 0 ≤ a) (h1 : a < 10000) : (dec (a + 1)).length ≤ 11 := by unfold dec; rw [PySem.ofString_length]; exact int_text_length_le10 (k := 10) (by decide) (by omega)
theorem up1 {a : Int} (h0 : 0 ≤ a) (h1 : a < 10000) : 0 ≤ a + 1 ∧ a + 1 < 100000 := by omega
theorem c_isq (prog : Program) (w : World) (news : Led) (f x : Int) (t1 t2 : Tok) (hf : 0 < f) (hf2 : f < 100) (hx : 0 ≤ x) (hx2 : x < 10000) :
    Con prog w 123 2 news [.int f t1, .int x t2] (fun v nw => ∃ tr, v = .str (sqName f x) tr ∧ (sqName f x).length ≤ 30 ∧ nw = news) := by
  have m0 : 0 ≤ x % f := Int.emod_nonneg x (Int.ne_of_gt hf)
  have m1 : x % f < 10000 := Int.lt_trans (Int.emod_lt_of_pos x hf) (Int.lt_trans hf2 (by decide))
  have d0 : 0 ≤ x / f := Int.ediv_nonneg hx (Int.le_of_lt hf)
  have d1 : x / f < 10000 := Int.lt_of_le_of_lt (Int.ediv_le_self f hx) hx2
  have h1 := dec_len m0 m1
  have h2 := dec_len d0 d1
  obtain ⟨u1, u2⟩ := up1 m0 m1
  obtain ⟨u3, u4⟩ := up1 d0 d1
  have hf0 : f ≠ 0 := Int.ne_of_gt hf
  have hf1 : 0 ≤ f := Int.le_of_lt hf
  refine' ConX.never (runs_conX (P := False) ?ho ?hcd ?hbm ?hk4 (fun z => z.elim) ?run ?hbind ?hloc ?hco ?hgen ?hk ?hcell)
  (case ho => k_is)
  (case hcd => k_is)
  (case hbm => k_is)
  (case hk4 => k_is)
  (case hbind => exact fun _ => BindsTo.of_eq rfl)
  (case hloc => exact locs rfl)
  (case hco => exact rfl)
  (case hgen => exact rfl)
  (case hk => exact rfl)
  (case hcell => decide)
  rintro C Q rfl rfl hn0 hP hQ
  refine s_let ?_
  intro m0
  (repeat' (first | with_reducible intro _ | ((with_reducible refine' e_callP ?kf_10 ?kv_10 ?kx_10 ?kb_10 ?ke_10 ?kp_10 fun _ => ?_); (case kf_10 => k_is); (case kv_10 => k_is); (case kx_10 => exact rfl); (case kb_10 => exact rfl); (case ke_10 => exact rfl); (case kp_10 => exact rfl); (with_unfolding_all change Cx.R _ _ _ _ _)) | (with_reducible refine s_return ?_) | (with_reducible refine e_int fun _ => ?_) | (with_reducible refine e_bin ?_) | (with_reducible refine v_add fun _ => ?_) | (with_reducible refine ⟨_, _, rfl, ?_⟩) | ((with_reducible refine' r_k ?kc_10 ?kr_10 ?_); (case kc_10 => first | exact k_file _ _ _ _ _ _ _ (by first | (with_reducible assumption) | omega) | exact k_rank _ _ _ _ _ _ _ (by first | (with_reducible assumption) | omega) (by first | (with_reducible assumption) | omega) (by first | (with_reducible assumption) | omega) (by first | (with_reducible assumption) | omega)); (case kr_10 => decide)) | ((with_reducible refine' e_strI ?kf_10 ?kb_10 ?kx_10 ?kh_10 ?_); (case kf_10 => k_is); (case kb_10 => boot_fast); (case kx_10 => exact rfl); (case kh_10 => exact rfl)) | ((with_reducible refine' And.intro ?k0_10 (And.intro ?k1_10 fun _ => ?_)); (case k0_10 => first | (with_reducible assumption) | omega); (case k1_10 => first | (with_reducible assumption) | omega)) | ((with_reducible refine' v_cat ?kz_10 (fun _ => ?_)); (case kz_10 => exact Nat.le_trans (Nat.add_le_add (b := 60) (d := 60) (Nat.le_trans (by assumption) (by decide)) (Nat.le_trans (by assumption) (by decide))) (by decide))) | fail))
  refine hQ _ _ _ _ ⟨_, rfl, ?_, rfl⟩ fun _ h => h
  unfold sqName
  rw [Str.length_append]
  exact Nat.le_trans (Nat.add_le_add h1 h2) (by decide)
theorem k_isq (prog : Program) (w : World) (news : Led) (f x : Int) (t1 t2 : Tok) (hf : 0 < f) (hf2 : f < 100) (hx : 0 ≤ x) (hx2 : x < 10000) : ConC prog w 123 2 news [.int f t1, .int x t2] (fun kk => ∀ tt, (sqName f x).length ≤ 30 → kk (.str (sqName f x) tt) news) := (c_isq prog w news f x t1 t2 hf hf2 hx hx2).cps (by rintro k h v nw ⟨t, rfl, h1, rfl⟩; exact h t h1)
end
section
theorem cat60 {x y : Str} (h1 : x.length ≤ 30) (h2 : y.length ≤ 30) : (x ++ y).length ≤ 60 := by rw [Str.length_append]; exact Nat.add_le_add h1 h2
theorem figure_len (k : Int) : (figureOf k).length ≤ 1 := by
  unfold figureOf
  repeat' split
  all_goals decide
noncomputable def iccfOf (f x : Int) : Str := sqName f (x / 64 % 64) ++ sqName f (x % 64) ++ figureOf (promoOf x)
theorem c_iccf_of (prog : Program) (w : World) (news : Led) (f x : Int) (t1 t2 : Tok) (hf : 0 < f) (hf2 : f < 100) :
    Con prog w 137 3 news [.int f t1, .int x t2] (fun v nw => ∃ tr, v = .str (iccfOf f x) tr ∧ nw = news) := by
  have hfig := figure_len (promoOf x)
  have e0 : 0 ≤ x / 64 % 64 := Int.emod_nonneg _ (by decide)
  have e1 : x / 64 % 64 < 10000 := Int.lt_trans (Int.emod_lt_of_pos _ (by decide)) (by decide)
  have e2 : 0 ≤ x % 64 := Int.emod_nonneg _ (by decide)
  have e3 : x % 64 < 10000 := Int.lt_trans (Int.emod_lt_of_pos _ (by decide)) (by decide)
  refine' ConX.never (runs_conX (P := False) ?ho ?hcd ?hbm ?hk4 (fun z => z.elim) ?run ?hbind ?hloc ?hco ?hgen ?hk ?hcell)
  (case ho => k_is)
  (case hcd => k_is)
  (case hbm => k_is)
  (case hk4 => k_is)
  (case hbind => exact fun _ => BindsTo.of_eq rfl)
  (case hloc => exact locs rfl)
  (case hco => exact rfl)
  (case hgen => exact rfl)
  (case hk => exact rfl)
  (case hcell => decide)
  rintro C Q rfl rfl hn0 hP hQ
  refine s_let ?_
  intro m0
  (repeat' (first | with_reducible intro _ | ((with_reducible refine' e_callP ?kf_11 ?kv_11 ?kx_11 ?kb_11 ?ke_11 ?kp_11 fun _ => ?_); (case kf_11 => k_is); (case kv_11 => k_is); (case kx_11 => exact rfl); (case kb_11 => exact rfl); (case ke_11 => exact rfl); (case kp_11 => exact rfl); (with_unfolding_all change Cx.R _ _ _ _ _)) | ((with_reducible refine' l_plain fun _ => ?_); (with_unfolding_all change Cx.R _ _ _ _ _)) | ((with_reducible refine' s_assign ?_ ?kx_11 ?ks_11); (case kx_11 => exact rfl); (case ks_11 => exact rfl); intro ka) | ((with_reducible refine s_go ?_); (try clear ka); intro _) | (with_reducible refine s_return ?_) | (with_reducible refine e_bin ?_) | ((with_reducible refine' e_local ?kv_11 ?_); (case kv_11 => exact rfl)) | ((with_reducible refine' e_call ?kf_11 ?kv_11 ?kx_11 ?kb_11 ?ke_11 ?kp_11 ?_); (case kf_11 => k_is); (case kv_11 => k_is); (case kx_11 => exact rfl); (case kb_11 => exact rfl); (case ke_11 => exact rfl); (case kp_11 => exact rfl); intro kb) | ((with_reducible refine' l_cons ?_ ?ke_11); (case ke_11 => exact rfl)) | (with_reducible refine ⟨_, _, rfl, ?_⟩) | ((with_reducible refine' r_k ?kc_11 ?kr_11 ?_); (case kc_11 => first | exact k_from _ _ _ _ _ | exact k_to _ _ _ _ _ | exact k_promo _ _ _ _ _ | exact k_figure _ _ _ _ _ | exact k_isq _ _ _ _ _ _ _ (by first | (with_reducible assumption) | omega) (by first | (with_reducible assumption) | omega) (by first | (with_reducible assumption) | omega) (by first | (with_reducible assumption) | omega)); (case kr_11 => decide)) | ((with_reducible refine' v_cat ?kz_11 (fun _ => ?_)); (case kz_11 => exact Nat.le_trans (Nat.add_le_add (b := 60) (d := 60) (by first | exact cat60 (by assumption) (by assumption) | exact Nat.le_trans (by assumption) (by decide)) (Nat.le_trans (by assumption) (by decide))) (by decide))) | fail))
  exact hQ _ _ _ _ ⟨_, rfl, rfl⟩ fun _ h => h
theorem k_iccf_of (prog : Program) (w : World) (news : Led) (f x : Int) (t1 t2 : Tok) (hf : 0 < f) (hf2 : f < 100) : ConC prog w 137 3 news [.int f t1, .int x t2] (fun kk => ∀ tt, kk (.str (iccfOf f x) tt) news) := (c_iccf_of prog w news f x t1 t2 hf hf2).cps (by rintro k h v nw ⟨t, rfl, rfl⟩; exact h t)
end
end part_M3
section part_R8
noncomputable def kindOf (y : Str) : Int := [2, 3, 4, 5].foldl (fun p k => if letterOf k = y then k else p) 0
noncomputable def kindsTo (y : Str) (i : Nat) : Int := ([2, 3, 4, 5].take i).foldl (fun p k => if letterOf k = y then k else p) 0
noncomputable def readC (f r : Int) (x : Str) : Option (Int × Int × Int) :=
  if x.length ≠ 4 ∧ x.length ≠ 5 then none
  else if squareOf f r (Txt.slice x none (some 2)) < 0 ∨ squareOf f r (Txt.slice x (some 2) (some 4)) < 0 then none
  else if x.length = 5 then if kindOf (Txt.item x 4) = 0 then none else some (squareOf f r (Txt.slice x none (some 2)), squareOf f r (Txt.slice x (some 2) (some 4)), kindOf (Txt.item x 4))
  else some (squareOf f r (Txt.slice x none (some 2)), squareOf f r (Txt.slice x (some 2) (some 4)), 0)
section
variable {f r : Int} {x : Str}
theorem rc_len (h4 : (x.length : Int) ≠ 4) (h5 : (x.length : Int) ≠ 5) : readC f r x = none := if_pos ⟨fun e => h4 (congrArg Nat.cast e), fun e => h5 (congrArg Nat.cast e)⟩
theorem len_45 (hl : (x.length : Int) = 4 ∨ (x.length : Int) = 5) : ¬ (x.length ≠ 4 ∧ x.length ≠ 5) := fun h => hl.elim (fun e => h.1 (Int.ofNat.inj e)) fun e => h.2 (Int.ofNat.inj e)
theorem rc_bad (hl : (x.length : Int) = 4 ∨ (x.length : Int) = 5) (h : squareOf f r (Txt.slice x none (some 2)) < 0 ∨ squareOf f r (Txt.slice x (some 2) (some 4)) < 0) : readC f r x = none := by
  unfold readC; rw [if_neg (len_45 hl), if_pos h]
theorem rc_4 (hl : (x.length : Int) = 4) (h : ¬ squareOf f r (Txt.slice x none (some 2)) < 0) (h' : ¬ squareOf f r (Txt.slice x (some 2) (some 4)) < 0) :
    readC f r x = some (squareOf f r (Txt.slice x none (some 2)), squareOf f r (Txt.slice x (some 2) (some 4)), 0) := by
  unfold readC; rw [if_neg (len_45 (.inl hl)), if_neg (not_or.mpr ⟨h, h'⟩), if_neg fun e => absurd ((congrArg Nat.cast e).symm.trans hl) (by decide)]
theorem rc_5n (hl : (x.length : Int) = 5) (hk : kindOf (Txt.item x 4) = 0) : readC f r x = none := by
  unfold readC
  rw [if_neg (len_45 (.inr hl))]
  split
  · rfl
  · rw [if_pos (Int.ofNat.inj hl)]
theorem rc_5 (hl : (x.length : Int) = 5) (h : ¬ squareOf f r (Txt.slice x none (some 2)) < 0) (h' : ¬ squareOf f r (Txt.slice x (some 2) (some 4)) < 0) (hk : kindOf (Txt.item x 4) ≠ 0) :
    readC f r x = some (squareOf f r (Txt.slice x none (some 2)), squareOf f r (Txt.slice x (some 2) (some 4)), kindOf (Txt.item x 4)) := by
  unfold readC; rw [if_neg (len_45 (.inr hl)), if_neg (not_or.mpr ⟨h, h'⟩), if_pos (Int.ofNat.inj hl), if_neg hk]
theorem kindsTo_step {y : Str} {i : Nat} {k : Int} (h : [2, 3, 4, 5][i]? = some k) : kindsTo y (i + 1) = if letterOf k = y then k else kindsTo y i := by
  unfold kindsTo
  rw [List.take_add_one, h, List.foldl_append]; rfl
theorem kinds_at {i : Nat} {v : Value} {a b c d : Tok} (h : [Value.int 2 a, .int 3 b, .int 4 c, .int 5 d][i]? = some v) : ∃ k t, v = .int k t ∧ [(2 : Int), 3, 4, 5][i]? = some k := by
  rcases i with _ | _ | _ | _ | i
  · cases h; exact ⟨_, _, rfl, rfl⟩
  · cases h; exact ⟨_, _, rfl, rfl⟩
  · cases h; exact ⟨_, _, rfl, rfl⟩
  · cases h; exact ⟨_, _, rfl, rfl⟩
  · cases h
end
theorem sub_drop {a b : Addr × Obj} {n : Led} : ∀ p ∈ a :: n, p ∈ a :: b :: n := fun _ h => (List.mem_cons.mp h).elim (fun e => e ▸ .head _) fun h => .tail _ (.tail _ h)
section
theorem c_coords (prog : Program) (w : World) (news : Led) (f r : Int) (x : Str) (t1 t2 t3 : Tok) (hf : 2 ≤ f ∧ f ≤ 8) (hr : 3 ≤ r ∧ r ≤ 8) (hx : x.length < 100) :
    ConX prog w 109 5 news [.int f t1, .int r t2, .str x t3] (fun v nw => ∃ a u1 u2 u3 o g p, v = .ref a ∧ readC f r x = some (o, g, p) ∧ (∀ q ∈ news, q.1 < a) ∧ nw = (a, tupOf [.int o u1, .int g u2, .int p u3]) :: news) (readC f r x = none) := by
  refine' (runs_conX ?ho ?hcd ?hbm ?hk4 (fun _ => by decide) ?run ?hbind ?hloc ?hco ?hgen ?hk ?hcell)
  (case ho => k_is)
  (case hcd => k_is)
  (case hbm => k_is)
  (case hk4 => k_is)
  (case hbind => exact fun _ => BindsTo.of_eq rfl)
  (case hloc => exact locs rfl)
  (case hco => exact rfl)
  (case hgen => exact rfl)
  (case hk => exact rfl)
  (case hcell => decide)
  rintro C Q rfl rfl hn0 hP hQ
  refine s_let ?_
  intro m0
  refine s_cut (fun m n => m0 = m ∧ news = n ∧ ((x.length : Int) = 4 ∨ (x.length : Int) = 5)) (if1 ?_) ?_
  · (repeat' (first | with_reducible intro _ | ((with_reducible refine' e_callP ?kf_12 ?kv_12 ?kx_12 ?kb_12 ?ke_12 ?kp_12 fun _ => ?_); (case kf_12 => k_is); (case kv_12 => k_is); (case kx_12 => exact rfl); (case kb_12 => exact rfl); (case ke_12 => exact rfl); (case kp_12 => exact rfl); (with_unfolding_all change Cx.R _ _ _ _ _)) | ((with_reducible refine' t_cmpP ?_ ?km_12); (case km_12 => exact rfl); (first | (with_unfolding_all change Cx.R _ _ _ _ _) | (intro _; (with_unfolding_all change Cx.R _ _ _ _ _)) | (intro _; intro _; (with_unfolding_all change Cx.R _ _ _ _ _)))) | ((with_reducible refine e_subP ?_); (first | (with_unfolding_all change Cx.R _ _ _ _ _) | (intro _; (with_unfolding_all change Cx.R _ _ _ _ _)) | (intro _; intro _; (with_unfolding_all change Cx.R _ _ _ _ _)))) | ((with_reducible refine' l_plain fun _ => ?_); (with_unfolding_all change Cx.R _ _ _ _ _)) | ((with_reducible refine' s_assign ?_ ?kx_12 ?ks_12); (case kx_12 => exact rfl); (case ks_12 => exact rfl); intro ka) | ((with_reducible refine s_go ?_); (try clear ka); intro _) | (with_reducible refine s_return ?_) | ((with_reducible refine s_if ?_); intro kc) | (with_reducible refine s_skip ?_) | (with_reducible refine on_next ?_) | ((with_reducible refine at_true ?_); (try clear kc)) | ((with_reducible refine at_false ?_); (try clear kc)) | ((with_reducible refine at_true' ?_); (try clear kc)) | ((with_reducible refine at_false' ?_); (try clear kc)) | (with_reducible refine e_int fun _ => ?_) | (with_reducible refine t_and ?_) | (with_reducible refine t_or ?_) | (with_reducible refine t_and_nil ?_) | (with_reducible refine t_or_nil ?_) | (with_reducible refine b_eq (fun _ => ?_) (fun _ => ?_)) | (with_reducible refine b_ne (fun _ => ?_) (fun _ => ?_)) | (with_reducible refine b_lt (fun _ => ?_) (fun _ => ?_)) | (with_reducible refine b_eqS (fun _ => ?_) (fun _ => ?_)) | ((with_reducible refine' e_local ?kv_12 ?_); (case kv_12 => exact rfl)) | ((with_reducible refine' e_call ?kf_12 ?kv_12 ?kx_12 ?kb_12 ?ke_12 ?kp_12 ?_); (case kf_12 => k_is); (case kv_12 => k_is); (case kx_12 => exact rfl); (case kb_12 => exact rfl); (case ke_12 => exact rfl); (case kp_12 => exact rfl); intro kb) | ((with_reducible refine' e_glob ?kf_12 ?kx_12 ?kb_12 ?_); (case kf_12 => k_is); (case kx_12 => exact rfl); (case kb_12 => exact rfl)) | ((with_reducible refine' t_cmp ?_ ?km_12); (case km_12 => exact rfl)) | ((with_reducible refine' l_cons ?_ ?ke_12); (case ke_12 => exact rfl)) | ((with_reducible refine' e_to ?kv_12 ?kz_12 ?_); (case kv_12 => exact rfl); (case kz_12 => (rw [sizeLine_eq]; omega))) | ((with_reducible refine' e_mid ?kv_12 ?kz_12 ?_); (case kv_12 => exact rfl); (case kz_12 => (rw [sizeLine_eq]; omega))) | ((with_reducible refine' v_item ?k0_12 ?k1_12 ?k2_12 (fun _ => ?_) ?kd_12 ?ke_12); (case kd_12 => with_unfolding_all rfl); (case ke_12 => (intro _; with_unfolding_all rfl)); (case k0_12 => first | (with_reducible assumption) | decide | assumption); (case k1_12 => first | omega | exact Int.lt_of_lt_of_le (by with_reducible assumption) (by decide)); (case k2_12 => first | omega | decide)) | ((with_reducible refine' e_builtin1 ?kf_12 ?kx_12 ?kb_12 ?kv_12 ?kn_12 ?_ ?kh_12); (case kf_12 => k_is); (case kx_12 => exact rfl); (case kb_12 => exact rfl); (case kv_12 => boot_fast); (case kn_12 => decide); (case kh_12 => exact rfl)) | ((with_reducible refine' v_lenS ?kz_12 fun _ => ?_); (case kz_12 => omega)) | (with_reducible refine ⟨_, _, rfl, ?_⟩) | ((with_reducible refine' r_k ?kc_12 ?kr_12 ?_); (case kc_12 => first | exact k_letter _ _ _ _ _ | (refine k_square _ _ _ _ _ _ _ _ _ (by omega) ?_; first | omega | exact Nat.lt_of_le_of_lt (Txt.slice_le _ _ _) (by assumption))); (case kr_12 => decide)) | (with_reducible refine e_tuple ?_) | ((with_reducible refine' v_tuple ?kz_12 fun _ _ => ?_); (case kz_12 => exact Nat.le_of_ble_eq_true rfl)) | (with_reducible refine e_list ?_) | ((with_reducible refine' v_list ?kz_12 fun _ _ => ?_); (case kz_12 => exact Nat.le_of_ble_eq_true rfl)) | fail))
    all_goals first
      | exact s_nil ⟨rfl, rfl, .inl (by assumption)⟩
      | exact s_nil ⟨rfl, rfl, .inr (by assumption)⟩
      | exact s_nil ⟨rfl, rfl, by omega⟩
      | exact s_raise (hP (rc_len (by assumption) (by assumption))) rfl (fun q hq => hn0 ▸ hq)
      | exact s_raise (hP (rc_len (by omega) (by omega))) rfl (fun q hq => hn0 ▸ hq)
  rintro _ _ ⟨rfl, rfl, hlen⟩
  (repeat' (first | with_reducible intro _ | ((with_reducible refine' e_callP ?kf_13 ?kv_13 ?kx_13 ?kb_13 ?ke_13 ?kp_13 fun _ => ?_); (case kf_13 => k_is); (case kv_13 => k_is); (case kx_13 => exact rfl); (case kb_13 => exact rfl); (case ke_13 => exact rfl); (case kp_13 => exact rfl); (with_unfolding_all change Cx.R _ _ _ _ _)) | ((with_reducible refine' t_cmpP ?_ ?km_13); (case km_13 => exact rfl); (first | (with_unfolding_all change Cx.R _ _ _ _ _) | (intro _; (with_unfolding_all change Cx.R _ _ _ _ _)) | (intro _; intro _; (with_unfolding_all change Cx.R _ _ _ _ _)))) | ((with_reducible refine e_subP ?_); (first | (with_unfolding_all change Cx.R _ _ _ _ _) | (intro _; (with_unfolding_all change Cx.R _ _ _ _ _)) | (intro _; intro _; (with_unfolding_all change Cx.R _ _ _ _ _)))) | ((with_reducible refine' l_plain fun _ => ?_); (with_unfolding_all change Cx.R _ _ _ _ _)) | ((with_reducible refine' s_assign ?_ ?kx_13 ?ks_13); (case kx_13 => exact rfl); (case ks_13 => exact rfl); intro ka) | ((with_reducible refine s_go ?_); (try clear ka); intro _) | (with_reducible refine s_return ?_) | ((with_reducible refine s_if ?_); intro kc) | (with_reducible refine s_skip ?_) | (with_reducible refine on_next ?_) | ((with_reducible refine at_true ?_); (try clear kc)) | ((with_reducible refine at_false ?_); (try clear kc)) | ((with_reducible refine at_true' ?_); (try clear kc)) | ((with_reducible refine at_false' ?_); (try clear kc)) | (with_reducible refine e_int fun _ => ?_) | (with_reducible refine t_and ?_) | (with_reducible refine t_or ?_) | (with_reducible refine t_and_nil ?_) | (with_reducible refine t_or_nil ?_) | (with_reducible refine b_eq (fun _ => ?_) (fun _ => ?_)) | (with_reducible refine b_ne (fun _ => ?_) (fun _ => ?_)) | (with_reducible refine b_lt (fun _ => ?_) (fun _ => ?_)) | (with_reducible refine b_eqS (fun _ => ?_) (fun _ => ?_)) | ((with_reducible refine' e_local ?kv_13 ?_); (case kv_13 => exact rfl)) | ((with_reducible refine' e_call ?kf_13 ?kv_13 ?kx_13 ?kb_13 ?ke_13 ?kp_13 ?_); (case kf_13 => k_is); (case kv_13 => k_is); (case kx_13 => exact rfl); (case kb_13 => exact rfl); (case ke_13 => exact rfl); (case kp_13 => exact rfl); intro kb) | ((with_reducible refine' e_glob ?kf_13 ?kx_13 ?kb_13 ?_); (case kf_13 => k_is); (case kx_13 => exact rfl); (case kb_13 => exact rfl)) | ((with_reducible refine' t_cmp ?_ ?km_13); (case km_13 => exact rfl)) | ((with_reducible refine' l_cons ?_ ?ke_13); (case ke_13 => exact rfl)) | ((with_reducible refine' e_to ?kv_13 ?kz_13 ?_); (case kv_13 => exact rfl); (case kz_13 => (rw [sizeLine_eq]; omega))) | ((with_reducible refine' e_mid ?kv_13 ?kz_13 ?_); (case kv_13 => exact rfl); (case kz_13 => (rw [sizeLine_eq]; omega))) | ((with_reducible refine' v_item ?k0_13 ?k1_13 ?k2_13 (fun _ => ?_) ?kd_13 ?ke_13); (case kd_13 => with_unfolding_all rfl); (case ke_13 => (intro _; with_unfolding_all rfl)); (case k0_13 => first | (with_reducible assumption) | decide | assumption); (case k1_13 => first | omega | exact Int.lt_of_lt_of_le (by with_reducible assumption) (by decide)); (case k2_13 => first | omega | decide)) | ((with_reducible refine' e_builtin1 ?kf_13 ?kx_13 ?kb_13 ?kv_13 ?kn_13 ?_ ?kh_13); (case kf_13 => k_is); (case kx_13 => exact rfl); (case kb_13 => exact rfl); (case kv_13 => boot_fast); (case kn_13 => decide); (case kh_13 => exact rfl)) | ((with_reducible refine' v_lenS ?kz_13 fun _ => ?_); (case kz_13 => omega)) | (with_reducible refine ⟨_, _, rfl, ?_⟩) | ((with_reducible refine' r_k ?kc_13 ?kr_13 ?_); (case kc_13 => first | exact k_letter _ _ _ _ _ | (refine k_square _ _ _ _ _ _ _ _ _ (by omega) ?_; first | omega | exact Nat.lt_of_le_of_lt (Txt.slice_le _ _ _) (by assumption))); (case kr_13 => decide)) | (with_reducible refine e_tuple ?_) | ((with_reducible refine' v_tuple ?kz_13 fun _ _ => ?_); (case kz_13 => exact Nat.le_of_ble_eq_true rfl)) | (with_reducible refine e_list ?_) | ((with_reducible refine' v_list ?kz_13 fun _ _ => ?_); (case kz_13 => exact Nat.le_of_ble_eq_true rfl)) | fail))
  all_goals try first
    | exact s_raise (hP (rc_bad hlen (.inl (by assumption)))) rfl (fun q hq => hn0 ▸ hq)
    | exact s_raise (hP (rc_bad hlen (.inr (by assumption)))) rfl (fun q hq => hn0 ▸ hq)
    | exact s_raise (hP (rc_bad hlen (by omega))) rfl (fun q hq => hn0 ▸ hq)
  · refine s_seq (forL (σ := Int × Tok) (fun _ n1 _ => n1) (fun c => [(Str.ofString "promo", .int c.1 c.2)]) [] (fun i c => c.1 = kindsTo (Txt.item x 4) i) (0, 236) rfl (fun _ => rfl) ?_ ?hk rfl)
    case hk => (intro p hp; cases List.mem_singleton.mp hp; rfl)
    (repeat' (first | with_reducible intro _ | ((with_reducible refine' e_callP ?kf_14 ?kv_14 ?kx_14 ?kb_14 ?ke_14 ?kp_14 fun _ => ?_); (case kf_14 => k_is); (case kv_14 => k_is); (case kx_14 => exact rfl); (case kb_14 => exact rfl); (case ke_14 => exact rfl); (case kp_14 => exact rfl); (with_unfolding_all change Cx.R _ _ _ _ _)) | ((with_reducible refine' t_cmpP ?_ ?km_14); (case km_14 => exact rfl); (first | (with_unfolding_all change Cx.R _ _ _ _ _) | (intro _; (with_unfolding_all change Cx.R _ _ _ _ _)) | (intro _; intro _; (with_unfolding_all change Cx.R _ _ _ _ _)))) | ((with_reducible refine e_subP ?_); (first | (with_unfolding_all change Cx.R _ _ _ _ _) | (intro _; (with_unfolding_all change Cx.R _ _ _ _ _)) | (intro _; intro _; (with_unfolding_all change Cx.R _ _ _ _ _)))) | ((with_reducible refine' l_plain fun _ => ?_); (with_unfolding_all change Cx.R _ _ _ _ _)) | ((with_reducible refine' s_assign ?_ ?kx_14 ?ks_14); (case kx_14 => exact rfl); (case ks_14 => exact rfl); intro ka) | ((with_reducible refine s_go ?_); (try clear ka); intro _) | (with_reducible refine s_return ?_) | ((with_reducible refine s_if ?_); intro kc) | (with_reducible refine s_skip ?_) | (with_reducible refine on_next ?_) | ((with_reducible refine at_true ?_); (try clear kc)) | ((with_reducible refine at_false ?_); (try clear kc)) | ((with_reducible refine at_true' ?_); (try clear kc)) | ((with_reducible refine at_false' ?_); (try clear kc)) | (with_reducible refine e_int fun _ => ?_) | (with_reducible refine t_and ?_) | (with_reducible refine t_or ?_) | (with_reducible refine t_and_nil ?_) | (with_reducible refine t_or_nil ?_) | (with_reducible refine b_eq (fun _ => ?_) (fun _ => ?_)) | (with_reducible refine b_ne (fun _ => ?_) (fun _ => ?_)) | (with_reducible refine b_lt (fun _ => ?_) (fun _ => ?_)) | (with_reducible refine b_eqS (fun _ => ?_) (fun _ => ?_)) | ((with_reducible refine' e_local ?kv_14 ?_); (case kv_14 => exact rfl)) | ((with_reducible refine' e_call ?kf_14 ?kv_14 ?kx_14 ?kb_14 ?ke_14 ?kp_14 ?_); (case kf_14 => k_is); (case kv_14 => k_is); (case kx_14 => exact rfl); (case kb_14 => exact rfl); (case ke_14 => exact rfl); (case kp_14 => exact rfl); intro kb) | ((with_reducible refine' e_glob ?kf_14 ?kx_14 ?kb_14 ?_); (case kf_14 => k_is); (case kx_14 => exact rfl); (case kb_14 => exact rfl)) | ((with_reducible refine' t_cmp ?_ ?km_14); (case km_14 => exact rfl)) | ((with_reducible refine' l_cons ?_ ?ke_14); (case ke_14 => exact rfl)) | ((with_reducible refine' e_to ?kv_14 ?kz_14 ?_); (case kv_14 => exact rfl); (case kz_14 => (rw [sizeLine_eq]; omega))) | ((with_reducible refine' e_mid ?kv_14 ?kz_14 ?_); (case kv_14 => exact rfl); (case kz_14 => (rw [sizeLine_eq]; omega))) | ((with_reducible refine' v_item ?k0_14 ?k1_14 ?k2_14 (fun _ => ?_) ?kd_14 ?ke_14); (case kd_14 => with_unfolding_all rfl); (case ke_14 => (intro _; with_unfolding_all rfl)); (case k0_14 => first | (with_reducible assumption) | decide | assumption); (case k1_14 => first | omega | exact Int.lt_of_lt_of_le (by with_reducible assumption) (by decide)); (case k2_14 => first | omega | decide)) | ((with_reducible refine' e_builtin1 ?kf_14 ?kx_14 ?kb_14 ?kv_14 ?kn_14 ?_ ?kh_14); (case kf_14 => k_is); (case kx_14 => exact rfl); (case kb_14 => exact rfl); (case kv_14 => boot_fast); (case kn_14 => decide); (case kh_14 => exact rfl)) | ((with_reducible refine' v_lenS ?kz_14 fun _ => ?_); (case kz_14 => omega)) | (with_reducible refine ⟨_, _, rfl, ?_⟩) | ((with_reducible refine' r_k ?kc_14 ?kr_14 ?_); (case kc_14 => first | exact k_letter _ _ _ _ _ | (refine k_square _ _ _ _ _ _ _ _ _ (by omega) ?_; first | omega | exact Nat.lt_of_le_of_lt (Txt.slice_le _ _ _) (by assumption))); (case kr_14 => decide)) | (with_reducible refine e_tuple ?_) | ((with_reducible refine' v_tuple ?kz_14 fun _ _ => ?_); (case kz_14 => exact Nat.le_of_ble_eq_true rfl)) | (with_reducible refine e_list ?_) | ((with_reducible refine' v_list ?kz_14 fun _ _ => ?_); (case kz_14 => exact Nat.le_of_ble_eq_true rfl)) | fail))
    refine ⟨_, _, _, rfl, rfl, fun _ => List.mem_cons_self, ?_, ?_⟩
    · intro c i v u own hv hoff hp m9
      obtain ⟨k, t, rfl, hk9⟩ := kinds_at hv
      (repeat' (first | with_reducible intro _ | ((with_reducible refine' e_callP ?kf_15 ?kv_15 ?kx_15 ?kb_15 ?ke_15 ?kp_15 fun _ => ?_); (case kf_15 => k_is); (case kv_15 => k_is); (case kx_15 => exact rfl); (case kb_15 => exact rfl); (case ke_15 => exact rfl); (case kp_15 => exact rfl); (with_unfolding_all change Cx.R _ _ _ _ _)) | ((with_reducible refine' t_cmpP ?_ ?km_15); (case km_15 => exact rfl); (first | (with_unfolding_all change Cx.R _ _ _ _ _) | (intro _; (with_unfolding_all change Cx.R _ _ _ _ _)) | (intro _; intro _; (with_unfolding_all change Cx.R _ _ _ _ _)))) | ((with_reducible refine e_subP ?_); (first | (with_unfolding_all change Cx.R _ _ _ _ _) | (intro _; (with_unfolding_all change Cx.R _ _ _ _ _)) | (intro _; intro _; (with_unfolding_all change Cx.R _ _ _ _ _)))) | ((with_reducible refine' l_plain fun _ => ?_); (with_unfolding_all change Cx.R _ _ _ _ _)) | ((with_reducible refine' s_assign ?_ ?kx_15 ?ks_15); (case kx_15 => exact rfl); (case ks_15 => exact rfl); intro ka) | ((with_reducible refine s_go ?_); (try clear ka); intro _) | (with_reducible refine s_return ?_) | ((with_reducible refine s_if ?_); intro kc) | (with_reducible refine s_skip ?_) | (with_reducible refine on_next ?_) | ((with_reducible refine at_true ?_); (try clear kc)) | ((with_reducible refine at_false ?_); (try clear kc)) | ((with_reducible refine at_true' ?_); (try clear kc)) | ((with_reducible refine at_false' ?_); (try clear kc)) | (with_reducible refine e_int fun _ => ?_) | (with_reducible refine t_and ?_) | (with_reducible refine t_or ?_) | (with_reducible refine t_and_nil ?_) | (with_reducible refine t_or_nil ?_) | (with_reducible refine b_eq (fun _ => ?_) (fun _ => ?_)) | (with_reducible refine b_ne (fun _ => ?_) (fun _ => ?_)) | (with_reducible refine b_lt (fun _ => ?_) (fun _ => ?_)) | (with_reducible refine b_eqS (fun _ => ?_) (fun _ => ?_)) | ((with_reducible refine' e_local ?kv_15 ?_); (case kv_15 => exact rfl)) | ((with_reducible refine' e_call ?kf_15 ?kv_15 ?kx_15 ?kb_15 ?ke_15 ?kp_15 ?_); (case kf_15 => k_is); (case kv_15 => k_is); (case kx_15 => exact rfl); (case kb_15 => exact rfl); (case ke_15 => exact rfl); (case kp_15 => exact rfl); intro kb) | ((with_reducible refine' e_glob ?kf_15 ?kx_15 ?kb_15 ?_); (case kf_15 => k_is); (case kx_15 => exact rfl); (case kb_15 => exact rfl)) | ((with_reducible refine' t_cmp ?_ ?km_15); (case km_15 => exact rfl)) | ((with_reducible refine' l_cons ?_ ?ke_15); (case ke_15 => exact rfl)) | ((with_reducible refine' e_to ?kv_15 ?kz_15 ?_); (case kv_15 => exact rfl); (case kz_15 => (rw [sizeLine_eq]; omega))) | ((with_reducible refine' e_mid ?kv_15 ?kz_15 ?_); (case kv_15 => exact rfl); (case kz_15 => (rw [sizeLine_eq]; omega))) | ((with_reducible refine' v_item ?k0_15 ?k1_15 ?k2_15 (fun _ => ?_) ?kd_15 ?ke_15); (case kd_15 => with_unfolding_all rfl); (case ke_15 => (intro _; with_unfolding_all rfl)); (case k0_15 => first | (with_reducible assumption) | decide | assumption); (case k1_15 => first | omega | exact Int.lt_of_lt_of_le (by with_reducible assumption) (by decide)); (case k2_15 => first | omega | decide)) | ((with_reducible refine' e_builtin1 ?kf_15 ?kx_15 ?kb_15 ?kv_15 ?kn_15 ?_ ?kh_15); (case kf_15 => k_is); (case kx_15 => exact rfl); (case kb_15 => exact rfl); (case kv_15 => boot_fast); (case kn_15 => decide); (case kh_15 => exact rfl)) | ((with_reducible refine' v_lenS ?kz_15 fun _ => ?_); (case kz_15 => omega)) | (with_reducible refine ⟨_, _, rfl, ?_⟩) | ((with_reducible refine' r_k ?kc_15 ?kr_15 ?_); (case kc_15 => first | exact k_letter _ _ _ _ _ | (refine k_square _ _ _ _ _ _ _ _ _ (by omega) ?_; first | omega | exact Nat.lt_of_le_of_lt (Txt.slice_le _ _ _) (by assumption))); (case kr_15 => decide)) | (with_reducible refine e_tuple ?_) | ((with_reducible refine' v_tuple ?kz_15 fun _ _ => ?_); (case kz_15 => exact Nat.le_of_ble_eq_true rfl)) | (with_reducible refine e_list ?_) | ((with_reducible refine' v_list ?kz_15 fun _ _ => ?_); (case kz_15 => exact Nat.le_of_ble_eq_true rfl)) | fail))
      · refine s_nil ⟨(k, t), fun p hp => List.mem_append_left _ hp, fun p hp => List.mem_append_right _ hp, hoff, ?_, ?_, ?_⟩
        · intro p hp; cases List.mem_singleton.mp hp; rfl
        · exact fun z h1 h2 _ => (if_neg (h2 _ (List.mem_singleton.mpr rfl))).trans ((if_neg h1).trans (if_neg (h2 _ (List.mem_singleton.mpr rfl))))
        · exact ((kindsTo_step hk9).trans (if_pos (by assumption))).symm
      · refine s_nil ⟨c, fun p hp => List.mem_append_left _ hp, fun p hp => List.mem_append_right _ hp, hoff, ?_, ?_, ?_⟩
        · intro p hp; cases List.mem_singleton.mp hp; rfl
        · exact fun z h1 h2 _ => (if_neg h1).trans (if_neg (h2 _ (List.mem_singleton.mpr rfl)))
        · exact hp.trans ((kindsTo_step hk9).trans (if_neg (by assumption))).symm
    · intro c u hp m9
      have hk9 : c.1 = kindOf (Txt.item x 4) := hp
      (repeat' (first | with_reducible intro _ | ((with_reducible refine' e_callP ?kf_16 ?kv_16 ?kx_16 ?kb_16 ?ke_16 ?kp_16 fun _ => ?_); (case kf_16 => k_is); (case kv_16 => k_is); (case kx_16 => exact rfl); (case kb_16 => exact rfl); (case ke_16 => exact rfl); (case kp_16 => exact rfl); (with_unfolding_all change Cx.R _ _ _ _ _)) | ((with_reducible refine' t_cmpP ?_ ?km_16); (case km_16 => exact rfl); (first | (with_unfolding_all change Cx.R _ _ _ _ _) | (intro _; (with_unfolding_all change Cx.R _ _ _ _ _)) | (intro _; intro _; (with_unfolding_all change Cx.R _ _ _ _ _)))) | ((with_reducible refine e_subP ?_); (first | (with_unfolding_all change Cx.R _ _ _ _ _) | (intro _; (with_unfolding_all change Cx.R _ _ _ _ _)) | (intro _; intro _; (with_unfolding_all change Cx.R _ _ _ _ _)))) | ((with_reducible refine' l_plain fun _ => ?_); (with_unfolding_all change Cx.R _ _ _ _ _)) | ((with_reducible refine' s_assign ?_ ?kx_16 ?ks_16); (case kx_16 => exact rfl); (case ks_16 => exact rfl); intro ka) | ((with_reducible refine s_go ?_); (try clear ka); intro _) | (with_reducible refine s_return ?_) | ((with_reducible refine s_if ?_); intro kc) | (with_reducible refine s_skip ?_) | (with_reducible refine on_next ?_) | ((with_reducible refine at_true ?_); (try clear kc)) | ((with_reducible refine at_false ?_); (try clear kc)) | ((with_reducible refine at_true' ?_); (try clear kc)) | ((with_reducible refine at_false' ?_); (try clear kc)) | (with_reducible refine e_int fun _ => ?_) | (with_reducible refine t_and ?_) | (with_reducible refine t_or ?_) | (with_reducible refine t_and_nil ?_) | (with_reducible refine t_or_nil ?_) | (with_reducible refine b_eq (fun _ => ?_) (fun _ => ?_)) | (with_reducible refine b_ne (fun _ => ?_) (fun _ => ?_)) | (with_reducible refine b_lt (fun _ => ?_) (fun _ => ?_)) | (with_reducible refine b_eqS (fun _ => ?_) (fun _ => ?_)) | ((with_reducible refine' e_local ?kv_16 ?_); (case kv_16 => exact rfl)) | ((with_reducible refine' e_call ?kf_16 ?kv_16 ?kx_16 ?kb_16 ?ke_16 ?kp_16 ?_); (case kf_16 => k_is); (case kv_16 => k_is); (case kx_16 => exact rfl); (case kb_16 => exact rfl); (case ke_16 => exact rfl); (case kp_16 => exact rfl); intro kb) | ((with_reducible refine' e_glob ?kf_16 ?kx_16 ?kb_16 ?_); (case kf_16 => k_is); (case kx_16 => exact rfl); (case kb_16 => exact rfl)) | ((with_reducible refine' t_cmp ?_ ?km_16); (case km_16 => exact rfl)) | ((with_reducible refine' l_cons ?_ ?ke_16); (case ke_16 => exact rfl)) | ((with_reducible refine' e_to ?kv_16 ?kz_16 ?_); (case kv_16 => exact rfl); (case kz_16 => (rw [sizeLine_eq]; omega))) | ((with_reducible refine' e_mid ?kv_16 ?kz_16 ?_); (case kv_16 => exact rfl); (case kz_16 => (rw [sizeLine_eq]; omega))) | ((with_reducible refine' v_item ?k0_16 ?k1_16 ?k2_16 (fun _ => ?_) ?kd_16 ?ke_16); (case kd_16 => with_unfolding_all rfl); (case ke_16 => (intro _; with_unfolding_all rfl)); (case k0_16 => first | (with_reducible assumption) | decide | assumption); (case k1_16 => first | omega | exact Int.lt_of_lt_of_le (by with_reducible assumption) (by decide)); (case k2_16 => first | omega | decide)) | ((with_reducible refine' e_builtin1 ?kf_16 ?kx_16 ?kb_16 ?kv_16 ?kn_16 ?_ ?kh_16); (case kf_16 => k_is); (case kx_16 => exact rfl); (case kb_16 => exact rfl); (case kv_16 => boot_fast); (case kn_16 => decide); (case kh_16 => exact rfl)) | ((with_reducible refine' v_lenS ?kz_16 fun _ => ?_); (case kz_16 => omega)) | (with_reducible refine ⟨_, _, rfl, ?_⟩) | ((with_reducible refine' r_k ?kc_16 ?kr_16 ?_); (case kc_16 => first | exact k_letter _ _ _ _ _ | (refine k_square _ _ _ _ _ _ _ _ _ (by omega) ?_; first | omega | exact Nat.lt_of_le_of_lt (Txt.slice_le _ _ _) (by assumption))); (case kr_16 => decide)) | (with_reducible refine e_tuple ?_) | ((with_reducible refine' v_tuple ?kz_16 fun _ _ => ?_); (case kz_16 => exact Nat.le_of_ble_eq_true rfl)) | (with_reducible refine e_list ?_) | ((with_reducible refine' v_list ?kz_16 fun _ _ => ?_); (case kz_16 => exact Nat.le_of_ble_eq_true rfl)) | fail))
      · exact s_raise (hP (rc_5n (by assumption) (by first | exact hk9.symm.trans (by assumption) | omega))) rfl (fun q hq => List.mem_cons_of_mem _ (hn0 ▸ hq))
      · rename_i l9
        exact hQ _ _ _ _ ⟨_, _, _, _, _, _, _, rfl, (by rw [hk9]; exact rc_5 (by assumption) (by assumption) (by assumption) (by first | exact fun e => absurd (hk9.trans e) (by assumption) | omega)), fun q hq => l9 q (List.mem_cons_of_mem _ hq), rfl⟩ sub_drop
  · exact hQ _ _ _ _ ⟨_, _, _, _, _, _, _, rfl, rc_4 (by first | exact hlen.resolve_right (by assumption) | omega) (by assumption) (by assumption), by assumption, rfl⟩ fun _ h => h
theorem k_coords (prog : Program) (w : World) (news : Led) (f r : Int) (x : Str) (t1 t2 t3 : Tok) (hf : 2 ≤ f ∧ f ≤ 8) (hr : 3 ≤ r ∧ r ≤ 8) (hx : x.length < 100) : ConXC prog w 109 5 news [.int f t1, .int r t2, .str x t3] (fun kk => ∀ a u1 u2 u3 o g p, readC f r x = some (o, g, p) → (∀ q ∈ news, q.1 < a) → kk (.ref a) ((a, tupOf [.int o u1, .int g u2, .int p u3]) :: news)) (readC f r x = none) := (c_coords prog w news f r x t1 t2 t3 hf hr hx).cps (by rintro k h v nw ⟨a, u1, u2, u3, o, g, p, rfl, h1, h2, rfl⟩; exact h a u1 u2 u3 o g p h1 h2)
end
end part_R8
section part_R9
noncomputable def hits (q : Int × Int × Int) (mv : Int) : Bool := decide (mv / 64 % 64 = q.1) && (decide (mv % 64 = q.2.1) && decide (promoOf mv = q.2.2))
noncomputable def findC (f r : Int) (ns : List Int) (x : Str) : Option Int := (readC f r x).bind fun q => ns.find? (hits q)
theorem hits_yes {mv o g pm : Int} (h1 : mv / 64 % 64 = o) (h2 : mv % 64 = g) (h3 : promoOf mv = pm) : hits (o, g, pm) mv = true := by
  unfold hits
  simp [h1, h2, h3]
theorem hits_no {mv o g pm : Int} (h : mv / 64 % 64 ≠ o ∨ mv % 64 ≠ g ∨ promoOf mv ≠ pm) : hits (o, g, pm) mv = false := by
  unfold hits
  rcases h with h | h | h <;> simp [h]
theorem find_at {ns : List Int} {p : Int → Bool} {i : Nat} {mv : Int} (h : ns[i]? = some mv) (hb : ∀ j mv', j < i → ns[j]? = some mv' → p mv' = false) (hp : p mv = true) : ns.find? p = some mv := by
  rw [List.find?_eq_some_iff_getElem]
  obtain ⟨hi, he⟩ := List.getElem?_eq_some_iff.mp h
  refine ⟨hp, i, hi, he, fun j hj => ?_⟩
  rw [hb j _ hj (List.getElem?_eq_getElem (Nat.lt_trans hj hi))]
  rfl
theorem ints_at {vs : List Value} {ns : List Int} {i : Nat} {v : Value} (hi : IntsAre vs ns) (hv : vs[i]? = some v) : ∃ mv t, v = .int mv t ∧ ns[i]? = some mv := by
  have hi9 : i < ns.length := by rw [← hi.length]; exact (List.getElem?_eq_some_iff.mp hv).1
  obtain ⟨t, ht⟩ := hi.get i (ns[i]) (List.getElem?_eq_getElem hi9)
  rw [ht] at hv
  exact ⟨_, t, (Option.some.inj hv).symm, List.getElem?_eq_getElem hi9⟩
noncomputable def noHit (q : Int × Int × Int) (ns : List Int) (i : Nat) : Prop := ∀ j mv, j < i → ns[j]? = some mv → hits q mv = false
theorem noHit.step {q : Int × Int × Int} {ns : List Int} {i : Nat} {mv : Int} (h : noHit q ns i) (hm : ns[i]? = some mv) (hn : hits q mv = false) : noHit q ns (i + 1) := fun j mv' hj hv => by
  rcases Nat.lt_or_eq_of_le (Nat.le_of_lt_succ hj) with hj | rfl
  · exact h j mv' hj hv
  · rw [hm] at hv; cases hv; exact hn
theorem noHit.none {q : Int × Int × Int} {ns : List Int} {k : Nat} (h : noHit q ns k) (hk : ns.length ≤ k) : ns.find? (hits q) = none := by
  rw [List.find?_eq_none]
  intro mv hm
  obtain ⟨j, hj, rfl⟩ := List.mem_iff_getElem.mp hm
  rw [h j _ (by omega) (List.getElem?_eq_getElem hj)]
  decide
theorem turn_plain {C : Cx sc room} {x : Str} {m m' : Str → Option Value} {n n' own : Led} {P : Nat → Unit → Prop} {i : Nat} {Q : Flow → (Str → Option Value) → Led → Prop} (hn : ∀ p ∈ n ++ own, p ∈ n') (hoff : OwnOff own (n.map (·.1))) (hm : ∀ z, z ≠ x → m' z = m z) (hp : P i ()) :
    C.turn x (fun _ => n) (fun _ => []) [] m P own i Q .next m' n' := ⟨(), fun p hp => hn p (List.mem_append_left _ hp), fun p hp => hn p (List.mem_append_right _ hp), hoff, (fun _ hp => nomatch hp), fun z h1 _ _ => hm z h1, hp⟩
section
theorem c_find (prog : Program) (w : World) (news : Led) (f r : Int) (x : Str) (l : Addr) (vs : List Value) (ns : List Int) (n : Nat) (t1 t2 t3 : Tok) (hf : 2 ≤ f ∧ f ≤ 8) (hr : 3 ≤ r ∧ r ≤ 8) (hx : x.length < 100)
    (hl : (l, listOf vs.toArray n) ∈ news) (hi : IntsAre vs ns) :
    ConX prog w 116 8 news [.int f t1, .int r t2, .ref l, .str x t3] (fun v nw => ∃ mv t, v = .int mv t ∧ findC f r ns x = some mv ∧ nw = news) (findC f r ns x = none) := by
  refine' (runs_conX ?ho ?hcd ?hbm ?hk4 (fun _ => by decide) ?run ?hbind ?hloc ?hco ?hgen ?hk ?hcell)
  (case ho => k_is)
  (case hcd => k_is)
  (case hbm => k_is)
  (case hk4 => k_is)
  (case hbind => exact fun _ => BindsTo.of_eq rfl)
  (case hloc => exact locs rfl)
  (case hco => exact rfl)
  (case hgen => exact rfl)
  (case hk => exact rfl)
  (case hcell => decide)
  rintro C Q rfl rfl hn0 hP hQ
  refine s_let ?_
  intro m0
  refine s_unpack3 ?_
  (repeat' (first | with_reducible intro _ | ((with_reducible refine' e_callP ?kf_17 ?kv_17 ?kx_17 ?kb_17 ?ke_17 ?kp_17 fun _ => ?_); (case kf_17 => k_is); (case kv_17 => k_is); (case kx_17 => exact rfl); (case kb_17 => exact rfl); (case ke_17 => exact rfl); (case kp_17 => exact rfl); (with_unfolding_all change Cx.R _ _ _ _ _)) | (with_reducible refine s_return ?_) | ((with_reducible refine s_if ?_); intro kc) | (with_reducible refine s_skip ?_) | (with_reducible refine on_next ?_) | (with_reducible refine on_ret ?_) | ((with_reducible refine at_true ?_); (try clear kc)) | ((with_reducible refine at_false ?_); (try clear kc)) | (with_reducible refine t_and ?_) | (with_reducible refine t_and_nil ?_) | (with_reducible refine b_eq (fun _ => ?_) (fun _ => ?_)) | ((with_reducible refine' e_local ?kv_17 ?_); (case kv_17 => exact rfl)) | ((with_reducible refine' t_cmp ?_ ?km_17); (case km_17 => exact rfl)) | (with_reducible refine ⟨_, _, rfl, ?_⟩) | ((with_reducible refine' r_kX ?kc_17 ?kr_17 ?kp_17 ?kn_17 ?_); (case kc_17 => first | exact k_coords _ _ _ _ _ _ _ _ _ (by assumption) (by assumption) (by assumption)); (case kr_17 => decide)) | ((with_reducible refine' r_k ?kc_17 ?kr_17 ?_); (case kc_17 => first | exact k_from _ _ _ _ _ | exact k_to _ _ _ _ _ | exact k_promo _ _ _ _ _); (case kr_17 => decide)) | fail))
  · exact hP (by rename readC f r x = none => z; rw [findC, z]; rfl)
  · exact hn0 ▸ (by assumption)
  rename_i D u1 u2 u3 o g pm hq hlt
  refine ⟨D, _, _, _, rfl, .head _, ?_⟩
  intro m1 m2 m3
  refine s_seq (forL (σ := Unit) (fun _ n1 _ => n1) (fun _ => []) [] (fun i _ => noHit (o, g, pm) ns i) () rfl (fun _ => rfl) ?_ (fun _ hp => nomatch hp) (fun _ _ h => absurd h (Nat.not_lt_zero _)))
  (repeat' (first | with_reducible intro _ | ((with_reducible refine' e_callP ?kf_18 ?kv_18 ?kx_18 ?kb_18 ?ke_18 ?kp_18 fun _ => ?_); (case kf_18 => k_is); (case kv_18 => k_is); (case kx_18 => exact rfl); (case kb_18 => exact rfl); (case ke_18 => exact rfl); (case kp_18 => exact rfl); (with_unfolding_all change Cx.R _ _ _ _ _)) | (with_reducible refine s_return ?_) | ((with_reducible refine s_if ?_); intro kc) | (with_reducible refine s_skip ?_) | (with_reducible refine on_next ?_) | (with_reducible refine on_ret ?_) | ((with_reducible refine at_true ?_); (try clear kc)) | ((with_reducible refine at_false ?_); (try clear kc)) | (with_reducible refine t_and ?_) | (with_reducible refine t_and_nil ?_) | (with_reducible refine b_eq (fun _ => ?_) (fun _ => ?_)) | ((with_reducible refine' e_local ?kv_18 ?_); (case kv_18 => exact rfl)) | ((with_reducible refine' t_cmp ?_ ?km_18); (case km_18 => exact rfl)) | (with_reducible refine ⟨_, _, rfl, ?_⟩) | ((with_reducible refine' r_kX ?kc_18 ?kr_18 ?kp_18 ?kn_18 ?_); (case kc_18 => first | exact k_coords _ _ _ _ _ _ _ _ _ (by assumption) (by assumption) (by assumption)); (case kr_18 => decide)) | ((with_reducible refine' r_k ?kc_18 ?kr_18 ?_); (case kc_18 => first | exact k_from _ _ _ _ _ | exact k_to _ _ _ _ _ | exact k_promo _ _ _ _ _); (case kr_18 => decide)) | fail))
  refine ⟨_, _, _, rfl, rfl, fun _ => .tail _ hl, ?_, ?_⟩
  · intro c i v u own hv hoff hp m9
    obtain ⟨mv, t, rfl, hmv⟩ := ints_at hi hv
    refine s_letQ ?_
    intro Q9
    (repeat' (first | with_reducible intro _ | ((with_reducible refine' e_callP ?kf_19 ?kv_19 ?kx_19 ?kb_19 ?ke_19 ?kp_19 fun _ => ?_); (case kf_19 => k_is); (case kv_19 => k_is); (case kx_19 => exact rfl); (case kb_19 => exact rfl); (case ke_19 => exact rfl); (case kp_19 => exact rfl); (with_unfolding_all change Cx.R _ _ _ _ _)) | (with_reducible refine s_return ?_) | ((with_reducible refine s_if ?_); intro kc) | (with_reducible refine s_skip ?_) | (with_reducible refine on_next ?_) | (with_reducible refine on_ret ?_) | ((with_reducible refine at_true ?_); (try clear kc)) | ((with_reducible refine at_false ?_); (try clear kc)) | (with_reducible refine t_and ?_) | (with_reducible refine t_and_nil ?_) | (with_reducible refine b_eq (fun _ => ?_) (fun _ => ?_)) | ((with_reducible refine' e_local ?kv_19 ?_); (case kv_19 => exact rfl)) | ((with_reducible refine' t_cmp ?_ ?km_19); (case km_19 => exact rfl)) | (with_reducible refine ⟨_, _, rfl, ?_⟩) | ((with_reducible refine' r_kX ?kc_19 ?kr_19 ?kp_19 ?kn_19 ?_); (case kc_19 => first | exact k_coords _ _ _ _ _ _ _ _ _ (by assumption) (by assumption) (by assumption)); (case kr_19 => decide)) | ((with_reducible refine' r_k ?kc_19 ?kr_19 ?_); (case kc_19 => first | exact k_from _ _ _ _ _ | exact k_to _ _ _ _ _ | exact k_promo _ _ _ _ _); (case kr_19 => decide)) | fail))
    · exact hQ _ _ _ _ ⟨_, _, rfl, by rw [findC, hq]; exact find_at hmv hp (hits_yes (by assumption) (by assumption) (by assumption)), rfl⟩ fun p hp => List.mem_append_left _ (.tail _ hp)
    all_goals exact s_nil (turn_plain (fun _ h => h) hoff (fun z h => if_neg h) (hp.step hmv (by first | exact hits_no (.inr (.inr (by assumption))) | exact hits_no (.inr (.inl (by assumption))) | exact hits_no (.inl (by assumption)))))
  · intro c u hp m9
    (repeat' (first | with_reducible intro _ | ((with_reducible refine' e_callP ?kf_20 ?kv_20 ?kx_20 ?kb_20 ?ke_20 ?kp_20 fun _ => ?_); (case kf_20 => k_is); (case kv_20 => k_is); (case kx_20 => exact rfl); (case kb_20 => exact rfl); (case ke_20 => exact rfl); (case kp_20 => exact rfl); (with_unfolding_all change Cx.R _ _ _ _ _)) | (with_reducible refine s_return ?_) | ((with_reducible refine s_if ?_); intro kc) | (with_reducible refine s_skip ?_) | (with_reducible refine on_next ?_) | (with_reducible refine on_ret ?_) | ((with_reducible refine at_true ?_); (try clear kc)) | ((with_reducible refine at_false ?_); (try clear kc)) | (with_reducible refine t_and ?_) | (with_reducible refine t_and_nil ?_) | (with_reducible refine b_eq (fun _ => ?_) (fun _ => ?_)) | ((with_reducible refine' e_local ?kv_20 ?_); (case kv_20 => exact rfl)) | ((with_reducible refine' t_cmp ?_ ?km_20); (case km_20 => exact rfl)) | (with_reducible refine ⟨_, _, rfl, ?_⟩) | ((with_reducible refine' r_kX ?kc_20 ?kr_20 ?kp_20 ?kn_20 ?_); (case kc_20 => first | exact k_coords _ _ _ _ _ _ _ _ _ (by assumption) (by assumption) (by assumption)); (case kr_20 => decide)) | ((with_reducible refine' r_k ?kc_20 ?kr_20 ?_); (case kc_20 => first | exact k_from _ _ _ _ _ | exact k_to _ _ _ _ _ | exact k_promo _ _ _ _ _); (case kr_20 => decide)) | fail))
    exact s_raise (hP (by rw [findC, hq]; exact hp.none (Nat.le_of_eq hi.length.symm))) rfl (fun q hq => .tail _ (hn0 ▸ hq))
end
end part_R9
section part_R3
section
variable {sc : Scope} {room : Nat} {C : Cx sc room} {m : Str → Option Value} {n : Led} {K : Value → Led → Prop} {x y : Str} {t u : Tok} {px pos sp ap : Pos} {l : Addr} {vs : List Value} {k : Nat}
theorem v_itemI {value slice : PySem.Expr} {cs : List Int} {i : Int} (hm : (l, listOf vs.toArray k) ∈ n) (hi : IntsAre vs cs) (h0 : 0 ≤ i) (h1 : i < cs.length) (hz : cs.length < 2 ^ 62) (q : ∀ t, K (.int (cs.getD i.toNat 0) t) n)
    (hs : subscripted slice false (.ref l) (.int i u) = operate [.ref l, .int i u] (getItem (.ref l) (.int i u)) := by with_unfolding_all rfl) :
    C.R m n (subscriptTail value slice (.ref l) (.int i u)) K := fun h tk F N => r_itemI N hm hi h0 h1 hz (fun t => ⟨h, tk, n, rfl, F, N, q t⟩) hs
theorem v_itemV {value slice : PySem.Expr} {i : Int} {v : Value} (hm : (l, listOf vs.toArray k) ∈ n) (h0 : 0 ≤ i) (hk : i < 2 ^ 62) (hx : vs[i.toNat]? = some v) (q : K v n)
    (hs : subscripted slice false (.ref l) (.int i u) = operate [.ref l, .int i u] (getItem (.ref l) (.int i u)) := by with_unfolding_all rfl) :
    C.R m n (subscriptTail value slice (.ref l) (.int i u)) K := fun h tk F N => r_item N hm h0 hk hx ⟨h, tk, n, rfl, F, N, q⟩ hs
theorem s_append {e : PySem.Expr} {pl : Sem Bool} {rest : List Stmt} {Q : Flow → (Str → Option Value) → Led → Prop} (hv : locv sc.names m x = some (.ref l)) (hm : (l, listOf (List.toArray vs) k) ∈ n)
    (q : C.E m n e fun v n1 => ∃ vs k n2, Upd l (listOf (List.toArray vs) k) (listOf ((List.toArray vs).push v) (k + 1)) n1 n2 ∧ vs.length ≤ sizeLine ∧ C.S m n2 rest Q)
    (hs : swapsWith (.Call (.Attribute (.Name x px) (Str.ofString "append") ap) [e] [] pos) none sp.line C.env = pure false := by rfl)
    (hc : eval (.Call (.Attribute (.Name x px) (Str.ofString "append") ap) [e] [] pos) C.env = (do
      let ov ← eval (.Name x px) C.env
      standAt ap.atName
      let (f, first) ← holding [ov] (getMethod ov (Str.ofString "append") pl)
      callWith pos f first (backTo pos (starEach [e] C.env)) (backToKw pos (keywordEach [] C.env))) := by rfl)
    (he : starEach [e] C.env = (false, eval e C.env) :: starEach [] C.env := by rfl) : C.S m n (.Expr (.Call (.Attribute (.Name x px) (Str.ofString "append") ap) [e] [] pos) sp :: rest) Q := fun h tk F N => by
  obtain ⟨h1, h2, h3⟩ := locv_some hv
  refine wpAny_execs_cons (wpAny_Expr_any (MethodCall_ (nameX_L F h3 (listMethod_K N hm PySem.F.slot_list_append PySem.F.type_list_append (callWith_method1 (args_cons (q.to F N fun v h4 tk4 n4 q4 F4 N4 => ?_) he) he rfl)) C.hk (C.kind_of h1) h2) hc) (by show (sc.kind == _ && _) = false; rw [C.hk]; rfl) hs)
  obtain ⟨vs, k, n2, U, hz, q4⟩ := q4
  refine args_nil ?_
  exact append_K F4 N4 U (fun h5 F5 N5 => q4 h5 _ F5 N5) (by rw [List.size_toArray]; exact hz)
theorem t_chain2 {a b c : PySem.Expr} {o1 o2 : CmpOp} {K : Bool → Led → Prop} (q : C.E m n a fun va n1 => C.E m n1 b fun vb n2 => C.R m n2 (compareOp o1 va vb) fun w1 n3 => ∃ z, w1 = .bool z ∧
      (z = true → C.E m n3 c fun vc n4 => C.R m n4 (compareOp o2 vb vc) fun w2 n5 => ∃ z, w2 = .bool z ∧ K z n5) ∧ (z = false → K false n3))
    (hm : lastMarks [o1, o2] [b, c] = false := by rfl) : C.Tst m n (.Compare a [o1, o2] [b, c] pos) K := fun h tk F N =>
  isTrue_chain (q.to F N fun va h1 tk1 n1 q1 F1 N1 => test_link (q1.to F1 N1 fun vb h2 tk2 n2 q2 F2 N2 => q2.to F2 N2 fun w1 h3 tk3 n3 q3 F3 N3 => by
    obtain ⟨z, rfl, q3⟩ := q3
    refine wpAny_truthy_bool ?_
    cases z with
    | false => exact ⟨h3, tk3, n3, rfl, F3, N3, q3.2 rfl⟩
    | true =>
      rw [if_pos rfl]
      exact test_last ((q3.1 rfl).to F3 N3 fun vc h4 tk4 n4 q4 F4 N4 => q4.to F4 N4 fun w2 h5 tk5 n5 q5 F5 N5 => by
        obtain ⟨z, rfl, q5⟩ := q5
        exact wpAny_truthy_bool ⟨h5, tk5, n5, rfl, F5, N5, q5⟩))) hm
noncomputable def TextEnd {σ : Type} (x : Str) (ld : σ → Led) (P : List Int → σ → Prop) (m : Str → Option Value) (own : Led) (pre : List Int) (m' : Str → Option Value) (n' : Led) : Prop :=
  ∃ c', (∀ p ∈ ld c', p ∈ n') ∧ (∀ p ∈ own, p ∈ n') ∧ (∀ z, z ≠ x → m' z = m z) ∧ P pre c'
theorem forT {xt : Str} {tx : Tok} {fp : Pos} {iter : PySem.Expr} {body : List Stmt} {σ : Type} {Q : Flow → (Str → Option Value) → Led → Prop} (ld : σ → Led) (P : List Int → σ → Prop) (c₀ : σ)
    (hx : sc.names.lookup x = some .local) (hfs : ∀ v, foldedSetIterable iter C.env v = pure v) (had : ∀ c, (ld c).map (·.1) = (ld c₀).map (·.1)) (hp : P [] c₀)
    (q : C.E m n iter fun v n1 => v = .str xt tx ∧ n1 = ld c₀)
    (turn : ∀ (c : σ) (pre post : List Int) (i : Nat) t own, KStt.codes xt = pre ++ (i : Int) :: post → OwnOff own ((ld c₀).map (·.1)) → P pre c →
      (let m' : Str → Option Value := fun y => if y = x then some (.str ⟨#[i]⟩ t) else m y
       C.S m' (ld c ++ own) body fun f m' n' => match f with
        | .ret v => Q (.ret v) m' n'
        | .brk => Q .next m' n'
        | _ => TextEnd x ld P m own (pre ++ [(i : Int)]) m' n'))
    (done : ∀ (c : σ) (u : Str → Option Value), P (KStt.codes xt) c → (let m' : Str → Option Value := fun y => if y = x then u y else m y
       Q .next m' (ld c))) : C.T1 m n (.For (.Name x px) iter body [] fp) Q := fun h tk F N =>
  For_invVF (h₀ := C.g) F (C.kind_of hx) (by show (sc.kind == _ || (sc.kind == _ && _)) = false; rw [C.hk]; rfl) (q.to F N fun v h1 tk1 n1 q1 F1 N1 => by
    obtain ⟨rfl, rfl⟩ := q1
    refine KStt.kst_text (env := C.env) ld (fun _ => []) (fun _ => True) [] P c₀ rfl F1 N1 trivial (fun _ hp => nomatch hp) hp (fun c pre post i t u h tk own hc ho _ hp' F' N' => ?_) (fun c u h tk _ hp' F' N' => ⟨h, tk, _, _, rfl, F', N', done c u hp'⟩)
    refine wpAny_mono (turn c pre post i t own hc ho hp' h tk F' N') (fun f s' z => ?_) fun _ _ x => x
    have up : ∀ {h' tk' m' n'}, Fr C.g C.L h' m' → News C.g C.L h' n' → TextEnd x ld P m own (pre ++ [(i : Int)]) m' n' →
        InvEndN C.g C.L (KstS ld (fun _ => []) (fun _ => True) x [] m P (pre ++ [(i : Int)])) own ((ld c₀).map (·.1)) (C.st h tk) (C.st h' tk') := fun F2 N2 ⟨c', z⟩ =>
      ⟨_, _, _, _, ld c', rfl, F2, N2, z.1, z.2.1, had c', c', rfl, trivial, (fun _ hp => nomatch hp), fun y h1 _ _ => z.2.2.1 y h1, z.2.2.2⟩
    cases f with
    | ret v => exact z.of fun h' tk' m' n' F2 N2 z => Cx.PS.mk F2 N2 z
    | brk => exact z.of fun h' tk' m' n' F2 N2 z => Cx.PS.mk F2 N2 z
    | next => exact z.of fun h' tk' m' n' F2 N2 z => up F2 N2 z
    | cont => exact z.of fun h' tk' m' n' F2 N2 z => up F2 N2 z) hfs C.po
end
end part_R3
section part_R10
noncomputable def dg (n : Nat) : Int := Txt.find (Str.ofString "12345678") ⟨#[n]⟩
noncomputable def placesOf (x : Str) : List Int := x.cps.toList.map dg
noncomputable abbrev okAt (f r : Int) (ps : List Int) (k : Nat) : Prop := 0 ≤ ps.getD k 0 ∧ ps.getD k 0 < f ∧ 0 ≤ ps.getD (k + 1) 0 ∧ ps.getD (k + 1) 0 < r
noncomputable def readI (f r : Int) (x : Str) : Option (Int × Int × Int) :=
  if x.length ≠ 4 ∧ x.length ≠ 5 then none
  else if okAt f r (placesOf x) 0 ∧ okAt f r (placesOf x) 2 then
    if x.length = 5 then
      if 0 ≤ (placesOf x).getD 4 0 ∧ (placesOf x).getD 4 0 < 4 then some ((placesOf x).getD 1 0 * f + (placesOf x).getD 0 0, (placesOf x).getD 3 0 * f + (placesOf x).getD 2 0, 5 - (placesOf x).getD 4 0) else none
    else some ((placesOf x).getD 1 0 * f + (placesOf x).getD 0 0, (placesOf x).getD 3 0 * f + (placesOf x).getD 2 0, 0)
  else none
section
theorem ri_len {f r : Int} {x : Str} (h4 : (x.length : Int) ≠ 4) (h5 : (x.length : Int) ≠ 5) : readI f r x = none := if_pos ⟨fun e => h4 (congrArg Nat.cast e), fun e => h5 (congrArg Nat.cast e)⟩
theorem ints_snoc {vs : List Value} {ns : List Int} {k : Int} {t : Tok} (h : IntsAre vs ns) : IntsAre (vs ++ [.int k t]) (ns ++ [k]) := h.append (.cons _ _ .nil)
theorem ats_at {i : Nat} {v : Value} {a b : Tok} (h : [Value.int 0 a, .int 2 b][i]? = some v) : ∃ k t, v = .int k t ∧ ((i = 0 ∧ k = 0) ∨ (i = 1 ∧ k = 2)) := by
  rcases i with _ | _ | i
  · cases h; exact ⟨_, _, rfl, .inl ⟨rfl, rfl⟩⟩
  · cases h; exact ⟨_, _, rfl, .inr ⟨rfl, rfl⟩⟩
  · cases h
theorem ri_bad {f r : Int} {x : Str} (h : ¬ (okAt f r (placesOf x) 0 ∧ okAt f r (placesOf x) 2)) : readI f r x = none := by
  unfold readI
  by_cases hl : x.length ≠ 4 ∧ x.length ≠ 5
  · rw [if_pos hl]
  · rw [if_neg hl, if_neg h]
theorem ri_4 {f r : Int} {x : Str} (hl : (x.length : Int) = 4) (h0 : okAt f r (placesOf x) 0) (h2 : okAt f r (placesOf x) 2) :
    readI f r x = some ((placesOf x).getD 1 0 * f + (placesOf x).getD 0 0, (placesOf x).getD 3 0 * f + (placesOf x).getD 2 0, 0) := by
  unfold readI; rw [if_neg (len_45 (.inl hl)), if_pos ⟨h0, h2⟩, if_neg fun e => absurd ((congrArg Nat.cast e).symm.trans hl) (by decide)]
theorem ri_5 {f r : Int} {x : Str} (hl : (x.length : Int) = 5) (h0 : okAt f r (placesOf x) 0) (h2 : okAt f r (placesOf x) 2) (h4 : 0 ≤ (placesOf x).getD (Int.toNat 4) 0) (h4' : (placesOf x).getD (Int.toNat 4) 0 < 4) :
    readI f r x = some ((placesOf x).getD 1 0 * f + (placesOf x).getD 0 0, (placesOf x).getD 3 0 * f + (placesOf x).getD 2 0, 5 - (placesOf x).getD 4 0) := by
  unfold readI; rw [if_neg (len_45 (.inr hl)), if_pos ⟨h0, h2⟩, if_pos (Int.ofNat.inj hl)]; exact if_pos ⟨h4, h4'⟩
theorem ri_5n {f r : Int} {x : Str} (hl : (x.length : Int) = 5) (h : ¬ (0 ≤ (placesOf x).getD (Int.toNat 4) 0 ∧ (placesOf x).getD (Int.toNat 4) 0 < 4)) : readI f r x = none := by
  unfold readI
  rw [if_neg (len_45 (.inr hl))]
  by_cases ho : okAt f r (placesOf x) 0 ∧ okAt f r (placesOf x) 2
  · rw [if_pos ho, if_pos (Int.ofNat.inj hl)]; exact if_neg h
  · rw [if_neg ho]
theorem ri_badk {f r : Int} {x : Str} {k : Int} (hk : k = 0 ∨ k = 2) (h : ¬ (0 ≤ (placesOf x).getD (Int.toNat k) 0 ∧ (placesOf x).getD (Int.toNat k) 0 < f ∧ 0 ≤ (placesOf x).getD (Int.toNat (k + 1)) 0 ∧ (placesOf x).getD (Int.toNat (k + 1)) 0 < r)) : readI f r x = none := by
  refine ri_bad fun ⟨h0, h2⟩ => ?_
  rcases hk with rfl | rfl
  · exact h h0
  · exact h h2
theorem ok_step {f r : Int} {ps : List Int} {k : Int} {i : Nat} (hk : i = 0 ∧ k = 0 ∨ i = 1 ∧ k = 2) (hp : (0 < i → okAt f r ps 0) ∧ (1 < i → okAt f r ps 2)) (h : 0 ≤ ps.getD (Int.toNat k) 0 ∧ ps.getD (Int.toNat k) 0 < f ∧ 0 ≤ ps.getD (Int.toNat (k + 1)) 0 ∧ ps.getD (Int.toNat (k + 1)) 0 < r) :
    (0 < i + 1 → okAt f r ps 0) ∧ (1 < i + 1 → okAt f r ps 2) := by
  rcases hk with ⟨rfl, rfl⟩ | ⟨rfl, rfl⟩
  · exact ⟨fun _ => h, fun h => absurd h (by decide)⟩
  · exact ⟨fun _ => hp.1 (by decide), fun _ => h⟩
theorem sub_drop2 {a b c : Addr × Obj} {n : Led} : ∀ p ∈ a :: n, p ∈ a :: b :: c :: n := fun _ h => (List.mem_cons.mp h).elim (fun e => e ▸ .head _) fun h => .tail _ (.tail _ (.tail _ h))
theorem places_codes (x : Str) : (KStt.codes x).map (fun k => dg k.toNat) = placesOf x := by unfold KStt.codes placesOf; rw [List.map_map]; rfl
theorem places_len (x : Str) : (placesOf x).length = x.length := by unfold placesOf; rw [List.length_map, Array.length_toList]; rfl
theorem push_list (us : List Value) (v : Value) : us.toArray.push v = (us ++ [v]).toArray := by simp
theorem c_iccf (prog : Program) (w : World) (news : Led) (f r : Int) (x : Str) (t1 t2 t3 : Tok) (hf : 2 ≤ f ∧ f ≤ 8) (hr : 3 ≤ r ∧ r ≤ 8) (hx : x.length < 100) :
    ConX prog w 144 5 news [.int f t1, .int r t2, .str x t3] (fun v nw => ∃ a u1 u2 u3 o g p, v = .ref a ∧ readI f r x = some (o, g, p) ∧ (∀ q ∈ news, q.1 < a) ∧ nw = (a, tupOf [.int o u1, .int g u2, .int p u3]) :: news) (readI f r x = none) := by
  refine' (runs_conX ?ho ?hcd ?hbm ?hk4 (fun _ => by decide) ?run ?hbind ?hloc ?hco ?hgen ?hk ?hcell)
  (case ho => k_is)
  (case hcd => k_is)
  (case hbm => k_is)
  (case hk4 => k_is)
  (case hbind => exact fun _ => BindsTo.of_eq rfl)
  (case hloc => exact locs rfl)
  (case hco => exact rfl)
  (case hgen => exact rfl)
  (case hk => exact rfl)
  (case hcell => decide)
  rintro C Q rfl rfl hn0 hP hQ
  refine s_let ?_
  intro m0
  refine s_cut (fun m n => m0 = m ∧ news = n ∧ ((x.length : Int) = 4 ∨ (x.length : Int) = 5)) (if1 ?_) ?_
  · (repeat' (first | with_reducible intro _ | ((with_reducible refine e_binP ?_); (first | (with_unfolding_all change Cx.R _ _ _ _ _) | (intro _; (with_unfolding_all change Cx.R _ _ _ _ _)) | (intro _; intro _; (with_unfolding_all change Cx.R _ _ _ _ _)))) | ((with_reducible refine e_subP ?_); (first | (with_unfolding_all change Cx.R _ _ _ _ _) | (intro _; (with_unfolding_all change Cx.R _ _ _ _ _)) | (intro _; intro _; (with_unfolding_all change Cx.R _ _ _ _ _)))) | ((with_reducible refine' l_plain fun _ => ?_); (with_unfolding_all change Cx.R _ _ _ _ _)) | ((with_reducible refine' s_assign ?_ ?kx_21 ?ks_21); (case kx_21 => exact rfl); (case ks_21 => exact rfl); intro ka) | ((with_reducible refine s_go ?_); (try clear ka); intro _) | (with_reducible refine s_return ?_) | ((with_reducible refine s_if ?_); intro kc) | (with_reducible refine s_skip ?_) | (with_reducible refine on_next ?_) | ((with_reducible refine at_true ?_); (try clear kc)) | ((with_reducible refine at_false ?_); (try clear kc)) | ((with_reducible refine at_true' ?_); (try clear kc)) | ((with_reducible refine at_false' ?_); (try clear kc)) | (with_reducible refine e_int fun _ => ?_) | (with_reducible refine e_str fun _ => ?_) | (with_reducible refine e_bin ?_) | (with_reducible refine t_and ?_) | (with_reducible refine t_or ?_) | (with_reducible refine t_and_nil ?_) | (with_reducible refine t_or_nil ?_) | (with_reducible refine t_not ?_) | (with_reducible refine v_add fun _ => ?_) | (with_reducible refine v_sub fun _ => ?_) | (with_reducible refine b_eq (fun _ => ?_) (fun _ => ?_)) | (with_reducible refine b_ne (fun _ => ?_) (fun _ => ?_)) | (with_reducible refine b_lt (fun _ => ?_) (fun _ => ?_)) | (with_reducible refine b_le (fun _ => ?_) (fun _ => ?_)) | ((with_reducible refine' e_local ?kv_21 ?_); (case kv_21 => exact rfl)) | ((with_reducible refine' e_glob ?kf_21 ?kx_21 ?kb_21 ?_); (case kf_21 => k_is); (case kx_21 => exact rfl); (case kb_21 => exact rfl)) | ((with_reducible refine' t_cmp ?_ ?km_21); (case km_21 => exact rfl)) | ((with_reducible refine' l_cons ?_ ?ke_21); (case ke_21 => exact rfl)) | (with_reducible refine e_sub ?_) | ((with_reducible refine' v_mul ?km_21 fun _ => ?_); (case km_21 => first | (with_reducible assumption) | (with_reducible exact mul8 (by with_reducible assumption)) | (with_reducible exact mul100 (by with_reducible assumption)) | mul_fits)) | ((with_reducible refine' e_find ?_ ?km_21 ?kh_21); (case km_21 => exact rfl); (case kh_21 => exact rfl)) | ((with_reducible refine' e_builtin1 ?kf_21 ?kx_21 ?kb_21 ?kv_21 ?kn_21 ?_ ?kh_21); (case kf_21 => k_is); (case kx_21 => exact rfl); (case kb_21 => exact rfl); (case kv_21 => boot_fast); (case kn_21 => decide); (case kh_21 => exact rfl)) | ((with_reducible refine' v_lenS ?kz_21 fun _ => ?_); (case kz_21 => omega)) | (with_reducible refine ⟨_, _, rfl, ?_⟩) | ((with_reducible refine' t_chain2 ?_ ?km_21); (case km_21 => exact rfl)) | ((with_reducible refine' v_itemI ?km_21 ?ki_21 ?k0_21 ?k1_21 ?k2_21 (fun _ => ?_) ?kd_21); (case kd_21 => with_unfolding_all rfl); (case km_21 => k_mem); (case ki_21 => assumption); (case k0_21 => first | decide | assumption | omega); (case k1_21 => first | assumption | omega); (case k2_21 => first | assumption | omega)) | (with_reducible refine e_tuple ?_) | ((with_reducible refine' v_tuple ?kz_21 fun _ _ => ?_); (case kz_21 => exact Nat.le_of_ble_eq_true rfl)) | (with_reducible refine e_list ?_) | ((with_reducible refine' v_list ?kz_21 fun _ _ => ?_); (case kz_21 => exact Nat.le_of_ble_eq_true rfl)) | fail))
    all_goals first
      | exact s_nil ⟨rfl, rfl, .inl (by assumption)⟩
      | exact s_nil ⟨rfl, rfl, .inr (by assumption)⟩
      | exact s_raise (hP (ri_len (by assumption) (by assumption))) rfl (fun q hq => hn0 ▸ hq)
  rintro _ _ ⟨rfl, rfl, hlen⟩
  (repeat' (first | with_reducible intro _ | ((with_reducible refine e_binP ?_); (first | (with_unfolding_all change Cx.R _ _ _ _ _) | (intro _; (with_unfolding_all change Cx.R _ _ _ _ _)) | (intro _; intro _; (with_unfolding_all change Cx.R _ _ _ _ _)))) | ((with_reducible refine e_subP ?_); (first | (with_unfolding_all change Cx.R _ _ _ _ _) | (intro _; (with_unfolding_all change Cx.R _ _ _ _ _)) | (intro _; intro _; (with_unfolding_all change Cx.R _ _ _ _ _)))) | ((with_reducible refine' l_plain fun _ => ?_); (with_unfolding_all change Cx.R _ _ _ _ _)) | ((with_reducible refine' s_assign ?_ ?kx_22 ?ks_22); (case kx_22 => exact rfl); (case ks_22 => exact rfl); intro ka) | ((with_reducible refine s_go ?_); (try clear ka); intro _) | (with_reducible refine s_return ?_) | ((with_reducible refine s_if ?_); intro kc) | (with_reducible refine s_skip ?_) | (with_reducible refine on_next ?_) | ((with_reducible refine at_true ?_); (try clear kc)) | ((with_reducible refine at_false ?_); (try clear kc)) | ((with_reducible refine at_true' ?_); (try clear kc)) | ((with_reducible refine at_false' ?_); (try clear kc)) | (with_reducible refine e_int fun _ => ?_) | (with_reducible refine e_str fun _ => ?_) | (with_reducible refine e_bin ?_) | (with_reducible refine t_and ?_) | (with_reducible refine t_or ?_) | (with_reducible refine t_and_nil ?_) | (with_reducible refine t_or_nil ?_) | (with_reducible refine t_not ?_) | (with_reducible refine v_add fun _ => ?_) | (with_reducible refine v_sub fun _ => ?_) | (with_reducible refine b_eq (fun _ => ?_) (fun _ => ?_)) | (with_reducible refine b_ne (fun _ => ?_) (fun _ => ?_)) | (with_reducible refine b_lt (fun _ => ?_) (fun _ => ?_)) | (with_reducible refine b_le (fun _ => ?_) (fun _ => ?_)) | ((with_reducible refine' e_local ?kv_22 ?_); (case kv_22 => exact rfl)) | ((with_reducible refine' e_glob ?kf_22 ?kx_22 ?kb_22 ?_); (case kf_22 => k_is); (case kx_22 => exact rfl); (case kb_22 => exact rfl)) | ((with_reducible refine' t_cmp ?_ ?km_22); (case km_22 => exact rfl)) | ((with_reducible refine' l_cons ?_ ?ke_22); (case ke_22 => exact rfl)) | (with_reducible refine e_sub ?_) | ((with_reducible refine' v_mul ?km_22 fun _ => ?_); (case km_22 => first | (with_reducible assumption) | (with_reducible exact mul8 (by with_reducible assumption)) | (with_reducible exact mul100 (by with_reducible assumption)) | mul_fits)) | ((with_reducible refine' e_find ?_ ?km_22 ?kh_22); (case km_22 => exact rfl); (case kh_22 => exact rfl)) | ((with_reducible refine' e_builtin1 ?kf_22 ?kx_22 ?kb_22 ?kv_22 ?kn_22 ?_ ?kh_22); (case kf_22 => k_is); (case kx_22 => exact rfl); (case kb_22 => exact rfl); (case kv_22 => boot_fast); (case kn_22 => decide); (case kh_22 => exact rfl)) | ((with_reducible refine' v_lenS ?kz_22 fun _ => ?_); (case kz_22 => omega)) | (with_reducible refine ⟨_, _, rfl, ?_⟩) | ((with_reducible refine' t_chain2 ?_ ?km_22); (case km_22 => exact rfl)) | ((with_reducible refine' v_itemI ?km_22 ?ki_22 ?k0_22 ?k1_22 ?k2_22 (fun _ => ?_) ?kd_22); (case kd_22 => with_unfolding_all rfl); (case km_22 => k_mem); (case ki_22 => assumption); (case k0_22 => first | decide | assumption | omega); (case k1_22 => first | assumption | omega); (case k2_22 => first | assumption | omega)) | (with_reducible refine e_tuple ?_) | ((with_reducible refine' v_tuple ?kz_22 fun _ _ => ?_); (case kz_22 => exact Nat.le_of_ble_eq_true rfl)) | (with_reducible refine e_list ?_) | ((with_reducible refine' v_list ?kz_22 fun _ _ => ?_); (case kz_22 => exact Nat.le_of_ble_eq_true rfl)) | fail))
  rename_i pl hlt m1
  refine s_seq (forT (σ := List Value × Nat) (fun c => (pl, listOf c.1.toArray c.2) :: news) (fun pre c => IntsAre c.1 (pre.map fun k => dg k.toNat) ∧ pre.length ≤ x.length) ([], 0) rfl (fun _ => rfl) (fun _ => rfl) ⟨.nil, Nat.zero_le _⟩ (e_local rfl ⟨rfl, rfl⟩) ?_ ?_)
  · rintro ⟨us, nn⟩ pre post i t own hpre hoff ⟨hp, hlp⟩ m2
    have hlp' : pre.length + 1 ≤ x.length := by have := congrArg List.length hpre; rw [KStt.codes_length] at this; simp only [List.length_append, List.length_cons] at this; omega
    have hul : us.length ≤ sizeLine := by have := hp.length; rw [sizeLine_eq, this, List.length_map]; omega
    refine s_letQ ?_
    intro Q9
    refine s_append rfl (.head _) ?_
    (repeat' (first | with_reducible intro _ | ((with_reducible refine e_binP ?_); (first | (with_unfolding_all change Cx.R _ _ _ _ _) | (intro _; (with_unfolding_all change Cx.R _ _ _ _ _)) | (intro _; intro _; (with_unfolding_all change Cx.R _ _ _ _ _)))) | ((with_reducible refine e_subP ?_); (first | (with_unfolding_all change Cx.R _ _ _ _ _) | (intro _; (with_unfolding_all change Cx.R _ _ _ _ _)) | (intro _; intro _; (with_unfolding_all change Cx.R _ _ _ _ _)))) | ((with_reducible refine' l_plain fun _ => ?_); (with_unfolding_all change Cx.R _ _ _ _ _)) | ((with_reducible refine' s_assign ?_ ?kx_23 ?ks_23); (case kx_23 => exact rfl); (case ks_23 => exact rfl); intro ka) | ((with_reducible refine s_go ?_); (try clear ka); intro _) | (with_reducible refine s_return ?_) | ((with_reducible refine s_if ?_); intro kc) | (with_reducible refine s_skip ?_) | (with_reducible refine on_next ?_) | ((with_reducible refine at_true ?_); (try clear kc)) | ((with_reducible refine at_false ?_); (try clear kc)) | ((with_reducible refine at_true' ?_); (try clear kc)) | ((with_reducible refine at_false' ?_); (try clear kc)) | (with_reducible refine e_int fun _ => ?_) | (with_reducible refine e_str fun _ => ?_) | (with_reducible refine e_bin ?_) | (with_reducible refine t_and ?_) | (with_reducible refine t_or ?_) | (with_reducible refine t_and_nil ?_) | (with_reducible refine t_or_nil ?_) | (with_reducible refine t_not ?_) | (with_reducible refine v_add fun _ => ?_) | (with_reducible refine v_sub fun _ => ?_) | (with_reducible refine b_eq (fun _ => ?_) (fun _ => ?_)) | (with_reducible refine b_ne (fun _ => ?_) (fun _ => ?_)) | (with_reducible refine b_lt (fun _ => ?_) (fun _ => ?_)) | (with_reducible refine b_le (fun _ => ?_) (fun _ => ?_)) | ((with_reducible refine' e_local ?kv_23 ?_); (case kv_23 => exact rfl)) | ((with_reducible refine' e_glob ?kf_23 ?kx_23 ?kb_23 ?_); (case kf_23 => k_is); (case kx_23 => exact rfl); (case kb_23 => exact rfl)) | ((with_reducible refine' t_cmp ?_ ?km_23); (case km_23 => exact rfl)) | ((with_reducible refine' l_cons ?_ ?ke_23); (case ke_23 => exact rfl)) | (with_reducible refine e_sub ?_) | ((with_reducible refine' v_mul ?km_23 fun _ => ?_); (case km_23 => first | (with_reducible assumption) | (with_reducible exact mul8 (by with_reducible assumption)) | (with_reducible exact mul100 (by with_reducible assumption)) | mul_fits)) | ((with_reducible refine' e_find ?_ ?km_23 ?kh_23); (case km_23 => exact rfl); (case kh_23 => exact rfl)) | ((with_reducible refine' e_builtin1 ?kf_23 ?kx_23 ?kb_23 ?kv_23 ?kn_23 ?_ ?kh_23); (case kf_23 => k_is); (case kx_23 => exact rfl); (case kb_23 => exact rfl); (case kv_23 => boot_fast); (case kn_23 => decide); (case kh_23 => exact rfl)) | ((with_reducible refine' v_lenS ?kz_23 fun _ => ?_); (case kz_23 => omega)) | (with_reducible refine ⟨_, _, rfl, ?_⟩) | ((with_reducible refine' t_chain2 ?_ ?km_23); (case km_23 => exact rfl)) | ((with_reducible refine' v_itemI ?km_23 ?ki_23 ?k0_23 ?k1_23 ?k2_23 (fun _ => ?_) ?kd_23); (case kd_23 => with_unfolding_all rfl); (case km_23 => k_mem); (case ki_23 => assumption); (case k0_23 => first | decide | assumption | omega); (case k1_23 => first | assumption | omega); (case k2_23 => first | assumption | omega)) | (with_reducible refine e_tuple ?_) | ((with_reducible refine' v_tuple ?kz_23 fun _ _ => ?_); (case kz_23 => exact Nat.le_of_ble_eq_true rfl)) | (with_reducible refine e_list ?_) | ((with_reducible refine' v_list ?kz_23 fun _ _ => ?_); (case kz_23 => exact Nat.le_of_ble_eq_true rfl)) | fail))
    rename_i t9
    refine ⟨us, nn, _, .head fun p hp => ?_, hul, s_nil ⟨(us ++ [.int (dg i) t9], nn + 1), ?_, fun p hp => .tail _ (List.mem_append_right _ hp), fun z hz => if_neg hz, ?_, ?_⟩⟩
    · exact (List.mem_append.mp hp).elim (fun hp => Nat.ne_of_lt (hlt p hp)) fun hp => hoff p hp pl (.head _)
    · exact push_list us _ ▸ fun p hp => (List.mem_cons.mp hp).elim (fun e => e ▸ .head _) fun hp => .tail _ (List.mem_append_left _ hp)
    · rw [List.map_append]; exact ints_snoc hp
    · rw [List.length_append]; exact hlp'
  rintro ⟨us, nn⟩ u ⟨hp, -⟩ m2
  rw [places_codes] at hp
  have hpn := places_len x
  have hp4 : 4 ≤ (placesOf x).length := by omega
  have hz : (placesOf x).length < 2 ^ 62 := hpn ▸ Nat.lt_trans hx (by decide)
  have p0 : (0 : Int) < (placesOf x).length := Int.ofNat_lt.mpr (Nat.lt_of_lt_of_le (by decide) hp4)
  have p1 : (1 : Int) < (placesOf x).length := Int.ofNat_lt.mpr (Nat.lt_of_lt_of_le (by decide) hp4)
  have p2 : (2 : Int) < (placesOf x).length := Int.ofNat_lt.mpr (Nat.lt_of_lt_of_le (by decide) hp4)
  have p3 : (3 : Int) < (placesOf x).length := Int.ofNat_lt.mpr (Nat.lt_of_lt_of_le (by decide) hp4)
  refine s_seq (forL (σ := Unit) (fun _ n1 _ => n1) (fun _ => []) [] (fun i _ => (0 < i → okAt f r (placesOf x) 0) ∧ (1 < i → okAt f r (placesOf x) 2)) () rfl (fun _ => rfl) ?_ (fun _ hp => nomatch hp) ⟨fun h => absurd h (Nat.lt_irrefl _), fun h => absurd h (by decide)⟩)
  (repeat' (first | with_reducible intro _ | ((with_reducible refine e_binP ?_); (first | (with_unfolding_all change Cx.R _ _ _ _ _) | (intro _; (with_unfolding_all change Cx.R _ _ _ _ _)) | (intro _; intro _; (with_unfolding_all change Cx.R _ _ _ _ _)))) | ((with_reducible refine e_subP ?_); (first | (with_unfolding_all change Cx.R _ _ _ _ _) | (intro _; (with_unfolding_all change Cx.R _ _ _ _ _)) | (intro _; intro _; (with_unfolding_all change Cx.R _ _ _ _ _)))) | ((with_reducible refine' l_plain fun _ => ?_); (with_unfolding_all change Cx.R _ _ _ _ _)) | ((with_reducible refine' s_assign ?_ ?kx_24 ?ks_24); (case kx_24 => exact rfl); (case ks_24 => exact rfl); intro ka) | ((with_reducible refine s_go ?_); (try clear ka); intro _) | (with_reducible refine s_return ?_) | ((with_reducible refine s_if ?_); intro kc) | (with_reducible refine s_skip ?_) | (with_reducible refine on_next ?_) | ((with_reducible refine at_true ?_); (try clear kc)) | ((with_reducible refine at_false ?_); (try clear kc)) | ((with_reducible refine at_true' ?_); (try clear kc)) | ((with_reducible refine at_false' ?_); (try clear kc)) | (with_reducible refine e_int fun _ => ?_) | (with_reducible refine e_str fun _ => ?_) | (with_reducible refine e_bin ?_) | (with_reducible refine t_and ?_) | (with_reducible refine t_or ?_) | (with_reducible refine t_and_nil ?_) | (with_reducible refine t_or_nil ?_) | (with_reducible refine t_not ?_) | (with_reducible refine v_add fun _ => ?_) | (with_reducible refine v_sub fun _ => ?_) | (with_reducible refine b_eq (fun _ => ?_) (fun _ => ?_)) | (with_reducible refine b_ne (fun _ => ?_) (fun _ => ?_)) | (with_reducible refine b_lt (fun _ => ?_) (fun _ => ?_)) | (with_reducible refine b_le (fun _ => ?_) (fun _ => ?_)) | ((with_reducible refine' e_local ?kv_24 ?_); (case kv_24 => exact rfl)) | ((with_reducible refine' e_glob ?kf_24 ?kx_24 ?kb_24 ?_); (case kf_24 => k_is); (case kx_24 => exact rfl); (case kb_24 => exact rfl)) | ((with_reducible refine' t_cmp ?_ ?km_24); (case km_24 => exact rfl)) | ((with_reducible refine' l_cons ?_ ?ke_24); (case ke_24 => exact rfl)) | (with_reducible refine e_sub ?_) | ((with_reducible refine' v_mul ?km_24 fun _ => ?_); (case km_24 => first | (with_reducible assumption) | (with_reducible exact mul8 (by with_reducible assumption)) | (with_reducible exact mul100 (by with_reducible assumption)) | mul_fits)) | ((with_reducible refine' e_find ?_ ?km_24 ?kh_24); (case km_24 => exact rfl); (case kh_24 => exact rfl)) | ((with_reducible refine' e_builtin1 ?kf_24 ?kx_24 ?kb_24 ?kv_24 ?kn_24 ?_ ?kh_24); (case kf_24 => k_is); (case kx_24 => exact rfl); (case kb_24 => exact rfl); (case kv_24 => boot_fast); (case kn_24 => decide); (case kh_24 => exact rfl)) | ((with_reducible refine' v_lenS ?kz_24 fun _ => ?_); (case kz_24 => omega)) | (with_reducible refine ⟨_, _, rfl, ?_⟩) | ((with_reducible refine' t_chain2 ?_ ?km_24); (case km_24 => exact rfl)) | ((with_reducible refine' v_itemI ?km_24 ?ki_24 ?k0_24 ?k1_24 ?k2_24 (fun _ => ?_) ?kd_24); (case kd_24 => with_unfolding_all rfl); (case km_24 => k_mem); (case ki_24 => assumption); (case k0_24 => first | decide | assumption | omega); (case k1_24 => first | assumption | omega); (case k2_24 => first | assumption | omega)) | (with_reducible refine e_tuple ?_) | ((with_reducible refine' v_tuple ?kz_24 fun _ _ => ?_); (case kz_24 => exact Nat.le_of_ble_eq_true rfl)) | (with_reducible refine e_list ?_) | ((with_reducible refine' v_list ?kz_24 fun _ _ => ?_); (case kz_24 => exact Nat.le_of_ble_eq_true rfl)) | fail))
  refine ⟨_, _, _, rfl, rfl, fun _ => .head _, ?_, ?_⟩
  · intro c i v u own hv hoff hq m9
    obtain ⟨k, t, rfl, hk9⟩ := ats_at hv
    have k0 : k = 0 ∨ k = 2 := hk9.elim (fun h => .inl h.2) fun h => .inr h.2
    have k1 : 0 ≤ k := k0.elim (fun e => by rw [e]; decide) fun e => by rw [e]; decide
    have k2 : k < (placesOf x).length := k0.elim (fun e => e ▸ p0) fun e => e ▸ p2
    have k3 : 0 ≤ k + 1 := Int.le_trans k1 (Int.le_add_of_nonneg_right (by decide))
    have k4 : k + 1 < (placesOf x).length := k0.elim (fun e => e ▸ p1) fun e => e ▸ p3
    clear p0 p1 p2 p3 hpn
    refine s_letQ ?_
    intro Q9
    (repeat' (first | with_reducible intro _ | ((with_reducible refine e_binP ?_); (first | (with_unfolding_all change Cx.R _ _ _ _ _) | (intro _; (with_unfolding_all change Cx.R _ _ _ _ _)) | (intro _; intro _; (with_unfolding_all change Cx.R _ _ _ _ _)))) | ((with_reducible refine e_subP ?_); (first | (with_unfolding_all change Cx.R _ _ _ _ _) | (intro _; (with_unfolding_all change Cx.R _ _ _ _ _)) | (intro _; intro _; (with_unfolding_all change Cx.R _ _ _ _ _)))) | ((with_reducible refine' l_plain fun _ => ?_); (with_unfolding_all change Cx.R _ _ _ _ _)) | ((with_reducible refine' s_assign ?_ ?kx_25 ?ks_25); (case kx_25 => exact rfl); (case ks_25 => exact rfl); intro ka) | ((with_reducible refine s_go ?_); (try clear ka); intro _) | (with_reducible refine s_return ?_) | ((with_reducible refine s_if ?_); intro kc) | (with_reducible refine s_skip ?_) | (with_reducible refine on_next ?_) | ((with_reducible refine at_true ?_); (try clear kc)) | ((with_reducible refine at_false ?_); (try clear kc)) | ((with_reducible refine at_true' ?_); (try clear kc)) | ((with_reducible refine at_false' ?_); (try clear kc)) | (with_reducible refine e_int fun _ => ?_) | (with_reducible refine e_str fun _ => ?_) | (with_reducible refine e_bin ?_) | (with_reducible refine t_and ?_) | (with_reducible refine t_or ?_) | (with_reducible refine t_and_nil ?_) | (with_reducible refine t_or_nil ?_) | (with_reducible refine t_not ?_) | (with_reducible refine v_add fun _ => ?_) | (with_reducible refine v_sub fun _ => ?_) | (with_reducible refine b_eq (fun _ => ?_) (fun _ => ?_)) | (with_reducible refine b_ne (fun _ => ?_) (fun _ => ?_)) | (with_reducible refine b_lt (fun _ => ?_) (fun _ => ?_)) | (with_reducible refine b_le (fun _ => ?_) (fun _ => ?_)) | ((with_reducible refine' e_local ?kv_25 ?_); (case kv_25 => exact rfl)) | ((with_reducible refine' e_glob ?kf_25 ?kx_25 ?kb_25 ?_); (case kf_25 => k_is); (case kx_25 => exact rfl); (case kb_25 => exact rfl)) | ((with_reducible refine' t_cmp ?_ ?km_25); (case km_25 => exact rfl)) | ((with_reducible refine' l_cons ?_ ?ke_25); (case ke_25 => exact rfl)) | (with_reducible refine e_sub ?_) | ((with_reducible refine' v_mul ?km_25 fun _ => ?_); (case km_25 => first | (with_reducible assumption) | (with_reducible exact mul8 (by with_reducible assumption)) | (with_reducible exact mul100 (by with_reducible assumption)) | mul_fits)) | ((with_reducible refine' e_find ?_ ?km_25 ?kh_25); (case km_25 => exact rfl); (case kh_25 => exact rfl)) | ((with_reducible refine' e_builtin1 ?kf_25 ?kx_25 ?kb_25 ?kv_25 ?kn_25 ?_ ?kh_25); (case kf_25 => k_is); (case kx_25 => exact rfl); (case kb_25 => exact rfl); (case kv_25 => boot_fast); (case kn_25 => decide); (case kh_25 => exact rfl)) | ((with_reducible refine' v_lenS ?kz_25 fun _ => ?_); (case kz_25 => omega)) | (with_reducible refine ⟨_, _, rfl, ?_⟩) | ((with_reducible refine' t_chain2 ?_ ?km_25); (case km_25 => exact rfl)) | ((with_reducible refine' v_itemI ?km_25 ?ki_25 ?k0_25 ?k1_25 ?k2_25 (fun _ => ?_) ?kd_25); (case kd_25 => with_unfolding_all rfl); (case km_25 => k_mem); (case ki_25 => assumption); (case k0_25 => first | decide | assumption | omega); (case k1_25 => first | assumption | omega); (case k2_25 => first | assumption | omega)) | (with_reducible refine e_tuple ?_) | ((with_reducible refine' v_tuple ?kz_25 fun _ _ => ?_); (case kz_25 => exact Nat.le_of_ble_eq_true rfl)) | (with_reducible refine e_list ?_) | ((with_reducible refine' v_list ?kz_25 fun _ _ => ?_); (case kz_25 => exact Nat.le_of_ble_eq_true rfl)) | fail))
    all_goals first
      | exact s_raise (hP (ri_badk k0 (by first | exact fun h => absurd h.1 (by assumption) | exact fun h => absurd h.2.1 (by assumption) | exact fun h => absurd h.2.2.1 (by assumption) | exact fun h => absurd h.2.2.2 (by assumption)))) rfl (fun q hq => List.mem_append_left _ (.tail _ (.tail _ (hn0 ▸ hq))))
      | exact s_nil (turn_plain (fun _ h => h) hoff (fun z h => if_neg h) (ok_step hk9 hq ⟨by assumption, by assumption, by assumption, by assumption⟩))
  · intro c u hq m9
    have o0 := hq.1 (Nat.zero_lt_succ _)
    have o2 := hq.2 (Nat.lt_succ_self _)
    (repeat' (first | with_reducible intro _ | ((with_reducible refine e_binP ?_); (first | (with_unfolding_all change Cx.R _ _ _ _ _) | (intro _; (with_unfolding_all change Cx.R _ _ _ _ _)) | (intro _; intro _; (with_unfolding_all change Cx.R _ _ _ _ _)))) | ((with_reducible refine e_subP ?_); (first | (with_unfolding_all change Cx.R _ _ _ _ _) | (intro _; (with_unfolding_all change Cx.R _ _ _ _ _)) | (intro _; intro _; (with_unfolding_all change Cx.R _ _ _ _ _)))) | ((with_reducible refine' l_plain fun _ => ?_); (with_unfolding_all change Cx.R _ _ _ _ _)) | ((with_reducible refine' s_assign ?_ ?kx_26 ?ks_26); (case kx_26 => exact rfl); (case ks_26 => exact rfl); intro ka) | ((with_reducible refine s_go ?_); (try clear ka); intro _) | (with_reducible refine s_return ?_) | ((with_reducible refine s_if ?_); intro kc) | (with_reducible refine s_skip ?_) | (with_reducible refine on_next ?_) | ((with_reducible refine at_true ?_); (try clear kc)) | ((with_reducible refine at_false ?_); (try clear kc)) | ((with_reducible refine at_true' ?_); (try clear kc)) | ((with_reducible refine at_false' ?_); (try clear kc)) | (with_reducible refine e_int fun _ => ?_) | (with_reducible refine e_str fun _ => ?_) | (with_reducible refine e_bin ?_) | (with_reducible refine t_and ?_) | (with_reducible refine t_or ?_) | (with_reducible refine t_and_nil ?_) | (with_reducible refine t_or_nil ?_) | (with_reducible refine t_not ?_) | (with_reducible refine v_add fun _ => ?_) | (with_reducible refine v_sub fun _ => ?_) | (with_reducible refine b_eq (fun _ => ?_) (fun _ => ?_)) | (with_reducible refine b_ne (fun _ => ?_) (fun _ => ?_)) | (with_reducible refine b_lt (fun _ => ?_) (fun _ => ?_)) | (with_reducible refine b_le (fun _ => ?_) (fun _ => ?_)) | ((with_reducible refine' e_local ?kv_26 ?_); (case kv_26 => exact rfl)) | ((with_reducible refine' e_glob ?kf_26 ?kx_26 ?kb_26 ?_); (case kf_26 => k_is); (case kx_26 => exact rfl); (case kb_26 => exact rfl)) | ((with_reducible refine' t_cmp ?_ ?km_26); (case km_26 => exact rfl)) | ((with_reducible refine' l_cons ?_ ?ke_26); (case ke_26 => exact rfl)) | (with_reducible refine e_sub ?_) | ((with_reducible refine' v_mul ?km_26 fun _ => ?_); (case km_26 => first | (with_reducible assumption) | (with_reducible exact mul8 (by with_reducible assumption)) | (with_reducible exact mul100 (by with_reducible assumption)) | mul_fits)) | ((with_reducible refine' e_find ?_ ?km_26 ?kh_26); (case km_26 => exact rfl); (case kh_26 => exact rfl)) | ((with_reducible refine' e_builtin1 ?kf_26 ?kx_26 ?kb_26 ?kv_26 ?kn_26 ?_ ?kh_26); (case kf_26 => k_is); (case kx_26 => exact rfl); (case kb_26 => exact rfl); (case kv_26 => boot_fast); (case kn_26 => decide); (case kh_26 => exact rfl)) | ((with_reducible refine' v_lenS ?kz_26 fun _ => ?_); (case kz_26 => omega)) | (with_reducible refine ⟨_, _, rfl, ?_⟩) | ((with_reducible refine' t_chain2 ?_ ?km_26); (case km_26 => exact rfl)) | ((with_reducible refine' v_itemI ?km_26 ?ki_26 ?k0_26 ?k1_26 ?k2_26 (fun _ => ?_) ?kd_26); (case kd_26 => with_unfolding_all rfl); (case km_26 => k_mem); (case ki_26 => assumption); (case k0_26 => first | decide | assumption | omega); (case k1_26 => first | assumption | omega); (case k2_26 => first | assumption | omega)) | (with_reducible refine e_tuple ?_) | ((with_reducible refine' v_tuple ?kz_26 fun _ _ => ?_); (case kz_26 => exact Nat.le_of_ble_eq_true rfl)) | (with_reducible refine e_list ?_) | ((with_reducible refine' v_list ?kz_26 fun _ _ => ?_); (case kz_26 => exact Nat.le_of_ble_eq_true rfl)) | fail))
    all_goals first
      | exact s_raise (hP (ri_5n (by assumption) (by first | exact fun h => absurd h.1 (by assumption) | exact fun h => absurd h.2 (by assumption)))) rfl (fun q hq => .tail _ (.tail _ (hn0 ▸ hq)))
      | (rename_i l9; exact hQ _ _ _ _ ⟨_, _, _, _, _, _, _, rfl, ri_5 (by assumption) o0 o2 (by assumption) (by assumption), fun q hq => l9 q (.tail _ (.tail _ hq)), rfl⟩ sub_drop2)
      | (rename_i l9; exact hQ _ _ _ _ ⟨_, _, _, _, _, _, _, rfl, ri_4 (hlen.resolve_right (by assumption)) o0 o2, fun q hq => l9 q (.tail _ (.tail _ hq)), rfl⟩ sub_drop2)
theorem k_iccf (prog : Program) (w : World) (news : Led) (f r : Int) (x : Str) (t1 t2 t3 : Tok) (hf : 2 ≤ f ∧ f ≤ 8) (hr : 3 ≤ r ∧ r ≤ 8) (hx : x.length < 100) : ConXC prog w 144 5 news [.int f t1, .int r t2, .str x t3] (fun kk => ∀ a u1 u2 u3 o g p, readI f r x = some (o, g, p) → (∀ q ∈ news, q.1 < a) → kk (.ref a) ((a, tupOf [.int o u1, .int g u2, .int p u3]) :: news)) (readI f r x = none) := (c_iccf prog w news f r x t1 t2 t3 hf hr hx).cps (by rintro k h v nw ⟨a, u1, u2, u3, o, g, p, rfl, h1, h2, rfl⟩; exact h a u1 u2 u3 o g p h1 h2)
end
end part_R10
section part_R11
noncomputable def pickI (f r : Int) (ns : List Int) (x : Str) : Option Int := (readI f r x).bind fun q => ns.find? (hits q)
section
theorem c_pick (prog : Program) (w : World) (news : Led) (f r : Int) (x : Str) (l : Addr) (vs : List Value) (ns : List Int) (n : Nat) (t1 t2 t3 : Tok) (hf : 2 ≤ f ∧ f ≤ 8) (hr : 3 ≤ r ∧ r ≤ 8) (hx : x.length < 100)
    (hl : (l, listOf vs.toArray n) ∈ news) (hi : IntsAre vs ns) :
    ConX prog w 151 8 news [.int f t1, .int r t2, .ref l, .str x t3] (fun v nw => ∃ mv t, v = .int mv t ∧ pickI f r ns x = some mv ∧ nw = news) (pickI f r ns x = none) := by
  refine' (runs_conX ?ho ?hcd ?hbm ?hk4 (fun _ => by decide) ?run ?hbind ?hloc ?hco ?hgen ?hk ?hcell)
  (case ho => k_is)
  (case hcd => k_is)
  (case hbm => k_is)
  (case hk4 => k_is)
  (case hbind => exact fun _ => BindsTo.of_eq rfl)
  (case hloc => exact locs rfl)
  (case hco => exact rfl)
  (case hgen => exact rfl)
  (case hk => exact rfl)
  (case hcell => decide)
  rintro C Q rfl rfl hn0 hP hQ
  refine s_let ?_
  intro m0
  refine s_unpack3 ?_
  (repeat' (first | with_reducible intro _ | ((with_reducible refine' e_callP ?kf_27 ?kv_27 ?kx_27 ?kb_27 ?ke_27 ?kp_27 fun _ => ?_); (case kf_27 => k_is); (case kv_27 => k_is); (case kx_27 => exact rfl); (case kb_27 => exact rfl); (case ke_27 => exact rfl); (case kp_27 => exact rfl); (with_unfolding_all change Cx.R _ _ _ _ _)) | (with_reducible refine s_return ?_) | ((with_reducible refine s_if ?_); intro kc) | (with_reducible refine s_skip ?_) | (with_reducible refine on_next ?_) | (with_reducible refine on_ret ?_) | ((with_reducible refine at_true ?_); (try clear kc)) | ((with_reducible refine at_false ?_); (try clear kc)) | (with_reducible refine t_and ?_) | (with_reducible refine t_and_nil ?_) | (with_reducible refine b_eq (fun _ => ?_) (fun _ => ?_)) | ((with_reducible refine' e_local ?kv_27 ?_); (case kv_27 => exact rfl)) | ((with_reducible refine' t_cmp ?_ ?km_27); (case km_27 => exact rfl)) | (with_reducible refine ⟨_, _, rfl, ?_⟩) | ((with_reducible refine' r_kX ?kc_27 ?kr_27 ?kp_27 ?kn_27 ?_); (case kc_27 => first | exact k_iccf _ _ _ _ _ _ _ _ _ (by assumption) (by assumption) (by assumption)); (case kr_27 => decide)) | ((with_reducible refine' r_k ?kc_27 ?kr_27 ?_); (case kc_27 => first | exact k_from _ _ _ _ _ | exact k_to _ _ _ _ _ | exact k_promo _ _ _ _ _); (case kr_27 => decide)) | fail))
  · exact hP (by rename readI f r x = none => z; rw [pickI, z]; rfl)
  · exact hn0 ▸ (by assumption)
  rename_i D u1 u2 u3 o g pm hq hlt
  refine ⟨D, _, _, _, rfl, .head _, ?_⟩
  intro m1 m2 m3
  refine s_seq (forL (σ := Unit) (fun _ n1 _ => n1) (fun _ => []) [] (fun i _ => noHit (o, g, pm) ns i) () rfl (fun _ => rfl) ?_ (fun _ hp => nomatch hp) (fun _ _ h => absurd h (Nat.not_lt_zero _)))
  (repeat' (first | with_reducible intro _ | ((with_reducible refine' e_callP ?kf_28 ?kv_28 ?kx_28 ?kb_28 ?ke_28 ?kp_28 fun _ => ?_); (case kf_28 => k_is); (case kv_28 => k_is); (case kx_28 => exact rfl); (case kb_28 => exact rfl); (case ke_28 => exact rfl); (case kp_28 => exact rfl); (with_unfolding_all change Cx.R _ _ _ _ _)) | (with_reducible refine s_return ?_) | ((with_reducible refine s_if ?_); intro kc) | (with_reducible refine s_skip ?_) | (with_reducible refine on_next ?_) | (with_reducible refine on_ret ?_) | ((with_reducible refine at_true ?_); (try clear kc)) | ((with_reducible refine at_false ?_); (try clear kc)) | (with_reducible refine t_and ?_) | (with_reducible refine t_and_nil ?_) | (with_reducible refine b_eq (fun _ => ?_) (fun _ => ?_)) | ((with_reducible refine' e_local ?kv_28 ?_); (case kv_28 => exact rfl)) | ((with_reducible refine' t_cmp ?_ ?km_28); (case km_28 => exact rfl)) | (with_reducible refine ⟨_, _, rfl, ?_⟩) | ((with_reducible refine' r_kX ?kc_28 ?kr_28 ?kp_28 ?kn_28 ?_); (case kc_28 => first | exact k_iccf _ _ _ _ _ _ _ _ _ (by assumption) (by assumption) (by assumption)); (case kr_28 => decide)) | ((with_reducible refine' r_k ?kc_28 ?kr_28 ?_); (case kc_28 => first | exact k_from _ _ _ _ _ | exact k_to _ _ _ _ _ | exact k_promo _ _ _ _ _); (case kr_28 => decide)) | fail))
  refine ⟨_, _, _, rfl, rfl, fun _ => .tail _ hl, ?_, ?_⟩
  · intro c i v u own hv hoff hp m9
    obtain ⟨mv, t, rfl, hmv⟩ := ints_at hi hv
    refine s_letQ ?_
    intro Q9
    (repeat' (first | with_reducible intro _ | ((with_reducible refine' e_callP ?kf_29 ?kv_29 ?kx_29 ?kb_29 ?ke_29 ?kp_29 fun _ => ?_); (case kf_29 => k_is); (case kv_29 => k_is); (case kx_29 => exact rfl); (case kb_29 => exact rfl); (case ke_29 => exact rfl); (case kp_29 => exact rfl); (with_unfolding_all change Cx.R _ _ _ _ _)) | (with_reducible refine s_return ?_) | ((with_reducible refine s_if ?_); intro kc) | (with_reducible refine s_skip ?_) | (with_reducible refine on_next ?_) | (with_reducible refine on_ret ?_) | ((with_reducible refine at_true ?_); (try clear kc)) | ((with_reducible refine at_false ?_); (try clear kc)) | (with_reducible refine t_and ?_) | (with_reducible refine t_and_nil ?_) | (with_reducible refine b_eq (fun _ => ?_) (fun _ => ?_)) | ((with_reducible refine' e_local ?kv_29 ?_); (case kv_29 => exact rfl)) | ((with_reducible refine' t_cmp ?_ ?km_29); (case km_29 => exact rfl)) | (with_reducible refine ⟨_, _, rfl, ?_⟩) | ((with_reducible refine' r_kX ?kc_29 ?kr_29 ?kp_29 ?kn_29 ?_); (case kc_29 => first | exact k_iccf _ _ _ _ _ _ _ _ _ (by assumption) (by assumption) (by assumption)); (case kr_29 => decide)) | ((with_reducible refine' r_k ?kc_29 ?kr_29 ?_); (case kc_29 => first | exact k_from _ _ _ _ _ | exact k_to _ _ _ _ _ | exact k_promo _ _ _ _ _); (case kr_29 => decide)) | fail))
    · exact hQ _ _ _ _ ⟨_, _, rfl, by rw [pickI, hq]; exact find_at hmv hp (hits_yes (by assumption) (by assumption) (by assumption)), rfl⟩ fun p hp => List.mem_append_left _ (.tail _ hp)
    all_goals exact s_nil (turn_plain (fun _ h => h) hoff (fun z h => if_neg h) (hp.step hmv (by first | exact hits_no (.inr (.inr (by assumption))) | exact hits_no (.inr (.inl (by assumption))) | exact hits_no (.inl (by assumption)))))
  · intro c u hp m9
    (repeat' (first | with_reducible intro _ | ((with_reducible refine' e_callP ?kf_30 ?kv_30 ?kx_30 ?kb_30 ?ke_30 ?kp_30 fun _ => ?_); (case kf_30 => k_is); (case kv_30 => k_is); (case kx_30 => exact rfl); (case kb_30 => exact rfl); (case ke_30 => exact rfl); (case kp_30 => exact rfl); (with_unfolding_all change Cx.R _ _ _ _ _)) | (with_reducible refine s_return ?_) | ((with_reducible refine s_if ?_); intro kc) | (with_reducible refine s_skip ?_) | (with_reducible refine on_next ?_) | (with_reducible refine on_ret ?_) | ((with_reducible refine at_true ?_); (try clear kc)) | ((with_reducible refine at_false ?_); (try clear kc)) | (with_reducible refine t_and ?_) | (with_reducible refine t_and_nil ?_) | (with_reducible refine b_eq (fun _ => ?_) (fun _ => ?_)) | ((with_reducible refine' e_local ?kv_30 ?_); (case kv_30 => exact rfl)) | ((with_reducible refine' t_cmp ?_ ?km_30); (case km_30 => exact rfl)) | (with_reducible refine ⟨_, _, rfl, ?_⟩) | ((with_reducible refine' r_kX ?kc_30 ?kr_30 ?kp_30 ?kn_30 ?_); (case kc_30 => first | exact k_iccf _ _ _ _ _ _ _ _ _ (by assumption) (by assumption) (by assumption)); (case kr_30 => decide)) | ((with_reducible refine' r_k ?kc_30 ?kr_30 ?_); (case kc_30 => first | exact k_from _ _ _ _ _ | exact k_to _ _ _ _ _ | exact k_promo _ _ _ _ _); (case kr_30 => decide)) | fail))
    exact s_raise (hP (by rw [pickI, hq]; exact hp.none (Nat.le_of_eq hi.length.symm))) rfl (fun q hq => .tail _ (hn0 ▸ hq))
end
end part_R11
section part_R4
section
variable {sc : Scope} {room : Nat} {C : Cx sc room} {m : Str → Option Value} {n : Led} {K : Value → Led → Prop} {x y : Str} {t u : Tok} {px pos sp ap : Pos} {l : Addr} {vs : List Value} {k : Nat}
theorem s_pair {x1 x2 : Str} {q1 q2 tp : Pos} {k1 k2 : Nat} {e1 e2 : PySem.Expr} {vp : Pos} {rest : List Stmt} {Q : Flow → (Str → Option Value) → Led → Prop}
    (q : C.R m n (spliced (backTo vp (starEach [e1, e2] C.env))) fun vs n1 => ∃ v1 v2, vs = [v1, v2] ∧
      (let m1 : Str → Option Value := fun y => if y = x2 then some v2 else m y
       let m2 : Str → Option Value := fun y => if y = x1 then some v1 else m1 y
       C.S m2 n1 rest Q))
    (h1 : sc.names.lookup x1 = some .local := by rfl) (h2 : sc.names.lookup x2 = some .local := by rfl)
    (hs : swapsWithSole [.Tuple [.Name x1 q1, .Name x2 q2] k1 tp] (.Tuple [e1, e2] k2 vp) sp.line C.env = pure false := by rfl)
    (hw : swappedStores [.Tuple [.Name x1 q1, .Name x2 q2] k1 tp] (.Tuple [e1, e2] k2 vp) C.env = pure (some [x1, x2]) := by rfl) : C.S m n (.Assign [.Tuple [.Name x1 q1, .Name x2 q2] k1 tp] (.Tuple [e1, e2] k2 vp) sp :: rest) Q := fun h tk F N => by
  refine wpAny_execs_cons (Assign_Tuple_swapped (Tuple_ (q.to F N fun vs h1 tk1 n1 q1 F1 N1 => ?_)) hs hw)
  obtain ⟨v1, v2, rfl, q1⟩ := q1
  refine kup_newTuple F1 N1 (fun D h3 F3 N3 l => ?_) (Nat.le_of_ble_eq_true rfl)
  refine unpackItemsN_ F3 N3 (News.isTup N3 (.head _)) rfl rfl fun h4 F4 N4 => ?_
  refine assignInOrder_cons (bindName_ (store_m F4 N4 (fun h5 F5 N5 => ?_) C.hk (C.kind_of h2)))
  refine assignInOrder_cons (bindName_ (store_m F5 N5 (fun h6 F6 N6 => ?_) C.hk (C.kind_of (by assumption))))
  exact assignInOrder_nil (q1 h6 _ F6 fun p hp => N6 p (.tail _ hp))
theorem s_unpack2 {x1 x2 : Str} {q1 q2 tp sp : Pos} {k : Nat} {e : PySem.Expr} {rest : List Stmt} {Q : Flow → (Str → Option Value) → Led → Prop} (q : C.E m n e fun v n1 => ∃ D v1 v2, v = .ref D ∧ (D, tupOf [v1, v2]) ∈ n1 ∧
      (let m1 : Str → Option Value := fun y => if y = x1 then some v1 else m y
       let m2 : Str → Option Value := fun y => if y = x2 then some v2 else m1 y
       C.S m2 n1 rest Q))
    (h1 : sc.names.lookup x1 = some .local := by rfl) (h2 : sc.names.lookup x2 = some .local := by rfl)
    (hs : swapsWithSole [.Tuple [.Name x1 q1, .Name x2 q2] k tp] e sp.line C.env = pure false := by rfl)
    (hw : swappedStores [.Tuple [.Name x1 q1, .Name x2 q2] k tp] e C.env = pure none := by rfl) : C.S m n (.Assign [.Tuple [.Name x1 q1, .Name x2 q2] k tp] e sp :: rest) Q := fun h tk F N =>
  wpAny_execs_cons (Assign_Tuple (q.to F N fun v h1 tk1 n1 q1 F1 N1 => by
    obtain ⟨D, v1, v2, rfl, hm, q1⟩ := q1
    refine unpackN_ F1 N1 (News.isTup N1 hm) rfl rfl rfl fun h2 F2 N2 => ?_
    refine assignInOrder_cons (PyProof.Rows.assign_Name (store_m F2 N2 (fun h3 F3 N3 => ?_) C.hk (C.kind_of (by assumption))))
    refine assignInOrder_cons (PyProof.Rows.assign_Name (store_m F3 N3 (fun h4 F4 N4 => ?_) C.hk (C.kind_of (by assumption))))
    exact assignInOrder_nil (q1 h4 _ F4 N4)) hs hw)
theorem v_tupItem {value slice : PySem.Expr} {i : Int} {v : Value} (hm : (l, tupOf vs) ∈ n) (h0 : 0 ≤ i) (hk : i < 2 ^ 62) (hx : vs[i.toNat]? = some v) (q : K v n)
    (hs : subscripted slice false (.ref l) (.int i u) = operate [.ref l, .int i u] (getItem (.ref l) (.int i u)) := by with_unfolding_all rfl) :
    C.R m n (subscriptTail value slice (.ref l) (.int i u)) K := fun h tk F N => by
  have ht : IsTup h l vs.toArray := ⟨_, (N _ hm).1, rfl, _, rfl⟩
  have hlt : i.toNat < vs.length := by
    rcases Nat.lt_or_ge i.toNat vs.length with q | q
    · exact q
    · rw [List.getElem?_eq_none q] at hx; cases hx
  exact tail_any ht.typeIs slot_tuple_getitem.lookup (getItem_tuple ht (by omega) (by omega) (seqIndex_of h0 (by simp; omega)) (x := v) (by simpa using hx) ⟨h, tk, n, rfl, F, N, q⟩) hs
theorem v_itemS {value slice : PySem.Expr} {ws : List Str} {i : Int} (hm : (l, listOf vs.toArray k) ∈ n) (hw : StrsAre vs ws) (h0 : 0 ≤ i) (h1 : i < ws.length) (hz : ws.length < 2 ^ 62) (q : ∀ t, K (.str (ws.getD i.toNat Str.empty) t) n)
    (hs : subscripted slice false (.ref l) (.int i u) = operate [.ref l, .int i u] (getItem (.ref l) (.int i u)) := by with_unfolding_all rfl) :
    C.R m n (subscriptTail value slice (.ref l) (.int i u)) K := by
  have hlt : i.toNat < ws.length := (Int.toNat_lt h0).mpr h1
  obtain ⟨t, ht⟩ := hw.get i.toNat (ws.getD i.toNat Str.empty) (by rw [List.getD_eq_getElem?_getD, List.getElem?_eq_getElem hlt]; rfl)
  exact v_itemV hm h0 (Int.lt_trans h1 (lt_of_eq62 hz)) ht (q t) hs
inductive Cx.RangeIt {σ : Type} (C : Cx sc room) (m : Str → Option Value) (x : Str) (ps : σ → List (Str × Value)) (stored : List Str) (body : List Stmt) (Q : Flow → (Str → Option Value) → Led → Prop) (v : Value) (n1 : Led) : Prop
  | mk (k : Nat) (j : Int) (t : Tok) (ld : σ → Led) (P : Nat → σ → Prop) (c₀ : σ) (hv : v = .int j t) (hj : j = (k : Int)) (hz : k < 1000) (hn : n1 = ld c₀) (hk : ∀ p ∈ ps c₀, m p.1 = some p.2) (hp : P 0 c₀)
    (turn : ∀ (c : σ) (i : Nat) t (u : Str → Option Value) own, i < k → OwnOff own ((ld c).map (·.1)) → P i c →
        (let m' : Str → Option Value := fun y => if y = x then some (.int (0 + (i : Int)) t) else within ps stored m u c y
         C.S m' (ld c ++ own) body (C.turn x ld ps stored m P own (i + 1) Q)))
    (done : ∀ (c : σ) (u : Str → Option Value), P k c → (let m' : Str → Option Value := fun y => if y = x then u y else within ps stored m u c y
         Q .next m' (ld c))) : C.RangeIt m x ps stored body Q v n1
theorem forR1 {σ : Type} {px np rp fp : Pos} {e : PySem.Expr} {body : List Stmt} {Q : Flow → (Str → Option Value) → Led → Prop} (ps : σ → List (Str × Value)) (stored : List Str)
    (hx : sc.names.lookup x = some .local) (hf : nsIn (hd.heap_39 C.w.params) mainGlobals (Str.ofString "range") = some none) (hb : bootBuiltins (Str.ofString "range") = some (.type "range")) (hr : sc.names.lookup (Str.ofString "range") = some .globalImplicit)
    (hfs : ∀ v, foldedSetIterable (.Call (.Name (Str.ofString "range") np) [e] [] rp) C.env v = pure v) (he : starEach [e] C.env = (false, eval e C.env) :: starEach [] C.env)
    (q : C.E m n e fun v n1 => C.RangeIt m x ps stored body Q v n1) : C.T1 m n (.For (.Name x px) (.Call (.Name (Str.ofString "range") np) [e] [] rp) body [] fp) Q := fun h tk F N =>
  For_invVF (h₀ := C.g) F (C.kind_of hx) (by show (sc.kind == _ || (sc.kind == _ && _)) = false; rw [C.hk]; rfl)
    (Call_ (nameX_B F C.X (topRead_of C.T) hf hb (by decide) (by
      rw [he]
      refine PyProof.Rows.callWith_type rfl (Calls.evalArgs_plain ?_)
      show wpAny (model C.prog C.w) C.A (spliced (backTo rp ((false, eval e C.env) :: starEach [] C.env))) _ C.EE (C.st h tk)
      rw [← he]
      refine args_cons (q.to F N fun v h1 tk1 n1 q1 F1 N1 => args_nil ?_) he
      cases q1 with
      | mk k j t ld P c₀ hv hj hz hn hk hp turn done =>
      subst hv hj hn
      refine range1_rows (s := C.st h1 tk1) F1 N1 fun h2 tk2 t₁ u₁ v₁ hr F2 N2 _ => ?_
      exact loop_range (env := C.env) (s := C.st h2 tk2) ld ps stored P c₀ rfl hr (small_one (by omega) (by omega) (by omega) (by omega)) (by unfold Builtin.Range.rangeSize; split <;> simp <;> omega) F2 N2 hk hp
        (fun c i t u h tk own hv ho hp' F' N' => wpAny_mono (turn c i t u own hv ho hp' h tk F' N') (fun f s' z => Cx.turn.of z) fun _ _ x => x)
        (fun c u h tk q F' N' => ⟨h, tk, _, _, rfl, F', N', done c u q⟩)) C.hk (C.kind_of hr) (by decide))) hfs C.po
end
end part_R4
section part_M12
theorem off_M12 : True := by
  w_top off
  exact trivial
section
variable {prog : Program} {w : World} {A₀ A : Around} {s : Shared} {base h₀ g₀ : Heap} {outer : List Env} {L a : Addr} {m : Str → Option Value} {env : Env} {news : List (Addr × Obj)} {K : Frag} {p : Program} {loose : List Str} {mean : ExcName → Option Value} {mg mb : Str → Option Value}
    {R : Result → Shared → Prop} {name qual : Str} {params : Arguments} {body : List Stmt} {scope : Scope} {dV kV doc pm cdv ct oc : Value} {an od : Option Addr} {osl : Array (Option Value)} {f : Addr} {args : Args} {binds : List (Str × Value)}
theorem frames_mem {env : Env} {outer : List Env} {L b : Addr} (hf : env.frame = some L) (hm : b ∈ (env :: outer).filterMap (·.frame)) : b = L ∨ b ∈ outer.filterMap (·.frame) := by
  obtain ⟨env', he, hf'⟩ := List.mem_filterMap.mp hm
  rcases List.mem_cons.mp he with rfl | he
  · exact .inl (Option.some.inj (hf.symm.trans hf')).symm
  · exact .inr (List.mem_filterMap.mpr ⟨env', he, hf'⟩)
theorem enterS (B : Below A₀ base outer h₀) (F : Fr h₀ L s.heap m) (X₀ : K.In h₀) (N : News h₀ L s.heap news) (T : Top p loose mean mg mb h₀) (XB : K.In base) (TB : Top p loose mean mg mb base) (D : KtsDicts (outer.filterMap (·.frame)) h₀)
    (T0 : KtsTurn (outer.filterMap (·.frame)) g₀ h₀) (hA : A.frames = some (env :: outer)) (hf : env.frame = some L) (hke : env.scope.kind = .function)
    (ho : K.lookup f = some ⟨oc, od, .func (fnOf name qual params body scope dV kV doc pm an cdv ct), osl⟩) (hcd : codeIn K cdv qual = true) (hroom : A.depth < recursionLimit)
    (hbind : BindsTo s (fnOf name qual params body scope dV kV doc pm an cdv ct) args binds) (hloc : ∀ y ∈ binds, scope.names.lookup y.1 = some .local)
    (h : ∀ g L' h₁, Fr h₀ L g m → Fr g L' h₁ (fun y => binds.reverse.lookup y) → News g L' h₁ news → Below A base (env :: outer) g → K.In g → Top p loose mean mg mb g → KtsDicts ((env :: outer).filterMap (·.frame)) g →
      wpAny (model prog w) (A.deeper (envOf qual scope L' f cdv)) (execs body (envOf qual scope L' f cdv))
        (fun fl s' => LeaveS ((env :: outer).filterMap (·.frame)) A₀ base outer K p loose mean mg mb g₀ h₀ L m g R (match fl with | .ret v => v | _ => .none) s')
        (fun e s' => wpAny (model prog w) (A.deeper (envOf qual scope L' f cdv)) (leaving (envOf qual scope L' f cdv) e) (fun _ s'' => R (.error e) s'') (fun e' s'' => R (.error e') s'') s')
        { s with heap := h₁, toks := s.toks + binds.length })
    (hco : scope.isCoroutine = false) (hgen : scope.isGenerator = false) (hk : scope.kind = .function)
    (hcell : ∀ x ∈ scope.names, x.2 ≠ .cell) : codeAny (model prog w) A (.call (.ref f) args) R s := by
  obtain ⟨FG, BG, st, lv⟩ := groundX (R := R) B F N hA hf hke
  have X := X₀.keeps F.keep
  obtain ⟨oL, es, ep, hLg, hLd, hLk, hLf⟩ := FG.ns
  refine codeAny_call_def (fd := fnOf name qual params body scope dV kV doc pm an cdv ct) (body := body) (binds := binds) hroom (X _ _ ho) rfl (T.nolimit.keeps F.keep) (codeRec_of X hcd) rfl hbind hcell hloc (fun h₁ hns hk₁ => ?_) hco hgen hk
  refine wpAny_mono (h _ s.heap.objs.size h₁ FG ⟨hns, fun b o e => hk₁ b o (of_hideAll _ e), Nat.le_of_eq (hideAll_size _ _)⟩
    (fun p hp => ⟨hk₁ _ _ (N p hp).1, Nat.ne_of_lt (Heap.lt_size (N p hp).1), hideAll_none _ (List.mem_map_of_mem hp)⟩) BG (X₀.keeps st) (T.keeps st) (fun b hb => by
      rcases frames_mem hf hb with rfl | hb
      · exact ⟨oL, es, ep, hLg, hLd⟩
      · obtain ⟨o, es', n', ho', hd'⟩ := D b hb
        exact ⟨o, es', n', st b o ho', hd'⟩)) (fun fl s' hl => ?_) fun _ _ y => y
  have nL₀ : h₀.get? L = none := kts_self F
  rcases hl with ⟨L', m', news', F', N', k⟩ | ⟨g', L', m', news', T', F', N', k⟩
  · exact lv _ _ ⟨L', m', news', F', N', k⟩
  obtain ⟨sl, hs⟩ := T'.up hLg
  obtain ⟨T₁, S₁⟩ := kts_turn_at (h := s'.heap) (fs := outer.filterMap (·.frame)) (g := h₀)
    (fun b hb => by
      obtain ⟨_, o, ho', _⟩ := B.frames.mem hb
      exact ⟨o, ho'⟩)
    (fun b o e nmem => F'.keep b o (T'.other b o (st b o e) (fun q => by
      rcases frames_mem hf q with z | z
      · rw [z, nL₀] at e
        cases e
      · exact nmem z)))
    (fun b o e hm => by
      obtain ⟨sl', hs'⟩ := T'.up (st b o e)
      exact ⟨sl', F'.keep _ _ hs'⟩)
  have B₃ : Below A₀ base outer (ktsHeap s'.heap (outer.filterMap (·.frame)) h₀) := ⟨B.stack, fun b o e => T₁.other b o (B.stays b o e) (fun hm => by
    rw [(B.frames.mem hm).1] at e
    cases e), B.frames.of_keeps fun b o e _ => by
    obtain ⟨sl', hs'⟩ := T₁.up e
    exact ⟨_, hs', rfl⟩⟩
  refine k _ (T0.trans T₁) ⟨⟨_, es, ep, F'.keep _ _ hs, hLd, hLk, hLf⟩, S₁, by rw [T₁.size]; exact F.above⟩ (fun p hp => ⟨(N' p hp).1, fun q => ?_, ?_⟩) B₃ (XB.keeps B₃.stays) (TB.keeps B₃.stays) (D.turn T₁)
  · have := (N' p hp).2.2; rw [q, hs] at this; cases this
  · refine T₁.none_ _ ?_
    cases q : h₀.get? p.1 with
    | none => rfl
    | some o =>
      obtain ⟨sl', hs'⟩ := T'.up (st _ _ q)
      have := (N' p hp).2.2
      rw [hs'] at this
      cases this
end
noncomputable def ConS (prog : Program) (w : World) (f : Addr) (need : Nat) (news : Led) (vs : List Value) (R : Value → Led → Prop) : Prop :=
  ∀ (p : Program) (loose : List Str) (mean : ExcName → Option Value) (mg mb : Str → Option Value)
    (dp un : Nat) (gd : Option (List Code)) (cn : Str) (cs : Scope) (a : Addr) (ccd : Value) (cl : List (Str × Addr)) (outer : List Env) (A₀ : Around) (base h₀ g₀ : Heap) (L : Addr) (m : Str → Option Value) (s : Shared) (Q E : Value → Shared → Prop),
    Below A₀ base outer h₀ → Fr h₀ L s.heap m → (hd.heap_39 w.params).In h₀ → News h₀ L s.heap news → Top p loose mean mg mb h₀ → cs.kind = .function →
    (hd.heap_39 w.params).In base → Top p loose mean mg mb base → KtsDicts (outer.filterMap (·.frame)) h₀ → KtsTurn (outer.filterMap (·.frame)) g₀ h₀ →
    dp + need < recursionLimit → un + 8 * need < cLine →
    (∀ v nw g h' tk', KtsTurn (outer.filterMap (·.frame)) g₀ g → Fr g L h' m → News g L h' nw → Below A₀ base outer g → (hd.heap_39 w.params).In g → Top p loose mean mg mb g → KtsDicts (outer.filterMap (·.frame)) g → R v nw → Q v { s with heap := h', toks := tk' }) →
    wpAny (model prog w) (ktrTop dp un gd cn cs L a ccd cl outer) (call (.ref f) vs) Q E s
theorem con_useS {prog : Program} {w : World} {f : Addr} {need : Nat} {news : Led} {vs : List Value} {R : Value → Led → Prop}
    {p : Program} {loose : List Str} {mean : ExcName → Option Value} {mg mb : Str → Option Value}
    {dp un : Nat} {gd : Option (List Code)} {cn : Str} {cs : Scope} {a : Addr} {ccd : Value} {cl : List (Str × Addr)} {outer : List Env} {A₀ : Around} {base h₀ g₀ : Heap} {L : Addr} {m : Str → Option Value} {s : Shared} {Q E : Value → Shared → Prop}
    (C : ConS prog w f need news vs R) (B : Below A₀ base outer h₀) (F : Fr h₀ L s.heap m) (X : (hd.heap_39 w.params).In h₀) (N : News h₀ L s.heap news) (T : Top p loose mean mg mb h₀) (hk : cs.kind = .function)
    (XB : (hd.heap_39 w.params).In base) (TB : Top p loose mean mg mb base) (D : KtsDicts (outer.filterMap (·.frame)) h₀) (T0 : KtsTurn (outer.filterMap (·.frame)) g₀ h₀)
    (hdp : dp + need < recursionLimit) (hu : un + 8 * need < cLine)
    (ret : ∀ v nw g h' tk', KtsTurn (outer.filterMap (·.frame)) g₀ g → Fr g L h' m → News g L h' nw → Below A₀ base outer g → (hd.heap_39 w.params).In g → Top p loose mean mg mb g → KtsDicts (outer.filterMap (·.frame)) g → R v nw → Q v { s with heap := h', toks := tk' }) :
    wpAny (model prog w) (ktrTop dp un gd cn cs L a ccd cl outer) (call (.ref f) vs) Q E s := C _ _ _ _ _ _ _ _ _ _ _ _ _ _ _ _ _ _ _ _ _ _ _ B F X N T hk XB TB D T0 hdp hu ret
section
local macro_rules | `(tactic| walk_at "call ref") => `(tactic| (k_here; k_dflt (refine' con_useX (by assumption) ?k1 ?k2 ?k3 ?k4 ?k5 ?kK ?kd ?ku ?kR ?kE; (case k2 => k_asm); (case k1 => k_asm); (case k3 => k_asm); (case k4 => k_asm); (case k5 => k_asm); (case kK => first | exact rfl | assumption); (case kd => ktr_room); (case ku => ktr_units); (case' kR => (intro v9 nw9 h9 tk9 F9 N9 r9; (try dsimp only); (try k_fold))); (case' kE => (intro p9 e9 t9 xs9 G9 h9 tk9 F9 R9 U9; (try dsimp only))))))
local macro_rules | `(tactic| walk_at "noteFrame ref") => `(tactic| (k_here; k_dflt (refine' caught_SO0 ?R ?F ?K ?U ?XB ?TB ?D ?T0 ?ex ?q ?_; (case R => assumption); (case F => assumption); (case K => assumption); (case U => assumption); (case XB => assumption); (case TB => assumption); (case D => assumption); (case T0 => exact KtsTurn.refl); (case ex => k_is); (case q => kts_isx); k_whole; intro h' g' n₂ T' F' N₂ G' N' K' X' P' D'; (try k_lift K'); (try k_sweep))))

theorem c_heard_109 (prog : Program) (w : World) (need : Nat) (pa : Addr) (v1 v2 v3 : Value) (x : Str) (t : Tok) (news : Led) (hpa : (pa, tupOf [v1, v2]) ∈ news) (R : Value → Led → Prop) (P : Prop)
    (C : ConX prog w 109 need news [v1, v2, .str x t] R P) (hn : need < 50) :
    ConS prog w 205 (need + 1) news [.ref 109, .ref pa, .str x t] (fun v nw => R v nw ∨ P ∧ v = .none ∧ nw = news) := by
  intro p loose mean mg mb dp un gd cn cs a ccd cl outer A₀ base h₀ g₀ L m s Q E B F X N T hk XB TB D T0 hdp hun hret
  refine wpAny_call ?_
  k_dflt (refine' enterS ?k1 ?k2 ?k3 ?k4 ?k5 ?XB ?TB ?D ?T0 ?kA ?kF ?kK ?k6 ?k7 ?k8 ?k9 ?kB ?_ ?c2 ?c3 ?c4 ?c5; (case kA => exact rfl); (case kF => exact rfl); (case kK => assumption); (case k1 => k_asm); (case k2 => k_asm); (case k3 => k_asm); (case k4 => k_asm); (case k5 => k_asm); (case XB => assumption); (case TB => assumption); (case D => assumption); (case T0 => assumption); (case k6 => k_is); (case k7 => k_is); (case k8 => ktr_room); (case k9 => exact BindsTo.of_eq rfl); (case c5 => decide); (case kB => exact locs rfl); (case c2 => exact rfl); (case c3 => exact rfl); (case c4 => exact rfl); k_whole; intro g' L' h' FG' F' N' B' X' T' D'; (try dsimp only); (try k_lift B'); (try k_fold))
  k_steps
  all_goals (with_reducible rename KtsTurn _ g₀ _ => t9; first
    | exact hret _ _ _ _ _ t9 (by assumption) (by assumption) (by assumption) (by assumption) (by assumption) (by assumption) (.inr ⟨by assumption, rfl, rfl⟩)
    | exact hret _ _ _ _ _ t9 (by assumption) (by assumption) (by assumption) (by assumption) (by assumption) (by assumption) (.inl (by assumption)))

theorem c_heard_144 (prog : Program) (w : World) (need : Nat) (pa : Addr) (v1 v2 v3 : Value) (x : Str) (t : Tok) (news : Led) (hpa : (pa, tupOf [v1, v2]) ∈ news) (R : Value → Led → Prop) (P : Prop)
    (C : ConX prog w 144 need news [v1, v2, .str x t] R P) (hn : need < 50) :
    ConS prog w 205 (need + 1) news [.ref 144, .ref pa, .str x t] (fun v nw => R v nw ∨ P ∧ v = .none ∧ nw = news) := by
  intro p loose mean mg mb dp un gd cn cs a ccd cl outer A₀ base h₀ g₀ L m s Q E B F X N T hk XB TB D T0 hdp hun hret
  refine wpAny_call ?_
  k_dflt (refine' enterS ?k1 ?k2 ?k3 ?k4 ?k5 ?XB ?TB ?D ?T0 ?kA ?kF ?kK ?k6 ?k7 ?k8 ?k9 ?kB ?_ ?c2 ?c3 ?c4 ?c5; (case kA => exact rfl); (case kF => exact rfl); (case kK => assumption); (case k1 => k_asm); (case k2 => k_asm); (case k3 => k_asm); (case k4 => k_asm); (case k5 => k_asm); (case XB => assumption); (case TB => assumption); (case D => assumption); (case T0 => assumption); (case k6 => k_is); (case k7 => k_is); (case k8 => ktr_room); (case k9 => exact BindsTo.of_eq rfl); (case c5 => decide); (case kB => exact locs rfl); (case c2 => exact rfl); (case c3 => exact rfl); (case c4 => exact rfl); k_whole; intro g' L' h' FG' F' N' B' X' T' D'; (try dsimp only); (try k_lift B'); (try k_fold))
  k_steps
  all_goals (with_reducible rename KtsTurn _ g₀ _ => t9; first
    | exact hret _ _ _ _ _ t9 (by assumption) (by assumption) (by assumption) (by assumption) (by assumption) (by assumption) (.inr ⟨by assumption, rfl, rfl⟩)
    | exact hret _ _ _ _ _ t9 (by assumption) (by assumption) (by assumption) (by assumption) (by assumption) (by assumption) (.inl (by assumption)))


theorem c_heard_116 (prog : Program) (w : World) (need : Nat) (pa : Addr) (v1 v2 v3 : Value) (x : Str) (t : Tok) (news : Led) (hpa : (pa, tupOf [v1, v2, v3]) ∈ news) (R : Value → Led → Prop) (P : Prop)
    (C : ConX prog w 116 need news [v1, v2, v3, .str x t] R P) (hn : need < 50) :
    ConS prog w 205 (need + 1) news [.ref 116, .ref pa, .str x t] (fun v nw => R v nw ∨ P ∧ v = .none ∧ nw = news) := by
  intro p loose mean mg mb dp un gd cn cs a ccd cl outer A₀ base h₀ g₀ L m s Q E B F X N T hk XB TB D T0 hdp hun hret
  refine wpAny_call ?_
  k_dflt (refine' enterS ?k1 ?k2 ?k3 ?k4 ?k5 ?XB ?TB ?D ?T0 ?kA ?kF ?kK ?k6 ?k7 ?k8 ?k9 ?kB ?_ ?c2 ?c3 ?c4 ?c5; (case kA => exact rfl); (case kF => exact rfl); (case kK => assumption); (case k1 => k_asm); (case k2 => k_asm); (case k3 => k_asm); (case k4 => k_asm); (case k5 => k_asm); (case XB => assumption); (case TB => assumption); (case D => assumption); (case T0 => assumption); (case k6 => k_is); (case k7 => k_is); (case k8 => ktr_room); (case k9 => exact BindsTo.of_eq rfl); (case c5 => decide); (case kB => exact locs rfl); (case c2 => exact rfl); (case c3 => exact rfl); (case c4 => exact rfl); k_whole; intro g' L' h' FG' F' N' B' X' T' D'; (try dsimp only); (try k_lift B'); (try k_fold))
  k_steps
  all_goals (with_reducible rename KtsTurn _ g₀ _ => t9; first
    | exact hret _ _ _ _ _ t9 (by assumption) (by assumption) (by assumption) (by assumption) (by assumption) (by assumption) (.inr ⟨by assumption, rfl, rfl⟩)
    | exact hret _ _ _ _ _ t9 (by assumption) (by assumption) (by assumption) (by assumption) (by assumption) (by assumption) (.inl (by assumption)))

theorem c_heard_151 (prog : Program) (w : World) (need : Nat) (pa : Addr) (v1 v2 v3 : Value) (x : Str) (t : Tok) (news : Led) (hpa : (pa, tupOf [v1, v2, v3]) ∈ news) (R : Value → Led → Prop) (P : Prop)
    (C : ConX prog w 151 need news [v1, v2, v3, .str x t] R P) (hn : need < 50) :
    ConS prog w 205 (need + 1) news [.ref 151, .ref pa, .str x t] (fun v nw => R v nw ∨ P ∧ v = .none ∧ nw = news) := by
  intro p loose mean mg mb dp un gd cn cs a ccd cl outer A₀ base h₀ g₀ L m s Q E B F X N T hk XB TB D T0 hdp hun hret
  refine wpAny_call ?_
  k_dflt (refine' enterS ?k1 ?k2 ?k3 ?k4 ?k5 ?XB ?TB ?D ?T0 ?kA ?kF ?kK ?k6 ?k7 ?k8 ?k9 ?kB ?_ ?c2 ?c3 ?c4 ?c5; (case kA => exact rfl); (case kF => exact rfl); (case kK => assumption); (case k1 => k_asm); (case k2 => k_asm); (case k3 => k_asm); (case k4 => k_asm); (case k5 => k_asm); (case XB => assumption); (case TB => assumption); (case D => assumption); (case T0 => assumption); (case k6 => k_is); (case k7 => k_is); (case k8 => ktr_room); (case k9 => exact BindsTo.of_eq rfl); (case c5 => decide); (case kB => exact locs rfl); (case c2 => exact rfl); (case c3 => exact rfl); (case c4 => exact rfl); k_whole; intro g' L' h' FG' F' N' B' X' T' D'; (try dsimp only); (try k_lift B'); (try k_fold))
  k_steps
  all_goals (with_reducible rename KtsTurn _ g₀ _ => t9; first
    | exact hret _ _ _ _ _ t9 (by assumption) (by assumption) (by assumption) (by assumption) (by assumption) (by assumption) (.inr ⟨by assumption, rfl, rfl⟩)
    | exact hret _ _ _ _ _ t9 (by assumption) (by assumption) (by assumption) (by assumption) (by assumption) (by assumption) (.inl (by assumption)))

end
end part_M12
section part_M13
noncomputable def TabIs (prog : Program) (w : World) (a : Addr) (o : Obj) (tab : Str → Option Int) : Prop :=
  ∃ kvs, o.IsDictOf (strKind prog w) kvs ∧ (a == sysModules) = false ∧ ∀ k, (tab k = none → valueAt kvs k = none) ∧ ∀ n, tab k = some n → ∃ t, valueAt kvs k = some (.int n t)
section
variable {prog : Program} {w : World} {A : Around} {E : Value → Shared → Prop} {s : Shared} {h₀ : Heap} {L d : Addr} {m : Str → Option Value} {news : Led} {o : Obj} {tab : Str → Option Int} {k : Str} {u : Tok}
theorem tab_in {Q : Value → Shared → Prop} (N : News h₀ L s.heap news) (hp : (d, o) ∈ news) (D : TabIs prog w d o tab) (h : ∀ b, (tab k).isSome = b → Q (.bool b) { s with toks := s.toks + 1 }) :
    wpAny (model prog w) A (compareOp .In (.str k u) (.ref d)) Q E s := by
  obtain ⟨kvs, hd, lo, hk⟩ := D
  refine kda_in (key := .str k u) N hp hd lo (strKind_is _ _ _ _) (tab k).isSome ?_ (h _ rfl)
  cases e : tab k with
  | none => rw [(hk k).1 e]; rfl
  | some n => obtain ⟨t, ht⟩ := (hk k).2 n e; rw [ht]; rfl
theorem tab_item {Q : Value → Shared → Prop} {value slice : PySem.Expr} {n : Int} (N : News h₀ L s.heap news) (hp : (d, o) ∈ news) (D : TabIs prog w d o tab) (e : tab k = some n) (h : ∀ t, Q (.int n t) { s with toks := s.toks + 1 })
    (hs : subscripted slice false (.ref d) (.str k u) = operate [.ref d, .str k u] (getItem (.ref d) (.str k u)) := by with_unfolding_all rfl) (hg : ∀ r, letTemporaryGo value (.ref d) r = pure () := by intro _; with_unfolding_all rfl) :
    wpAny (model prog w) A (subscriptTail value slice (.ref d) (.str k u)) Q E s := by
  obtain ⟨kvs, hd, lo, hk⟩ := D
  obtain ⟨t, ht⟩ := (hk k).2 n e
  exact kda_item (key := .str k u) N hp hd (strKind_is _ _ _ _) ht (h t) hs hg
theorem tab_get {n : Option Int} (h : n.isSome = true) : n = some (n.getD 0) := by cases n with
  | none => cases h
  | some n => rfl
end
noncomputable def readT (tn te : Str → Option Int) (x : Str) : Option (Int × Int × Int) :=
  match tn (Txt.slice x none (some 2)), tn (Txt.slice x (some 2) (some 4)), te (Txt.slice x (some 4) none) with
  | some o, some g, some p => some (o, g, p)
  | _, _, _ => none
theorem readT_some {tn te : Str → Option Int} {x : Str} (h1 : (tn (Txt.slice x none (some 2))).isSome = true) (h2 : (tn (Txt.slice x (some 2) (some 4))).isSome = true) (h3 : (te (Txt.slice x (some 4) none)).isSome = true) :
    readT tn te x = some ((tn (Txt.slice x none (some 2))).getD 0, (tn (Txt.slice x (some 2) (some 4))).getD 0, (te (Txt.slice x (some 4) none)).getD 0) := by
  unfold readT; rw [tab_get h1, tab_get h2, tab_get h3]; rfl
theorem readT_none {tn te : Str → Option Int} {x : Str} (h : (tn (Txt.slice x none (some 2))).isSome = false ∨ (tn (Txt.slice x (some 2) (some 4))).isSome = false ∨ (te (Txt.slice x (some 4) none)).isSome = false) : readT tn te x = none := by
  unfold readT
  split
  · rename_i h1 h2 h3; rw [h1, h2, h3] at h; simp at h
  · rfl
section
variable {C : Cx sc room} {m : Str → Option Value} {n : Led} {d : Addr} {o : Obj} {tab : Str → Option Int} {k : Str} {u : Tok}
theorem b_inTab {K : Bool → Led → Prop} (hp : (d, o) ∈ n) (D : TabIs C.prog C.w d o tab) (p : (tab k).isSome = true → K true n) (q : (tab k).isSome = false → K false n) : C.R m n (compareOp .In (.str k u) (.ref d)) fun c n3 => ∃ z, c = .bool z ∧ K z n3 := fun h tk F N =>
  tab_in N hp D fun b hb => ⟨h, _, n, rfl, F, N, b, rfl, by
    cases b with
    | true => exact p hb
    | false => exact q hb⟩
theorem v_tabItem {K : Value → Led → Prop} {value slice : PySem.Expr} (hp : (d, o) ∈ n) (D : TabIs C.prog C.w d o tab) (e : (tab k).isSome = true) (q : ∀ t, K (.int ((tab k).getD 0) t) n)
    (hs : subscripted slice false (.ref d) (.str k u) = operate [.ref d, .str k u] (getItem (.ref d) (.str k u)) := by with_unfolding_all rfl) (hg : ∀ r, letTemporaryGo value (.ref d) r = pure () := by intro _; with_unfolding_all rfl) : C.R m n (subscriptTail value slice (.ref d) (.str k u)) K := fun h tk F N =>
  tab_item N hp D (tab_get e) (fun t => ⟨h, _, n, rfl, F, N, q t⟩) hs hg
theorem e_none {p : Pos} {i : Nat} {K : Value → Led → Prop} (q : K .none n) : C.E m n (.Constant .none i p) K := fun h tk F N => wpAny_Constant_none ⟨h, _, n, rfl, F, N, q⟩
end
section
theorem c_read (prog : Program) (w : World) (news : Led) (na ea : Addr) (no eo : Obj) (tn te : Str → Option Int) (x : Str) (t : Tok) (hna : (na, no) ∈ news) (hea : (ea, eo) ∈ news) (hn : TabIs prog w na no tn) (he : TabIs prog w ea eo te) (hx : x.length < 100) :
    Con prog w 172 1 news [.ref na, .ref ea, .str x t] (fun v nw => (readT tn te x = none ∧ v = .none ∧ nw = news) ∨
      ∃ a o g p u1 u2 u3, v = .ref a ∧ readT tn te x = some (o, g, p) ∧ (∀ q ∈ news, q.1 < a) ∧ nw = (a, tupOf [.int o u1, .int g u2, .int p u3]) :: news) := by
  refine' ConX.never (runs_conX (P := False) ?ho ?hcd ?hbm ?hk4 (fun z => z.elim) ?run ?hbind ?hloc ?hco ?hgen ?hk ?hcell)
  (case ho => k_is)
  (case hcd => k_is)
  (case hbm => k_is)
  (case hk4 => k_is)
  (case hbind => exact fun _ => BindsTo.of_eq rfl)
  (case hloc => exact locs rfl)
  (case hco => exact rfl)
  (case hgen => exact rfl)
  (case hk => exact rfl)
  (case hcell => decide)
  rintro C Q rfl rfl hn0 hP hQ
  refine s_let ?_
  intro m0
  (repeat' (first | with_reducible intro _ | ((with_reducible refine' l_plain fun _ => ?_); (with_unfolding_all change Cx.R _ _ _ _ _)) | (with_reducible refine s_return ?_) | ((with_reducible refine s_if ?_); intro kc) | (with_reducible refine s_skip ?_) | (with_reducible refine on_ret ?_) | ((with_reducible refine at_true ?_); (try clear kc)) | ((with_reducible refine at_false ?_); (try clear kc)) | (with_reducible refine e_int fun _ => ?_) | (with_reducible refine t_and ?_) | (with_reducible refine t_and_nil ?_) | ((with_reducible refine' e_local ?kv_31 ?_); (case kv_31 => exact rfl)) | ((with_reducible refine' t_cmp ?_ ?km_31); (case km_31 => exact rfl)) | ((with_reducible refine' l_cons ?_ ?ke_31); (case ke_31 => exact rfl)) | ((with_reducible refine' e_to ?kv_31 ?kz_31 ?_); (case kv_31 => exact rfl); (case kz_31 => (rw [sizeLine_eq]; omega))) | ((with_reducible refine' e_from ?kv_31 ?kz_31 ?_); (case kv_31 => exact rfl); (case kz_31 => (rw [sizeLine_eq]; omega))) | ((with_reducible refine' e_mid ?kv_31 ?kz_31 ?_); (case kv_31 => exact rfl); (case kz_31 => (rw [sizeLine_eq]; omega))) | (with_reducible refine e_sub ?_) | (with_reducible refine ⟨_, _, rfl, ?_⟩) | ((with_reducible refine' b_inTab ?kp_31 ?kD_31 (fun _ => ?_) (fun _ => ?_)); (case kD_31 => assumption); (case kp_31 => k_mem)) | ((with_reducible refine' v_tabItem ?kp_31 ?kD_31 ?ke_31 (fun _ => ?_) ?ks_31 ?kg_31); (case kD_31 => assumption); (case kp_31 => k_mem); (case ke_31 => assumption); (case ks_31 => with_unfolding_all rfl); (case kg_31 => (intro _; with_unfolding_all rfl))) | (with_reducible refine e_none ?_) | (with_reducible refine e_tuple ?_) | ((with_reducible refine' v_tuple ?kz_31 fun _ _ => ?_); (case kz_31 => exact Nat.le_of_ble_eq_true rfl)) | fail))
  · exact hQ _ _ _ _ (.inr ⟨_, _, _, _, _, _, _, rfl, readT_some (by assumption) (by assumption) (by assumption), by assumption, rfl⟩) fun _ h => h
  all_goals refine hQ _ _ _ _ (.inl ⟨readT_none ?_, rfl, rfl⟩) fun _ h => h
  · exact .inr (.inr (by assumption))
  · exact .inr (.inl (by assumption))
  · exact .inl (by assumption)
end
end part_M13
section part_MC
open LCg LCt
noncomputable def StopAt (P : Prop) : Prop := P
theorem stop {P : Prop} (h : StopAt P) : P := h
theorem range_ok {n : Nat} (hn : n < 1000) : Builtin.Range.small 0 (n : Int) 1 = true ∧ Builtin.Range.rangeSize 0 (n : Int) 1 = (n : Int) := by
  refine ⟨small_one (by omega) (by omega) (by omega) (by omega), ?_⟩
  unfold Builtin.Range.rangeSize
  split <;> simp <;> omega
section
variable {prog : Program} {w : World} {A : Around} {E : Value → Shared → Prop} {s : Shared} {h₀ : Heap} {L l : Addr} {m : Str → Option Value} {news : Led} {vs : List Value}
theorem reads_tup3 {h : Heap} {a : Addr} {x1 x2 x3 : Int} {t1 t2 t3 : Tok} (e : h.get? a = some (tupOf [.int x1 t1, .int x2 t2, .int x3 t3])) : ∃ as, Reads h (.ref a) (.tuple [.int x1, .int x2, .int x3]) as :=
  ⟨_, reads_tuple_at e rfl rfl (ReadsAll.cons (Reads.int _ _) (ReadsAll.cons (Reads.int _ _) (ReadsAll.cons (Reads.int _ _) ReadsAll.nil)))⟩
theorem eqv3 (x1 x2 x3 y1 y2 y3 : Int) : PyData.eqv (.tuple [.int x1, .int x2, .int x3]) (.tuple [.int y1, .int y2, .int y3]) = decide ((x1, x2, x3) = (y1, y2, y3)) := by
  have e : ∀ a b : Int, (a == b) = decide (a = b) := fun a b => by by_cases h : a = b <;> simp [h]
  simp [PyData.eqv, PyData.eqvAll, Prod.ext_iff, Bool.decide_and, e]
theorem r_eq3 {Q : Value → Shared → Prop} {a b : Addr} {x1 x2 x3 y1 y2 y3 : Int} {t1 t2 t3 u1 u2 u3 : Tok} (N : News h₀ L s.heap news) (ha : (a, tupOf [.int x1 t1, .int x2 t2, .int x3 t3]) ∈ news) (hb : (b, tupOf [.int y1 u1, .int y2 u2, .int y3 u3]) ∈ news)
    (hu : A.units + 64 < cLine) (h : ∀ c, decide ((x1, x2, x3) = (y1, y2, y3)) = c → Q (.bool c) s) : wpAny (model prog w) A (compareOp .Eq (.ref a) (.ref b)) Q E s := by
  obtain ⟨as, ra⟩ := reads_tup3 (N _ ha).1
  obtain ⟨bs, rb⟩ := reads_tup3 (N _ hb).1
  exact eq_dataH ra rb rfl rfl hu (h _ (eqv3 ..).symm)
theorem r_ne3 {Q : Value → Shared → Prop} {a b : Addr} {x1 x2 x3 y1 y2 y3 : Int} {t1 t2 t3 u1 u2 u3 : Tok} (N : News h₀ L s.heap news) (ha : (a, tupOf [.int x1 t1, .int x2 t2, .int x3 t3]) ∈ news) (hb : (b, tupOf [.int y1 u1, .int y2 u2, .int y3 u3]) ∈ news)
    (hu : A.units + 64 < cLine) (h : ∀ c, (!decide ((x1, x2, x3) = (y1, y2, y3))) = c → Q (.bool c) s) : wpAny (model prog w) A (compareOp .NotEq (.ref a) (.ref b)) Q E s := by
  obtain ⟨as, ra⟩ := reads_tup3 (N _ ha).1
  obtain ⟨bs, rb⟩ := reads_tup3 (N _ hb).1
  exact ne_dataH ra rb rfl rfl hu (h _ (by rw [eqv3]))
end
noncomputable abbrev MvRow := Int × Int × Int × Int
noncomputable def RowsIn (news : Led) (vs : List Value) (rs : List MvRow) : Prop :=
  vs.length = rs.length ∧ ∀ (i : Nat) (r : MvRow), rs[i]? = some r → ∃ (a : Addr) (t1 t2 t3 t4 : Tok), (vs[i]? : Option Value) = some (.ref a) ∧ (a, tupOf [.int r.1 t1, .int r.2.1 t2, .int r.2.2.1 t3, .int r.2.2.2 t4]) ∈ news
theorem RowsIn.mono {news news' : Led} {vs : List Value} {rs : List MvRow} (h : RowsIn news vs rs) (hs : ∀ p ∈ news, p ∈ news') : RowsIn news' vs rs :=
  ⟨h.1, fun i r e => let ⟨a, t1, t2, t3, t4, x, y⟩ := h.2 i r e; ⟨a, t1, t2, t3, t4, x, hs _ y⟩⟩
noncomputable abbrev rowAt (rs : List MvRow) (k : Int) : MvRow := rs.getD k.toNat (0, 0, 0, 0)
theorem r_rowAt {prog : Program} {w : World} {A : Around} {E : Value → Shared → Prop} {s : Shared} {h₀ : Heap} {L l : Addr} {news news' : Led} {vs : List Value} {Q : Value → Shared → Prop} {value slice : PySem.Expr} {k : Int} {u : Tok} {n : Nat} {rs : List MvRow}
    (N : News h₀ L s.heap news) (hm : (l, listOf vs.toArray n) ∈ news) (hr : RowsIn news' vs rs) (h0 : 0 ≤ k) (hk : k < rs.length) (hz : rs.length < 1000)
    (h : ∀ a t1 t2 t3 t4, (a, tupOf [.int (rowAt rs k).1 t1, .int (rowAt rs k).2.1 t2, .int (rowAt rs k).2.2.1 t3, .int (rowAt rs k).2.2.2 t4]) ∈ news' → Q (.ref a) s)
    (hs : subscripted slice false (.ref l) (.int k u) = operate [.ref l, .int k u] (getItem (.ref l) (.int k u)) := by with_unfolding_all rfl) :
    wpAny (model prog w) A (subscriptTail value slice (.ref l) (.int k u)) Q E s := by
  have hk' : k.toNat < rs.length := (Int.toNat_lt h0).mpr hk
  obtain ⟨a, t1, t2, t3, t4, e, hm'⟩ := hr.2 k.toNat (rowAt rs k) (by rw [rowAt, List.getD_eq_getElem?_getD, List.getElem?_eq_getElem hk']; rfl)
  exact r_item N hm h0 (Int.lt_trans hk (lt_of_eq62 (Nat.lt_trans hz (by decide)))) e (h a t1 t2 t3 t4 hm') hs
theorem compEnd_mono {h₀ : Heap} {L : Addr} {m : Str → Option Value} {s₁ : Shared} {I : Addr} {oI : Obj} {C : Addr} {oC : Obj} {D : Addr} {oD : Obj} {S : Led → Prop} {rest rest' : Value → Led → Prop} {y : Value} {s₂ : Shared}
    (h : CompEnd h₀ L m s₁ I oI C oC D oD S rest y s₂) (k : ∀ news, rest y news → rest' y news) : CompEnd h₀ L m s₁ I oI C oC D oD S rest' y s₂ :=
  let ⟨h', tk, news', e, F, N, off, hS, r⟩ := h; ⟨h', tk, news', e, F, N, off, hS, k _ r⟩
section
variable {prog : Program} {w : World} {A : Around} {s : Shared} {h₀ : Heap} {L : Addr} {m : Str → Option Value} {env : Env}
  {ct elt : PySem.Expr} {x : Str} {scope : Scope} {cl : List (Str × Addr)} {S : Led → Prop} {P : Nat → Value → Prop} {Fin : List Value → Led → Prop} {Inv : Nat → List Value → Led → Prop} {n : Nat}
theorem rest_T (fin : ∀ ys news, Inv n ys news → Fin ys news)
    (turn : ∀ i ys news, i < n → Inv i ys news → ∀ v I oI C oC D m₂ h tk (E' : Value → Shared → Prop), P i v → NsObj oC m₂ → m₂ x = some v → Fr h₀ L h m → News h₀ L h ((I, oI) :: (C, oC) :: (D, lst ys) :: news) → Off3 I C D news → ((@Ne Nat I C) ∧ (@Ne Nat I D) ∧ (@Ne Nat C D)) →
      wpAny (model prog w) A (isTrue ct (compEnvC scope cl C env) (eval ct (compEnvC scope cl C env))) (fun ok s' => if ok = true then
        wpAny (model prog w) A (eval elt (compEnvC scope cl C env)) (CompEnd h₀ L m { s with heap := h, toks := tk } I oI C oC D (lst ys) S (fun y news' => Inv (i + 1) (ys ++ [y]) news')) E' s'
        else CompEnd h₀ L m { s with heap := h, toks := tk } I oI C oC D (lst ys) S (fun _ news' => Inv (i + 1) ys news') Value.none s') E' { s with heap := h, toks := tk }) :
    ∀ k i ys news, i + k = n → Inv i ys news → CompRestT prog w A h₀ L m env ct elt x scope cl s S P Fin k i ys news
  | 0, i, ys, news, e, hi => by
    have : i = n := by omega
    subst this
    exact fin _ _ hi
  | k + 1, i, ys, news, e, hi => fun v I oI C oC D m₂ h tk E' a1 a2 a3 a4 a5 a6 a7 => by
    refine wpAny_mono (turn i ys news (by omega) hi v I oI C oC D m₂ h tk E' a1 a2 a3 a4 a5 a6 a7) (fun ok s' q => ?_) fun _ _ z => z
    cases ok with
    | true =>
      simp only [if_true] at q ⊢
      exact wpAny_mono q (fun y s'' z => compEnd_mono z fun nw r => rest_T fin turn k (i + 1) _ nw (by omega) r) fun _ _ z => z
    | false =>
      simp only [Bool.false_eq_true, if_false] at q ⊢
      exact compEnd_mono q fun nw r => rest_T fin turn k (i + 1) _ nw (by omega) r
theorem rest_U (fin : ∀ ys news, Inv n ys news → Fin ys news)
    (turn : ∀ i ys news, i < n → Inv i ys news → ∀ v I oI C oC D m₂ h tk (E' : Value → Shared → Prop), P i v → NsObj oC m₂ → m₂ x = some v → Fr h₀ L h m → News h₀ L h ((I, oI) :: (C, oC) :: (D, lst ys) :: news) → Off3 I C D news → ((@Ne Nat I C) ∧ (@Ne Nat I D) ∧ (@Ne Nat C D)) →
      wpAny (model prog w) A (eval elt (compEnvC scope cl C env)) (CompEnd h₀ L m { s with heap := h, toks := tk } I oI C oC D (lst ys) S (fun y news' => Inv (i + 1) (ys ++ [y]) news')) E' { s with heap := h, toks := tk }) :
    ∀ k i ys news, i + k = n → Inv i ys news → CompRest prog w A h₀ L m env elt x scope cl s S P Fin k i ys news
  | 0, i, ys, news, e, hi => by
    have : i = n := by omega
    subst this
    exact fin _ _ hi
  | k + 1, i, ys, news, e, hi => fun v I oI C oC D m₂ h tk E' a1 a2 a3 a4 a5 a6 a7 =>
    wpAny_mono (turn i ys news (by omega) hi v I oI C oC D m₂ h tk E' a1 a2 a3 a4 a5 a6 a7) (fun _ _ q => compEnd_mono q fun nw r => rest_U fin turn k (i + 1) _ nw (by omega) r) fun _ _ z => z
end
end part_MC
section part_RX
open LCg LCt
section
variable {sc : Scope} {room : Nat}
noncomputable def Cx.calm (C : Cx sc room) (s : Shared) : Cx sc room := { C with s₀ := s, EE := fun _ _ => False, P := False, rai := fun x => x.elim, po := PassesOwn.never, pas := fun x => x.elim }
variable {C : Cx sc room} {m : Str → Option Value} {n : Led}
theorem r_mono {α : Type} {t : Sem α} {K K' : α → Led → Prop} (r : C.R m n t K) (k : ∀ v n, K v n → K' v n) : C.R m n t K' := fun h tk F N => r.to F N fun v h' tk' n' q F' N' => ⟨h', tk', n', rfl, F', N', k v n' q⟩
theorem calm_run {α : Type} {t : Sem α} {K : α → Led → Prop} {E : Value → Shared → Prop} {s : Shared} {h : Heap} {tk : Nat} {Q : α → Shared → Prop} (F : Fr C.g C.L h m) (N : News C.g C.L h n) (q : (C.calm s).R m n t K)
    (k : ∀ v h' tk' n', K v n' → Fr C.g C.L h' m → News C.g C.L h' n' → Q v { s with heap := h', toks := tk' }) : wpAny (model C.prog C.w) C.A t Q E { s with heap := h, toks := tk } :=
  wpAny_mono (q.to (C := C.calm s) F N k) (fun _ _ x => x) fun _ _ x => x.elim
section
variable {scope : Scope} {cl : List (Str × Addr)} {c : Addr} {env : Env} {x : Str} {v : Value} {pos : Pos} {K : Value → Led → Prop}
theorem x_own {o : Obj} {m₂ : Str → Option Value} (hm : (c, o) ∈ n) (ho : NsObj o m₂) (hv : m₂ x = some v) (q : K v n) (hk : (compEnvC scope cl c env).scope.kind = .function := by rfl) (hl : (compEnvC scope cl c env).kindOf x = some .local := by rfl) (hd : (x == Str.ofString "__debug__") = false := by rfl) :
    C.R m n (eval (.Name x pos) (compEnvC scope cl c env)) K := fun h tk F N => LCgL.ld_own N hm ho hv ⟨h, tk, n, rfl, F, N, q⟩ hk hl hd
theorem x_cell {a : Addr} {o : Obj} (hc : cl.lookup x = some a) (hm : (a, o) ∈ n) (hd : o.data = .cell (some v)) (q : K v n) (hk : (compEnvC scope cl c env).scope.kind = .function := by rfl) (hx : (compEnvC scope cl c env).kindOf x = some .cell := by rfl) (hb : (x == Str.ofString "__debug__") = false := by rfl) :
    C.R m n (eval (.Name x pos) (compEnvC scope cl c env)) K := fun h tk F N => kcf_cell N hc hm hd ⟨h, tk, n, rfl, F, N, q⟩ hk hx hb
theorem x_call {f : Str} {fp : Pos} {u : Value} {e : PySem.Expr} {es : List PySem.Expr} (hf : nsIn (hd.heap_39 C.w.params) mainGlobals f = some (some u)) (hv : keepIn (hd.heap_39 C.w.params) u = true) (hx : env.kindOf f = some .globalImplicit) (hg : env.globals = mainGlobals) (hk : env.scope.kind = .function) (hb : (f == Str.ofString "__debug__") = false)
    (he : starEach (e :: es) env = (false, eval e env) :: starEach es env) (hp : (backTo pos (starEach es env)).any (·.1) = false)
    (q : C.R m n (spliced (backTo pos (starEach (e :: es) env))) fun vs n1 => C.R m n1 (call u vs) K) : C.R m n (eval (.Call (.Name f fp) (e :: es) [] pos) env) K := fun h tk F N =>
  Call_ (nameG_K F C.X (topRead_of C.T) hf (callWith_K C.X hv (q.to F N fun vs h1 tk1 n1 q1 F1 N1 => ⟨Frag.In.keeps C.X (Fr.keep F1), q1 h1 tk1 F1 N1⟩) he hp) hg hk hx hb)
end
noncomputable def Cx.cEnd (_C : Cx sc room) (I c D : Addr) (oI o : Obj) (ys : List Value) (S : Led → Prop) (rest : Value → Led → Prop) (y : Value) (n' : Led) : Prop := ∃ n3, (∀ p ∈ (I, oI) :: (c, o) :: (D, lst ys) :: n3, p ∈ n') ∧ Off3 I c D n3 ∧ S n3 ∧ rest y n3
theorem comp_end {I c D : Addr} {oI o : Obj} {ys : List Value} {S : Led → Prop} {rest : Value → Led → Prop} {y : Value} {n' : Led} {s : Shared} {h : Heap} {tk : Nat} (k : C.cEnd I c D oI o ys S rest y n') (F : Fr C.g C.L h m) (N : News C.g C.L h n') :
    CompEnd C.g C.L m s I oI c o D (lst ys) S rest y { s with heap := h, toks := tk } := let ⟨n3, a, b, d, e⟩ := k; ⟨h, tk, n3, rfl, F, fun p hp => N p (a p hp), b, d, e⟩
noncomputable def Cx.turnsU (C : Cx sc room) (m : Str → Option Value) (elt : PySem.Expr) (x : Str) (scope : Scope) (cl : List (Str × Addr)) (k : Nat) (P : Nat → Value → Prop) (S : Led → Prop) (Inv : Nat → List Value → Led → Prop) : Prop :=
  ∀ (s : Shared) i ys n2 v I oI c o D m₂, i < k → Inv i ys n2 → P i v → NsObj o m₂ → m₂ x = some v → Off3 I c D n2 → (C.calm s).R m ((I, oI) :: (c, o) :: (D, lst ys) :: n2) (eval elt (compEnvC scope cl c C.env)) (C.cEnd I c D oI o ys S fun y n3 => Inv (i + 1) (ys ++ [y]) n3)
theorem turnsU_rest {elt : PySem.Expr} {x : Str} {scope : Scope} {cl : List (Str × Addr)} {k : Nat} {P : Nat → Value → Prop} {S : Led → Prop} {Inv : Nat → List Value → Led → Prop} {s : Shared} {Fin : List Value → Led → Prop} (t : C.turnsU m elt x scope cl k P S Inv) (h0 : Inv 0 [] n) (fin : ∀ ys n2, Inv k ys n2 → Fin ys n2) :
    CompRest C.prog C.w C.A C.g C.L m C.env elt x scope cl s S P Fin k 0 [] n :=
  rest_U fin (fun i ys n2 hi hI v I oI c o D m₂ h tk E' hP ho hx F N off _ => calm_run F N (t _ i ys n2 v I oI c o D m₂ hi hI hP ho hx off) fun y h' tk' n' e F' N' => comp_end e F' N') k 0 [] n (Nat.zero_add _) h0
theorem s_compL {elt iter : PySem.Expr} {x y : Str} {px py : Pos} {scope : Scope} {cl : List (Str × Addr)} {pos sp : Pos} {rest : List Stmt} {Q : Flow → (Str → Option Value) → Led → Prop}
    (hsw : swapsWith (.ListComp elt [⟨.Name x px, iter, [], 0⟩] scope pos) (some (.Name y py)) sp.line C.env = pure true)
    (hclos : closureFor scope C.env = pure cl) (hcell : ∀ z ∈ scope.names, z.2 ≠ .cell) (hkind : scope.kind = .function)
    (hnames : ∀ z ∈ scope.names, z.2 = .local → scope.names.lookup z.1 = some .local) (hx : scope.names.lookup x = some .local)
    (hy : sc.names.lookup y = some .local) (hs : ∀ x, foldedSetIterable iter C.env x = pure x) {l : Addr} {vs : List Value} {k : Nat} (Inv : Nat → List Value → Led → Prop)
    (q : C.E m n iter fun v n1 => v = .ref l ∧ (l, listOf (List.toArray vs) k) ∈ n1 ∧ Inv 0 [] n1) (hz : vs.length ≤ sizeLine) (turn : C.turnsU m elt x scope cl vs.length (fun i v => vs[i]? = some v) (fun nw => (l, listOf vs.toArray k) ∈ nw) Inv)
    (fin : ∀ ys n2 D, Inv vs.length ys n2 → Off1 D n2 → (let m' : Str → Option Value := fun z => if z = y then some (.ref D) else m z; C.S m' ((D, lst ys) :: n2) rest Q)) : C.S m n (.Assign [.Name y py] (.ListComp elt [⟨.Name x px, iter, [], 0⟩] scope pos) sp :: rest) Q := fun h tk F N => by
  have turn' : C.turnsU m elt x scope cl vs.length (fun i v => vs.toArray[i]? = some v) (SrcAt C.g l vs.toArray) Inv := fun s i ys n2 v I oI c o D m₂ hi hI hP ho hx off =>
    r_mono (turn s i ys n2 v I oI c o D m₂ hi hI ((List.getElem?_toArray ..).symm.trans hP) ho hx off) fun y n' ⟨n3, z⟩ => ⟨n3, z.1, z.2.1, .inr ⟨_, z.2.2.1, rfl, _, rfl⟩, z.2.2.2⟩
  exact wpAny_execs_cons (Assign_ListComp_U F rfl hsw hclos hcell hkind hnames hx (C.kind_of hy) (by show (sc.kind == _ || (sc.kind == _ && _)) = false; rw [C.hk]; rfl) (q.to F N fun v h1 tk1 n1 q1 F1 N1 => q1.1 ▸
    CompSrc.ledger (its := vs.toArray) (k := k) rfl F1 N1 q1.2.1 (by rw [List.size_toArray]; exact hz) fun g => by
      rw [List.size_toArray]
      exact turnsU_rest turn' q1.2.2 fun ys n2 hI D h tk F N off => fin ys n2 D hI off h tk F N) hs)
theorem x_range {np rp : Pos} {e : PySem.Expr} {Q : Value → Shared → Prop} (hf : nsIn (hd.heap_39 C.w.params) mainGlobals (Str.ofString "range") = some none) (hb : bootBuiltins (Str.ofString "range") = some (.type "range")) (hr : sc.names.lookup (Str.ofString "range") = some .globalImplicit)
    (he : starEach [e] C.env = (false, eval e C.env) :: starEach [] C.env) {h : Heap} {tk : Nat} (F : Fr C.g C.L h m) (N : News C.g C.L h n)
    (q : C.E m n e fun v n1 => ∃ k : Nat, (∃ t, v = .int (k : Int) t) ∧ ∀ r t₁ u₁ v₁ h2 tk2, Fr C.g C.L h2 m → News C.g C.L h2 n1 → IsRange h2 r 0 (k : Int) 1 t₁ u₁ v₁ → Q (.ref r) (C.st h2 tk2)) :
    wpAny (model C.prog C.w) C.A (eval (.Call (.Name (Str.ofString "range") np) [e] [] rp) C.env) Q C.EE (C.st h tk) :=
  Call_ (nameX_B F C.X (topRead_of C.T) hf hb (by decide) (by
    rw [he]
    refine PyProof.Rows.callWith_type rfl (Calls.evalArgs_plain ?_)
    show wpAny (model C.prog C.w) C.A (spliced (backTo rp ((false, eval e C.env) :: starEach [] C.env))) _ C.EE (C.st h tk)
    rw [← he]
    refine args_cons (q.to F N fun v h1 tk1 n1 q1 F1 N1 => args_nil ?_) he
    obtain ⟨k, ⟨t, rfl⟩, q1⟩ := q1
    exact range1_rows (s := C.st h1 tk1) F1 N1 fun h2 tk2 t₁ u₁ v₁ hr F2 N2 _ => q1 _ _ _ _ h2 tk2 F2 N2 hr) C.hk (C.kind_of hr) (by decide))
theorem e_compR {elt e : PySem.Expr} {x : Str} {px np rp : Pos} {scope : Scope} {cl : List (Str × Addr)} {pos : Pos} {K : Value → Led → Prop}
    (hclos : closureFor scope C.env = pure cl) (hcell : ∀ z ∈ scope.names, z.2 ≠ .cell) (hkind : scope.kind = .function)
    (hnames : ∀ z ∈ scope.names, z.2 = .local → scope.names.lookup z.1 = some .local) (hx : scope.names.lookup x = some .local)
    (hf : nsIn (hd.heap_39 C.w.params) mainGlobals (Str.ofString "range") = some none) (hb : bootBuiltins (Str.ofString "range") = some (.type "range")) (hr : sc.names.lookup (Str.ofString "range") = some .globalImplicit)
    (he : starEach [e] C.env = (false, eval e C.env) :: starEach [] C.env) (hs : ∀ x, foldedSetIterable (.Call (.Name (Str.ofString "range") np) [e] [] rp) C.env x = pure x)
    (q : C.E m n e fun v n1 => ∃ (k : Nat) (Inv : Nat → List Value → Led → Prop), (∃ t, v = .int (k : Int) t) ∧ k < 1000 ∧ Inv 0 [] n1 ∧ C.turnsU m elt x scope cl k (fun i v => ∃ t, v = .int (0 + (i : Int)) t) (fun _ => True) Inv ∧
      ∀ ys n2 D, Inv k ys n2 → Off1 D n2 → K (.ref D) ((D, lst ys) :: n2)) : C.E m n (.ListComp elt [⟨.Name x px, .Call (.Name (Str.ofString "range") np) [e] [] rp, [], 0⟩] scope pos) K := fun h tk F N =>
  ListComp_U F hclos hcell hkind hnames hx (x_range hf hb hr he F N (r_mono q fun v n1 ⟨k, Inv, e, hz, h0, turn, fin⟩ => ⟨k, e, fun r t₁ u₁ v₁ h2 tk2 F2 N2 R => CompSrc.range rfl F2 N2 R (range_ok hz).1 (range_ok hz).2 (Nat.le_trans (Nat.le_of_lt hz) (by decide)) fun g => turnsU_rest turn h0 fun ys n2 hI D h tk F N off => ⟨h, tk, _, rfl, F, N, fin ys n2 D hI off⟩⟩)) hs
noncomputable def Cx.turnsT (C : Cx sc room) (m : Str → Option Value) (ct elt : PySem.Expr) (x : Str) (scope : Scope) (cl : List (Str × Addr)) (k : Nat) (P : Nat → Value → Prop) (S : Led → Prop) (Inv : Nat → List Value → Led → Prop) : Prop :=
  ∀ (s : Shared) i ys n2 v I oI c o D m₂, i < k → Inv i ys n2 → P i v → NsObj o m₂ → m₂ x = some v → Off3 I c D n2 → (C.calm s).R m ((I, oI) :: (c, o) :: (D, lst ys) :: n2) (isTrue ct (compEnvC scope cl c C.env) (eval ct (compEnvC scope cl c C.env))) fun ok n3 =>
    (ok = true → (C.calm s).R m n3 (eval elt (compEnvC scope cl c C.env)) (C.cEnd I c D oI o ys S fun y n3 => Inv (i + 1) (ys ++ [y]) n3)) ∧ (ok = false → C.cEnd I c D oI o ys S (fun _ n3 => Inv (i + 1) ys n3) .none n3)
theorem turnsT_rest {ct elt : PySem.Expr} {x : Str} {scope : Scope} {cl : List (Str × Addr)} {k : Nat} {P : Nat → Value → Prop} {S : Led → Prop} {Inv : Nat → List Value → Led → Prop} {s : Shared} {Fin : List Value → Led → Prop} (t : C.turnsT m ct elt x scope cl k P S Inv) (h0 : Inv 0 [] n) (fin : ∀ ys n2, Inv k ys n2 → Fin ys n2) :
    CompRestT C.prog C.w C.A C.g C.L m C.env ct elt x scope cl s S P Fin k 0 [] n :=
  rest_T fin (fun i ys n2 hi hI v I oI c o D m₂ h tk E' hP ho hx F N off _ => calm_run F N (t _ i ys n2 v I oI c o D m₂ hi hI hP ho hx off) fun ok h' tk' n' e F' N' => by
    cases ok with
    | true => rw [if_pos rfl]; exact calm_run F' N' (e.1 rfl) fun y h' tk' n' e F' N' => comp_end e F' N'
    | false => rw [if_neg Bool.false_ne_true]; exact comp_end (e.2 rfl) F' N') k 0 [] n (Nat.zero_add _) h0
theorem e_compRT {ct elt e : PySem.Expr} {x : Str} {px np rp : Pos} {scope : Scope} {cl : List (Str × Addr)} {pos : Pos} {K : Value → Led → Prop}
    (hclos : closureFor scope C.env = pure cl) (hcell : ∀ z ∈ scope.names, z.2 ≠ .cell) (hkind : scope.kind = .function)
    (hnames : ∀ z ∈ scope.names, z.2 = .local → scope.names.lookup z.1 = some .local) (hx : scope.names.lookup x = some .local)
    (hf : nsIn (hd.heap_39 C.w.params) mainGlobals (Str.ofString "range") = some none) (hb : bootBuiltins (Str.ofString "range") = some (.type "range")) (hr : sc.names.lookup (Str.ofString "range") = some .globalImplicit)
    (he : starEach [e] C.env = (false, eval e C.env) :: starEach [] C.env) (hs : ∀ x, foldedSetIterable (.Call (.Name (Str.ofString "range") np) [e] [] rp) C.env x = pure x)
    {k : Nat} (hz : k < 1000) (Inv : Nat → List Value → Led → Prop) (q : C.E m n e fun v n1 => (∃ t, v = .int (k : Int) t) ∧ Inv 0 [] n1) (turn : C.turnsT m ct elt x scope cl k (fun i v => ∃ t, v = .int (0 + (i : Int)) t) (fun _ => True) Inv)
    (fin : ∀ ys n2 D, Inv k ys n2 → Off1 D n2 → K (.ref D) ((D, lst ys) :: n2)) : C.E m n (.ListComp elt [⟨.Name x px, .Call (.Name (Str.ofString "range") np) [e] [] rp, [ct], 0⟩] scope pos) K := fun h tk F N =>
  LCt.ListComp_T F hclos hcell hkind hnames hx (x_range hf hb hr he F N (r_mono q fun v n1 q1 => ⟨k, q1.1, fun r t₁ u₁ v₁ h2 tk2 F2 N2 R => LCt.CompSrcT.range rfl F2 N2 R (range_ok hz).1 (range_ok hz).2 (Nat.le_trans (Nat.le_of_lt hz) (by decide)) fun g => turnsT_rest turn q1.2 fun ys n2 hI D h tk F N off => ⟨h, tk, _, rfl, F, N, fin ys n2 D hI off⟩⟩)) hs
end
section
variable {prog : Program} {w : World} {f : Addr} {need : Nat} {news : Led} {vs : List Value} {R : Value → Led → Prop}
  {name qual : Str} {params : Arguments} {body : List Stmt} {scope : Scope} {dV kV doc pm cdv ct oc : Value} {an od : Option Addr} {osl : Array (Option Value)} {binds : List (Str × Value)}
theorem runs_conC (ho : (hd.heap_39 w.params).lookup f = some ⟨oc, od, .func (fnOf name qual params body scope dV kV doc pm an cdv ct), osl⟩) (hcd : codeIn (hd.heap_39 w.params) cdv qual = true)
    (run : ∀ (C : Cx scope need) (Q : Flow → (Str → Option Value) → Led → Prop) (cells : Led), C.prog = prog → C.w = w → C.cl = cellsFrom (C.L + 1) scope.names [] → (∀ p ∈ news, p.1 < C.L) → CellsAre (bindC C.env.kindOf binds fun _ => none) (cellsFrom (C.L + 1) scope.names []) cells → (∀ v m n n', R v n → (∀ p ∈ n, p ∈ n') → Q (.ret v) m n') →
      C.S (bindL C.env.kindOf binds fun _ => none) (cells ++ news) body Q)
    (hbind : ∀ s, BindsTo s (fnOf name qual params body scope dV kV doc pm an cdv ct) ⟨vs, []⟩ binds) (hkd : (binds.all fun y => scope.names.lookup y.1 == some .local || scope.names.lookup y.1 == some .cell) = true) (hnd : ∀ k, ((cellsFrom k scope.names []).map (·.1)).Nodup)
    (hco : scope.isCoroutine = false) (hgen : scope.isGenerator = false) (hk : scope.kind = .function) : Con prog w f (need + 1) news vs R := by
  intro p loose mean mg mb dp un gd cn cs a ccd cl outer A₀ base h₀ L m s Q E B F X N T hke hdp hun hret
  refine wpAny_call (code_defC B F X N T rfl rfl hke ho hcd (Nat.lt_of_le_of_lt (Nat.le_add_right _ _) hdp) (hbind _) hkd (hnd 0) (fun g L' h₁ tk cells FG F' N' Y B' X' T' l => ?_) hco hgen hk)
  let C : Cx scope need := {
    prog := prog, w := w
    dp := dp + 1, un := un + 3, gd := gd, name := qual, L := L', a := f, cd := cdv, cl := cellsFrom (L' + 1) scope.names [], outer := envX cn cs L a ccd cl :: outer, A₀ := ktrTop dp un gd cn cs L a ccd cl outer, base := base, g := g
    p := p, loose := loose, mean := mean, mg := mg, mb := mb, s₀ := s, n₀ := [], P := False, hk := hk, hdp := dp_in hdp, hun := un_in hun, B := B', X := X', T := T'
    EE := fun _ _ => False, rai := fun x => x.elim, po := PassesOwn.never, pas := fun x => x.elim }
  refine wpAny_mono (run C (fun fl _ n' => ∃ v n, fl = .ret v ∧ R v n ∧ ∀ p ∈ n, p ∈ n') cells rfl rfl rfl l Y (fun v _ n _ r z => ⟨v, n, rfl, r, z⟩) h₁ tk F' N') (fun fl s' z => ?_) fun _ _ x => x.elim
  obtain ⟨h, tk, m1, n1, rfl, F2, N2, v, n2, rfl, r, z⟩ := z
  exact leaveK_ F2 N2 fun F3 N3 => hret v n2 h tk F3 (fun p hp => N3 p (z p hp)) r
end
section
variable {sc : Scope} {room : Nat} {C : Cx sc room} {m : Str → Option Value} {n : Led} {K : Value → Led → Prop}
theorem e_cell {x : Str} {pos : Pos} {v : Value} {c : Addr} {o : Obj} (hx : sc.names.lookup x = some .cell) (hb : (x == Str.ofString "__debug__") = false) (hc : C.cl.lookup x = some c) (hm : (c, o) ∈ n) (hd : o.data = .cell (some v)) (q : K v n) : C.E m n (.Name x pos) K := fun h tk F N =>
  nameX_C N hc hm hd ⟨h, tk, n, rfl, F, N, q⟩ C.hk (C.kind_of hx) hb
theorem v_rowAt {value slice : PySem.Expr} {l : Addr} {news' : Led} {vs : List Value} {i : Int} {u : Tok} {k : Nat} {rs : List MvRow} (hm : (l, listOf vs.toArray k) ∈ n) (hr : RowsIn news' vs rs) (h0 : 0 ≤ i) (hk : i < rs.length) (hz : rs.length < 1000)
    (q : ∀ a t1 t2 t3 t4, (a, tupOf [.int (rowAt rs i).1 t1, .int (rowAt rs i).2.1 t2, .int (rowAt rs i).2.2.1 t3, .int (rowAt rs i).2.2.2 t4]) ∈ news' → K (.ref a) n)
    (hs : subscripted slice false (.ref l) (.int i u) = operate [.ref l, .int i u] (getItem (.ref l) (.int i u)) := by with_unfolding_all rfl) : C.R m n (subscriptTail value slice (.ref l) (.int i u)) K := fun h tk F N =>
  r_rowAt N hm hr h0 hk hz (fun a t1 t2 t3 t4 h1 => ⟨h, tk, n, rfl, F, N, q a t1 t2 t3 t4 h1⟩) hs
theorem b_eq3 {K : Bool → Led → Prop} {a b : Addr} {x1 x2 x3 y1 y2 y3 : Int} {t1 t2 t3 u1 u2 u3 : Tok} (ha : (a, tupOf [.int x1 t1, .int x2 t2, .int x3 t3]) ∈ n) (hb : (b, tupOf [.int y1 u1, .int y2 u2, .int y3 u3]) ∈ n) (hr : 10 ≤ room)
    (q : ∀ c, decide ((x1, x2, x3) = (y1, y2, y3)) = c → K c n) : C.R m n (compareOp .Eq (.ref a) (.ref b)) fun c n3 => ∃ z, c = .bool z ∧ K z n3 := fun h tk F N =>
  r_eq3 N ha hb (Nat.lt_of_le_of_lt (Nat.add_le_add_left (by omega) _) C.hun) fun c hc => ⟨h, tk, n, rfl, F, N, c, rfl, q c hc⟩
theorem b_isR {K : Bool → Led → Prop} {a : Addr} (q : K false n) : C.R m n (compareOp .Is (.ref a) .none) fun c n3 => ∃ z, c = .bool z ∧ K z n3 := fun h tk F N => wpAny_is_plain rfl ⟨h, tk, n, rfl, F, N, _, rfl, q⟩
theorem b_isN {K : Bool → Led → Prop} (q : K true n) : C.R m n (compareOp .Is .none .none) fun c n3 => ∃ z, c = .bool z ∧ K z n3 := fun h tk F N => wpAny_is_plain rfl ⟨h, tk, n, rfl, F, N, _, rfl, q⟩
theorem v_catL {a b : Addr} {us vs : List Value} {i j : Nat} (ha : (a, listOf us.toArray i) ∈ n) (hb : (b, listOf vs.toArray j) ∈ n) (hz : us.length + vs.length ≤ sizeLine) (q : ∀ D, (∀ p ∈ n, p.1 < D) → K (.ref D) ((D, listOf (us ++ vs).toArray 0) :: n)) : C.R m n (binaryOp .Add (.ref a) (.ref b)) K := fun h tk F N =>
  kmk_add_lit (its := us.toArray) (its2 := vs.toArray) (zs := us ++ vs) F N (isL N ha) (isL N hb) (by rfl) (fun D h' F' N' l => ⟨h', tk, _, rfl, F', N', q D l⟩) hz
theorem v_itemL {value slice : PySem.Expr} {l : Addr} {vs : List Value} {i : Int} {k : Nat} {v : Value} {u : Tok} (hm : (l, listOf vs.toArray k) ∈ n) (h0 : 0 ≤ i) (hz : i < 2 ^ 62) (hx : vs[i.toNat]? = some v) (q : K v n)
    (hs : subscripted slice false (.ref l) (.int i u) = operate [.ref l, .int i u] (getItem (.ref l) (.int i u)) := by with_unfolding_all rfl) : C.R m n (subscriptTail value slice (.ref l) (.int i u)) K := fun h tk F N =>
  r_item N hm h0 hz hx ⟨h, tk, n, rfl, F, N, q⟩ hs
end
end part_RX
section part_M14
open LCg LCt
noncomputable def pairHits (ps : List (MvRow × Int)) (t : Int × Int × Int) : List Int := (ps.filter fun p => decide ((p.1.1, p.1.2.1, p.1.2.2.2) = t)).map (·.2)
noncomputable def rowHits (rs : List MvRow) (ns : List Int) (t : Int × Int × Int) : List Int := pairHits (rs.zip ns) t
theorem pairHits_step {rs : List MvRow} {ns : List Int} {t : Int × Int × Int} {i : Nat} (hi : i < rs.length) (hl : ns.length = rs.length) :
    pairHits ((rs.zip ns).take (i + 1)) t = pairHits ((rs.zip ns).take i) t ++ if decide (((rowAt rs (0 + (i : Int))).1, (rowAt rs (0 + (i : Int))).2.1, (rowAt rs (0 + (i : Int))).2.2.2) = t) then [ns.getD ((0 : Int) + (i : Int)).toNat 0] else [] := by
  have e : ((0 : Int) + (i : Int)).toNat = i := (congrArg Int.toNat (Int.zero_add _)).trans (Int.toNat_natCast i)
  have hz : i < (rs.zip ns).length := by rw [List.length_zip, hl, Nat.min_self]; exact hi
  have e1 : rowAt rs (0 + (i : Int)) = rs[i] := by rw [rowAt, e, List.getD_eq_getElem?_getD, List.getElem?_eq_getElem hi]; rfl
  have e2 : ns.getD i 0 = ns[i]'(hl ▸ hi) := by rw [List.getD_eq_getElem?_getD, List.getElem?_eq_getElem (hl ▸ hi)]; rfl
  have e3 : (rs.zip ns)[i] = (rs[i], ns[i]'(hl ▸ hi)) := List.getElem_zip
  rw [List.take_succ_eq_append_getElem hz, e1, e, e2, e3]
  unfold pairHits
  rw [List.filter_append, List.map_append]
  congr 1
  simp only [List.filter_cons, List.filter_nil]
  split <;> rfl
theorem fhits_len {rs : List MvRow} {ns : List Int} {t : Int × Int × Int} (h : rs.length < 100) : (rowHits rs ns t).length < 200 := by
  unfold rowHits pairHits
  rw [List.length_map]
  have := List.length_filter_le (fun p : MvRow × Int => decide ((p.1.1, p.1.2.1, p.1.2.2.2) = t)) (rs.zip ns)
  rw [List.length_zip] at this
  exact Nat.lt_of_le_of_lt (Nat.le_trans this (Nat.min_le_left _ _)) (Nat.lt_trans h (by decide))
theorem fhits_all {rs : List MvRow} {ns : List Int} {t : Int × Int × Int} {k : Nat} (h : ns.length = rs.length) (hk : k = rs.length) : pairHits ((rs.zip ns).take k) t = rowHits rs ns t := by
  rw [List.take_of_length_le (by rw [List.length_zip]; exact hk ▸ Nat.min_le_left _ _)]; rfl
theorem fhits_yes {rs : List MvRow} {ns : List Int} {t : Int × Int × Int} {i : Nat} {ys : List Value} {u : Tok} (hi : i < rs.length) (hl : ns.length = rs.length) (h : IntsAre ys (pairHits ((rs.zip ns).take i) t)) (e : decide (((rowAt rs (0 + (i : Int))).1, (rowAt rs (0 + (i : Int))).2.1, (rowAt rs (0 + (i : Int))).2.2.2) = t) = true) :
    IntsAre (ys ++ [.int (ns.getD ((0 : Int) + (i : Int)).toNat 0) u]) (pairHits ((rs.zip ns).take (i + 1)) t) := by
  rw [pairHits_step hi hl, if_pos e]; exact h.append (.cons _ _ .nil)
theorem fhits_not {rs : List MvRow} {ns : List Int} {t : Int × Int × Int} {i : Nat} {ys : List Value} (hi : i < rs.length) (hl : ns.length = rs.length) (h : IntsAre ys (pairHits ((rs.zip ns).take i) t)) (e : decide (((rowAt rs (0 + (i : Int))).1, (rowAt rs (0 + (i : Int))).2.1, (rowAt rs (0 + (i : Int))).2.2.2) = t) = false) :
    IntsAre ys (pairHits ((rs.zip ns).take (i + 1)) t) := by
  rw [pairHits_step hi hl, e, if_neg Bool.false_ne_true, List.append_nil]; exact h
section
theorem c_first (prog : Program) (w : World) (news : Led) (na ra da : Addr) (nn rn : Nat) (nvs rvs : List Value) (ns : List Int) (rs : List MvRow) (o g pr : Int) (u1 u2 u3 : Tok)
    (hna : (na, listOf nvs.toArray nn) ∈ news) (hra : (ra, listOf rvs.toArray rn) ∈ news) (hda : (da, tupOf [.int o u1, .int g u2, .int pr u3]) ∈ news) (hn : IntsAre nvs ns) (hr : RowsIn news rvs rs) (hl : ns.length = rs.length) (hb : rs.length < 100) :
    Con prog w 210 12 news [.ref na, .ref ra, .ref da] (fun v nw => nw = news ∧ ((rowHits rs ns (o, g, pr) = [] ∧ v = .none) ∨ ∃ x r t, rowHits rs ns (o, g, pr) = x :: r ∧ v = .int x t)) := by
  have hrl := hr.1
  have hrz : rvs.length < 2 ^ 62 := by omega
  have hr1 : rs.length < 1000 := by omega
  have hnz : ns.length < 2 ^ 62 := by omega
  refine' runs_conC ?ho ?hcd ?run ?hbind ?hkd ?hnd ?hco ?hgen ?hk
  (case ho => k_is)
  (case hcd => k_is)
  (case hbind => exact fun _ => BindsTo.of_eq rfl)
  (case hkd => exact rfl)
  (case hco => exact rfl)
  (case hgen => exact rfl)
  (case hk => exact rfl)
  (case hnd => intro k; (show [Str.ofString "read", Str.ofString "rows", Str.ofString "numbers"].Nodup); decide +kernel)
  rintro C Q cells rfl rfl hcl hlow Y hQ
  obtain ⟨o1, o2, o3, rfl, d1, d2, d3⟩ := CellsAre.three Y
  clear Y
  replace d1 : o1.data = .cell (some (.ref da)) := d1
  replace d2 : o2.data = .cell (some (.ref ra)) := d2
  replace d3 : o3.data = .cell (some (.ref na)) := d3
  have c1 : C.cl.lookup (Str.ofString "read") = some (C.L + 1 + 1 + 1) := by rw [hcl]; rfl
  have c2 : C.cl.lookup (Str.ofString "rows") = some (C.L + 1 + 1) := by rw [hcl]; rfl
  have c3 : C.cl.lookup (Str.ofString "numbers") = some (C.L + 1) := by rw [hcl]; rfl
  replace hcl : C.cl = [(Str.ofString "read", C.L + 1 + 1 + 1), (Str.ofString "rows", C.L + 1 + 1), (Str.ofString "numbers", C.L + 1)] := hcl
  have hE : C.env = envX C.name _ C.L C.a C.cd C.cl := rfl
  rw [hcl] at hE
  refine s_let ?_
  intro m0
  generalize C.L + 1 + 1 + 1 = a1 at c1 hE ⊢
  generalize C.L + 1 + 1 = a2 at c2 hE ⊢
  generalize C.L + 1 = a3 at c3 hE ⊢
  clear hcl hlow
  refine (show ∀ n0 : Led, (a1, o1) ∈ n0 → (a2, o2) ∈ n0 → (a3, o3) ∈ n0 → (na, listOf nvs.toArray nn) ∈ n0 → (ra, listOf rvs.toArray rn) ∈ n0 → (da, tupOf [.int o u1, .int g u2, .int pr u3]) ∈ n0 → RowsIn n0 rvs rs → (∀ p ∈ news, p ∈ n0) → C.S m0 n0 _ Q from ?_) _ (.head _) (.tail _ (.head _)) (.tail _ (.tail _ (.head _))) (.tail _ (.tail _ (.tail _ hna))) (.tail _ (.tail _ (.tail _ hra))) (.tail _ (.tail _ (.tail _ hda))) (hr.mono fun p hp => .tail _ (.tail _ (.tail _ hp))) fun p hp => .tail _ (.tail _ (.tail _ hp))
  clear hna hra hda hr
  intro n0 n1 n2 n3 hna hra hda hr sub
  (repeat' (first | with_reducible intro _ | ((with_reducible refine' l_plain fun _ => ?_); (with_unfolding_all change Cx.R _ _ _ _ _)) | (with_reducible refine s_return ?_) | ((with_reducible refine s_if ?_); intro kc) | (with_reducible refine s_skip ?_) | ((with_reducible refine at_false ?_); (try clear kc)) | (with_reducible refine e_int fun _ => ?_) | (with_reducible refine e_bin ?_) | (with_reducible refine l_nil ?_) | ((with_reducible refine' t_cmp ?_ ?km_32); (case km_32 => exact rfl)) | ((with_reducible refine' l_cons ?_ ?ke_32); (case ke_32 => exact rfl)) | (with_reducible refine e_sub ?_) | ((with_reducible refine' e_builtin1 ?kf_32 ?kx_32 ?kb_32 ?kv_32 ?kn_32 ?_ ?kh_32); (case kf_32 => k_is); (case kx_32 => exact rfl); (case kb_32 => exact rfl); (case kv_32 => boot_fast); (case kn_32 => decide); (case kh_32 => exact rfl)) | (with_reducible refine ⟨_, _, rfl, ?_⟩) | ((with_reducible refine' e_cell ?kx_32 ?kb_32 ?kc_32 ?km_32 ?kd_32 ?_); (case kx_32 => exact rfl); (case kb_32 => exact rfl); (case kc_32 => assumption); (case km_32 => k_mem); (case kd_32 => assumption)) | ((with_reducible refine' x_cell ?kc_32 ?km_32 ?kd_32 ?_ ?kk_32 ?kx_32 ?kb_32); (case kx_32 => exact rfl); (case kk_32 => exact rfl); (case kb_32 => exact rfl); (case kc_32 => exact rfl); (case km_32 => k_mem); (case kd_32 => assumption)) | ((with_reducible refine' x_own ?km_32 ?ko_32 ?kv_32 ?_ ?kk_32 ?kl_32 ?kb_32); (case kl_32 => exact rfl); (case kk_32 => exact rfl); (case kb_32 => exact rfl); (case ko_32 => assumption); (case kv_32 => assumption); (case km_32 => k_mem)) | (with_reducible refine e_none ?_) | (with_reducible refine b_isR ?_) | ((with_reducible refine' v_lenL ?km_32 ?kz_32 (fun _ => ?_)); (case km_32 => k_mem); (case kz_32 => assumption)) | ((with_reducible refine' v_tupItem ?km_32 ?k0_32 ?k1_32 ?kx_32 ?_ ?kd_32); (case kd_32 => with_unfolding_all rfl); (case km_32 => k_mem); (case k0_32 => decide); (case k1_32 => decide); (case kx_32 => exact rfl)) | ((with_reducible refine' v_rowAt ?km_32 ?kr_32 ?k0_32 ?k1_32 ?kz_32 (fun _ _ _ _ _ _ => ?_) ?kd_32); (case kd_32 => with_unfolding_all rfl); (case km_32 => k_mem); (case kr_32 => assumption); (case k0_32 => assumption); (case k1_32 => assumption); (case kz_32 => assumption)) | ((with_reducible refine' v_itemI ?km_32 ?ki_32 ?k0_32 ?k1_32 ?k2_32 (fun _ => ?_) ?kd_32); (case kd_32 => with_unfolding_all rfl); (case km_32 => k_mem); (case ki_32 => assumption); (case k0_32 => assumption); (case k1_32 => assumption); (case k2_32 => assumption)) | ((with_reducible refine' b_eq3 ?km_32 ?kn_32 ?kr_32 (fun _ _ => ?_)); (case km_32 => k_mem); (case kn_32 => k_mem); (case kr_32 => decide)) | ((with_reducible refine' v_catL ?km_32 ?kn_32 ?kz_32 (fun _ _ => ?_)); (case km_32 => k_mem); (case kn_32 => k_mem); (case kz_32 => assumption)) | ((with_reducible refine' v_itemL ?km_32 ?k0_32 ?kz_32 ?kx_32 ?_ ?kd_32); (case kd_32 => with_unfolding_all rfl); (case km_32 => k_mem); (case k0_32 => decide); (case kz_32 => decide); (case kx_32 => exact rfl)) | (with_reducible refine e_tuple ?_) | ((with_reducible refine' v_tuple ?kz_32 fun _ _ => ?_); (case kz_32 => exact Nat.le_of_ble_eq_true rfl)) | (with_reducible refine e_list ?_) | ((with_reducible refine' v_list ?kz_32 fun _ _ => ?_); (case kz_32 => exact Nat.le_of_ble_eq_true rfl)) | fail))
  refine' e_compRT ?hclos ?hcell ?hkind ?hnames ?hx ?hf ?hb ?hr ?he ?hs (k := rvs.length) (hrl ▸ hr1) (fun i ys nw => nw = n0 ∧ IntsAre ys (pairHits ((rs.zip ns).take i) (o, g, pr))) ?_ ?_ ?_
  (case hclos => (rw [hE]; with_unfolding_all rfl))
  (case hcell => decide)
  (case hkind => exact rfl)
  (case hnames => decide)
  (case hx => exact rfl)
  (case hf => k_is)
  (case hb => boot_fast)
  (case hr => exact rfl)
  (case he => exact rfl)
  (case hs => exact fun _ => rfl)
  · (repeat' (first | with_reducible intro _ | ((with_reducible refine' l_plain fun _ => ?_); (with_unfolding_all change Cx.R _ _ _ _ _)) | (with_reducible refine s_return ?_) | ((with_reducible refine s_if ?_); intro kc) | (with_reducible refine s_skip ?_) | ((with_reducible refine at_false ?_); (try clear kc)) | (with_reducible refine e_int fun _ => ?_) | (with_reducible refine e_bin ?_) | (with_reducible refine l_nil ?_) | ((with_reducible refine' t_cmp ?_ ?km_33); (case km_33 => exact rfl)) | ((with_reducible refine' l_cons ?_ ?ke_33); (case ke_33 => exact rfl)) | (with_reducible refine e_sub ?_) | ((with_reducible refine' e_builtin1 ?kf_33 ?kx_33 ?kb_33 ?kv_33 ?kn_33 ?_ ?kh_33); (case kf_33 => k_is); (case kx_33 => exact rfl); (case kb_33 => exact rfl); (case kv_33 => boot_fast); (case kn_33 => decide); (case kh_33 => exact rfl)) | (with_reducible refine ⟨_, _, rfl, ?_⟩) | ((with_reducible refine' e_cell ?kx_33 ?kb_33 ?kc_33 ?km_33 ?kd_33 ?_); (case kx_33 => exact rfl); (case kb_33 => exact rfl); (case kc_33 => assumption); (case km_33 => k_mem); (case kd_33 => assumption)) | ((with_reducible refine' x_cell ?kc_33 ?km_33 ?kd_33 ?_ ?kk_33 ?kx_33 ?kb_33); (case kx_33 => exact rfl); (case kk_33 => exact rfl); (case kb_33 => exact rfl); (case kc_33 => exact rfl); (case km_33 => k_mem); (case kd_33 => assumption)) | ((with_reducible refine' x_own ?km_33 ?ko_33 ?kv_33 ?_ ?kk_33 ?kl_33 ?kb_33); (case kl_33 => exact rfl); (case kk_33 => exact rfl); (case kb_33 => exact rfl); (case ko_33 => assumption); (case kv_33 => assumption); (case km_33 => k_mem)) | (with_reducible refine e_none ?_) | (with_reducible refine b_isR ?_) | ((with_reducible refine' v_lenL ?km_33 ?kz_33 (fun _ => ?_)); (case km_33 => k_mem); (case kz_33 => assumption)) | ((with_reducible refine' v_tupItem ?km_33 ?k0_33 ?k1_33 ?kx_33 ?_ ?kd_33); (case kd_33 => with_unfolding_all rfl); (case km_33 => k_mem); (case k0_33 => decide); (case k1_33 => decide); (case kx_33 => exact rfl)) | ((with_reducible refine' v_rowAt ?km_33 ?kr_33 ?k0_33 ?k1_33 ?kz_33 (fun _ _ _ _ _ _ => ?_) ?kd_33); (case kd_33 => with_unfolding_all rfl); (case km_33 => k_mem); (case kr_33 => assumption); (case k0_33 => assumption); (case k1_33 => assumption); (case kz_33 => assumption)) | ((with_reducible refine' v_itemI ?km_33 ?ki_33 ?k0_33 ?k1_33 ?k2_33 (fun _ => ?_) ?kd_33); (case kd_33 => with_unfolding_all rfl); (case km_33 => k_mem); (case ki_33 => assumption); (case k0_33 => assumption); (case k1_33 => assumption); (case k2_33 => assumption)) | ((with_reducible refine' b_eq3 ?km_33 ?kn_33 ?kr_33 (fun _ _ => ?_)); (case km_33 => k_mem); (case kn_33 => k_mem); (case kr_33 => decide)) | ((with_reducible refine' v_catL ?km_33 ?kn_33 ?kz_33 (fun _ _ => ?_)); (case km_33 => k_mem); (case kn_33 => k_mem); (case kz_33 => assumption)) | ((with_reducible refine' v_itemL ?km_33 ?k0_33 ?kz_33 ?kx_33 ?_ ?kd_33); (case kd_33 => with_unfolding_all rfl); (case km_33 => k_mem); (case k0_33 => decide); (case kz_33 => decide); (case kx_33 => exact rfl)) | (with_reducible refine e_tuple ?_) | ((with_reducible refine' v_tuple ?kz_33 fun _ _ => ?_); (case kz_33 => exact Nat.le_of_ble_eq_true rfl)) | (with_reducible refine e_list ?_) | ((with_reducible refine' v_list ?kz_33 fun _ _ => ?_); (case kz_33 => exact Nat.le_of_ble_eq_true rfl)) | fail))
    exact ⟨⟨_, rfl⟩, rfl, .nil⟩
  · rintro s i ys _ v I oI c oc D m₂ hi ⟨rfl, hys⟩ ⟨t, rfl⟩ ho hx off
    have i0 : (0 : Int) ≤ 0 + (i : Int) := by omega
    have i1 : (0 : Int) + (i : Int) < rs.length := by omega
    have i2 : (0 : Int) + (i : Int) < ns.length := by omega
    have ir : i < rs.length := hrl ▸ hi
    (repeat' (first | with_reducible intro _ | ((with_reducible refine' l_plain fun _ => ?_); (with_unfolding_all change Cx.R _ _ _ _ _)) | (with_reducible refine s_return ?_) | ((with_reducible refine s_if ?_); intro kc) | (with_reducible refine s_skip ?_) | ((with_reducible refine at_false ?_); (try clear kc)) | (with_reducible refine e_int fun _ => ?_) | (with_reducible refine e_bin ?_) | (with_reducible refine l_nil ?_) | ((with_reducible refine' t_cmp ?_ ?km_34); (case km_34 => exact rfl)) | ((with_reducible refine' l_cons ?_ ?ke_34); (case ke_34 => exact rfl)) | (with_reducible refine e_sub ?_) | ((with_reducible refine' e_builtin1 ?kf_34 ?kx_34 ?kb_34 ?kv_34 ?kn_34 ?_ ?kh_34); (case kf_34 => k_is); (case kx_34 => exact rfl); (case kb_34 => exact rfl); (case kv_34 => boot_fast); (case kn_34 => decide); (case kh_34 => exact rfl)) | (with_reducible refine ⟨_, _, rfl, ?_⟩) | ((with_reducible refine' e_cell ?kx_34 ?kb_34 ?kc_34 ?km_34 ?kd_34 ?_); (case kx_34 => exact rfl); (case kb_34 => exact rfl); (case kc_34 => assumption); (case km_34 => k_mem); (case kd_34 => assumption)) | ((with_reducible refine' x_cell ?kc_34 ?km_34 ?kd_34 ?_ ?kk_34 ?kx_34 ?kb_34); (case kx_34 => exact rfl); (case kk_34 => exact rfl); (case kb_34 => exact rfl); (case kc_34 => exact rfl); (case km_34 => k_mem); (case kd_34 => assumption)) | ((with_reducible refine' x_own ?km_34 ?ko_34 ?kv_34 ?_ ?kk_34 ?kl_34 ?kb_34); (case kl_34 => exact rfl); (case kk_34 => exact rfl); (case kb_34 => exact rfl); (case ko_34 => assumption); (case kv_34 => assumption); (case km_34 => k_mem)) | (with_reducible refine e_none ?_) | (with_reducible refine b_isR ?_) | ((with_reducible refine' v_lenL ?km_34 ?kz_34 (fun _ => ?_)); (case km_34 => k_mem); (case kz_34 => assumption)) | ((with_reducible refine' v_tupItem ?km_34 ?k0_34 ?k1_34 ?kx_34 ?_ ?kd_34); (case kd_34 => with_unfolding_all rfl); (case km_34 => k_mem); (case k0_34 => decide); (case k1_34 => decide); (case kx_34 => exact rfl)) | ((with_reducible refine' v_rowAt ?km_34 ?kr_34 ?k0_34 ?k1_34 ?kz_34 (fun _ _ _ _ _ _ => ?_) ?kd_34); (case kd_34 => with_unfolding_all rfl); (case km_34 => k_mem); (case kr_34 => assumption); (case k0_34 => assumption); (case k1_34 => assumption); (case kz_34 => assumption)) | ((with_reducible refine' v_itemI ?km_34 ?ki_34 ?k0_34 ?k1_34 ?k2_34 (fun _ => ?_) ?kd_34); (case kd_34 => with_unfolding_all rfl); (case km_34 => k_mem); (case ki_34 => assumption); (case k0_34 => assumption); (case k1_34 => assumption); (case k2_34 => assumption)) | ((with_reducible refine' b_eq3 ?km_34 ?kn_34 ?kr_34 (fun _ _ => ?_)); (case km_34 => k_mem); (case kn_34 => k_mem); (case kr_34 => decide)) | ((with_reducible refine' v_catL ?km_34 ?kn_34 ?kz_34 (fun _ _ => ?_)); (case km_34 => k_mem); (case kn_34 => k_mem); (case kz_34 => assumption)) | ((with_reducible refine' v_itemL ?km_34 ?k0_34 ?kz_34 ?kx_34 ?_ ?kd_34); (case kd_34 => with_unfolding_all rfl); (case km_34 => k_mem); (case k0_34 => decide); (case kz_34 => decide); (case kx_34 => exact rfl)) | (with_reducible refine e_tuple ?_) | ((with_reducible refine' v_tuple ?kz_34 fun _ _ => ?_); (case kz_34 => exact Nat.le_of_ble_eq_true rfl)) | (with_reducible refine e_list ?_) | ((with_reducible refine' v_list ?kz_34 fun _ _ => ?_); (case kz_34 => exact Nat.le_of_ble_eq_true rfl)) | fail))
    rename_i q8
    refine And.intro (fun e8 => ?_) (fun e8 => ?_)
    · subst e8
      (repeat' (first | with_reducible intro _ | ((with_reducible refine' l_plain fun _ => ?_); (with_unfolding_all change Cx.R _ _ _ _ _)) | (with_reducible refine s_return ?_) | ((with_reducible refine s_if ?_); intro kc) | (with_reducible refine s_skip ?_) | ((with_reducible refine at_false ?_); (try clear kc)) | (with_reducible refine e_int fun _ => ?_) | (with_reducible refine e_bin ?_) | (with_reducible refine l_nil ?_) | ((with_reducible refine' t_cmp ?_ ?km_35); (case km_35 => exact rfl)) | ((with_reducible refine' l_cons ?_ ?ke_35); (case ke_35 => exact rfl)) | (with_reducible refine e_sub ?_) | ((with_reducible refine' e_builtin1 ?kf_35 ?kx_35 ?kb_35 ?kv_35 ?kn_35 ?_ ?kh_35); (case kf_35 => k_is); (case kx_35 => exact rfl); (case kb_35 => exact rfl); (case kv_35 => boot_fast); (case kn_35 => decide); (case kh_35 => exact rfl)) | (with_reducible refine ⟨_, _, rfl, ?_⟩) | ((with_reducible refine' e_cell ?kx_35 ?kb_35 ?kc_35 ?km_35 ?kd_35 ?_); (case kx_35 => exact rfl); (case kb_35 => exact rfl); (case kc_35 => assumption); (case km_35 => k_mem); (case kd_35 => assumption)) | ((with_reducible refine' x_cell ?kc_35 ?km_35 ?kd_35 ?_ ?kk_35 ?kx_35 ?kb_35); (case kx_35 => exact rfl); (case kk_35 => exact rfl); (case kb_35 => exact rfl); (case kc_35 => exact rfl); (case km_35 => k_mem); (case kd_35 => assumption)) | ((with_reducible refine' x_own ?km_35 ?ko_35 ?kv_35 ?_ ?kk_35 ?kl_35 ?kb_35); (case kl_35 => exact rfl); (case kk_35 => exact rfl); (case kb_35 => exact rfl); (case ko_35 => assumption); (case kv_35 => assumption); (case km_35 => k_mem)) | (with_reducible refine e_none ?_) | (with_reducible refine b_isR ?_) | ((with_reducible refine' v_lenL ?km_35 ?kz_35 (fun _ => ?_)); (case km_35 => k_mem); (case kz_35 => assumption)) | ((with_reducible refine' v_tupItem ?km_35 ?k0_35 ?k1_35 ?kx_35 ?_ ?kd_35); (case kd_35 => with_unfolding_all rfl); (case km_35 => k_mem); (case k0_35 => decide); (case k1_35 => decide); (case kx_35 => exact rfl)) | ((with_reducible refine' v_rowAt ?km_35 ?kr_35 ?k0_35 ?k1_35 ?kz_35 (fun _ _ _ _ _ _ => ?_) ?kd_35); (case kd_35 => with_unfolding_all rfl); (case km_35 => k_mem); (case kr_35 => assumption); (case k0_35 => assumption); (case k1_35 => assumption); (case kz_35 => assumption)) | ((with_reducible refine' v_itemI ?km_35 ?ki_35 ?k0_35 ?k1_35 ?k2_35 (fun _ => ?_) ?kd_35); (case kd_35 => with_unfolding_all rfl); (case km_35 => k_mem); (case ki_35 => assumption); (case k0_35 => assumption); (case k1_35 => assumption); (case k2_35 => assumption)) | ((with_reducible refine' b_eq3 ?km_35 ?kn_35 ?kr_35 (fun _ _ => ?_)); (case km_35 => k_mem); (case kn_35 => k_mem); (case kr_35 => decide)) | ((with_reducible refine' v_catL ?km_35 ?kn_35 ?kz_35 (fun _ _ => ?_)); (case km_35 => k_mem); (case kn_35 => k_mem); (case kz_35 => assumption)) | ((with_reducible refine' v_itemL ?km_35 ?k0_35 ?kz_35 ?kx_35 ?_ ?kd_35); (case kd_35 => with_unfolding_all rfl); (case km_35 => k_mem); (case k0_35 => decide); (case kz_35 => decide); (case kx_35 => exact rfl)) | (with_reducible refine e_tuple ?_) | ((with_reducible refine' v_tuple ?kz_35 fun _ _ => ?_); (case kz_35 => exact Nat.le_of_ble_eq_true rfl)) | (with_reducible refine e_list ?_) | ((with_reducible refine' v_list ?kz_35 fun _ _ => ?_); (case kz_35 => exact Nat.le_of_ble_eq_true rfl)) | fail))
      exact ⟨_, fun p hp => .tail _ hp, off, trivial, rfl, fhits_yes ir hl hys q8⟩
    · subst e8
      exact ⟨_, fun p hp => .tail _ hp, off, trivial, rfl, fhits_not ir hl hys q8⟩
  · rintro ys _ D ⟨rfl, hys⟩ off
    rw [fhits_all hl hrl] at hys
    have hz := fhits_len (ns := ns) (t := (o, g, pr)) hb
    have hyl := hys.length
    have hyz : ys.length + [Value.none].length ≤ sizeLine := by rw [sizeLine_eq]; (show ys.length + 1 ≤ _); omega
    (repeat' (first | with_reducible intro _ | ((with_reducible refine' l_plain fun _ => ?_); (with_unfolding_all change Cx.R _ _ _ _ _)) | (with_reducible refine s_return ?_) | ((with_reducible refine s_if ?_); intro kc) | (with_reducible refine s_skip ?_) | ((with_reducible refine at_false ?_); (try clear kc)) | (with_reducible refine e_int fun _ => ?_) | (with_reducible refine e_bin ?_) | (with_reducible refine l_nil ?_) | ((with_reducible refine' t_cmp ?_ ?km_36); (case km_36 => exact rfl)) | ((with_reducible refine' l_cons ?_ ?ke_36); (case ke_36 => exact rfl)) | (with_reducible refine e_sub ?_) | ((with_reducible refine' e_builtin1 ?kf_36 ?kx_36 ?kb_36 ?kv_36 ?kn_36 ?_ ?kh_36); (case kf_36 => k_is); (case kx_36 => exact rfl); (case kb_36 => exact rfl); (case kv_36 => boot_fast); (case kn_36 => decide); (case kh_36 => exact rfl)) | (with_reducible refine ⟨_, _, rfl, ?_⟩) | ((with_reducible refine' e_cell ?kx_36 ?kb_36 ?kc_36 ?km_36 ?kd_36 ?_); (case kx_36 => exact rfl); (case kb_36 => exact rfl); (case kc_36 => assumption); (case km_36 => k_mem); (case kd_36 => assumption)) | ((with_reducible refine' x_cell ?kc_36 ?km_36 ?kd_36 ?_ ?kk_36 ?kx_36 ?kb_36); (case kx_36 => exact rfl); (case kk_36 => exact rfl); (case kb_36 => exact rfl); (case kc_36 => exact rfl); (case km_36 => k_mem); (case kd_36 => assumption)) | ((with_reducible refine' x_own ?km_36 ?ko_36 ?kv_36 ?_ ?kk_36 ?kl_36 ?kb_36); (case kl_36 => exact rfl); (case kk_36 => exact rfl); (case kb_36 => exact rfl); (case ko_36 => assumption); (case kv_36 => assumption); (case km_36 => k_mem)) | (with_reducible refine e_none ?_) | (with_reducible refine b_isR ?_) | ((with_reducible refine' v_lenL ?km_36 ?kz_36 (fun _ => ?_)); (case km_36 => k_mem); (case kz_36 => assumption)) | ((with_reducible refine' v_tupItem ?km_36 ?k0_36 ?k1_36 ?kx_36 ?_ ?kd_36); (case kd_36 => with_unfolding_all rfl); (case km_36 => k_mem); (case k0_36 => decide); (case k1_36 => decide); (case kx_36 => exact rfl)) | ((with_reducible refine' v_rowAt ?km_36 ?kr_36 ?k0_36 ?k1_36 ?kz_36 (fun _ _ _ _ _ _ => ?_) ?kd_36); (case kd_36 => with_unfolding_all rfl); (case km_36 => k_mem); (case kr_36 => assumption); (case k0_36 => assumption); (case k1_36 => assumption); (case kz_36 => assumption)) | ((with_reducible refine' v_itemI ?km_36 ?ki_36 ?k0_36 ?k1_36 ?k2_36 (fun _ => ?_) ?kd_36); (case kd_36 => with_unfolding_all rfl); (case km_36 => k_mem); (case ki_36 => assumption); (case k0_36 => assumption); (case k1_36 => assumption); (case k2_36 => assumption)) | ((with_reducible refine' b_eq3 ?km_36 ?kn_36 ?kr_36 (fun _ _ => ?_)); (case km_36 => k_mem); (case kn_36 => k_mem); (case kr_36 => decide)) | ((with_reducible refine' v_catL ?km_36 ?kn_36 ?kz_36 (fun _ _ => ?_)); (case km_36 => k_mem); (case kn_36 => k_mem); (case kz_36 => assumption)) | ((with_reducible refine' v_itemL ?km_36 ?k0_36 ?kz_36 ?kx_36 ?_ ?kd_36); (case kd_36 => with_unfolding_all rfl); (case km_36 => k_mem); (case k0_36 => decide); (case kz_36 => decide); (case kx_36 => exact rfl)) | (with_reducible refine e_tuple ?_) | ((with_reducible refine' v_tuple ?kz_36 fun _ _ => ?_); (case kz_36 => exact Nat.le_of_ble_eq_true rfl)) | (with_reducible refine e_list ?_) | ((with_reducible refine' v_list ?kz_36 fun _ _ => ?_); (case kz_36 => exact Nat.le_of_ble_eq_true rfl)) | fail))
    cases hp9 : rowHits rs ns (o, g, pr) with
    | nil =>
      rw [hp9] at hys
      cases hys.nil_inv
      (repeat' (first | with_reducible intro _ | ((with_reducible refine' l_plain fun _ => ?_); (with_unfolding_all change Cx.R _ _ _ _ _)) | (with_reducible refine s_return ?_) | ((with_reducible refine s_if ?_); intro kc) | (with_reducible refine s_skip ?_) | ((with_reducible refine at_false ?_); (try clear kc)) | (with_reducible refine e_int fun _ => ?_) | (with_reducible refine e_bin ?_) | (with_reducible refine l_nil ?_) | ((with_reducible refine' t_cmp ?_ ?km_37); (case km_37 => exact rfl)) | ((with_reducible refine' l_cons ?_ ?ke_37); (case ke_37 => exact rfl)) | (with_reducible refine e_sub ?_) | ((with_reducible refine' e_builtin1 ?kf_37 ?kx_37 ?kb_37 ?kv_37 ?kn_37 ?_ ?kh_37); (case kf_37 => k_is); (case kx_37 => exact rfl); (case kb_37 => exact rfl); (case kv_37 => boot_fast); (case kn_37 => decide); (case kh_37 => exact rfl)) | (with_reducible refine ⟨_, _, rfl, ?_⟩) | ((with_reducible refine' e_cell ?kx_37 ?kb_37 ?kc_37 ?km_37 ?kd_37 ?_); (case kx_37 => exact rfl); (case kb_37 => exact rfl); (case kc_37 => assumption); (case km_37 => k_mem); (case kd_37 => assumption)) | ((with_reducible refine' x_cell ?kc_37 ?km_37 ?kd_37 ?_ ?kk_37 ?kx_37 ?kb_37); (case kx_37 => exact rfl); (case kk_37 => exact rfl); (case kb_37 => exact rfl); (case kc_37 => exact rfl); (case km_37 => k_mem); (case kd_37 => assumption)) | ((with_reducible refine' x_own ?km_37 ?ko_37 ?kv_37 ?_ ?kk_37 ?kl_37 ?kb_37); (case kl_37 => exact rfl); (case kk_37 => exact rfl); (case kb_37 => exact rfl); (case ko_37 => assumption); (case kv_37 => assumption); (case km_37 => k_mem)) | (with_reducible refine e_none ?_) | (with_reducible refine b_isR ?_) | ((with_reducible refine' v_lenL ?km_37 ?kz_37 (fun _ => ?_)); (case km_37 => k_mem); (case kz_37 => assumption)) | ((with_reducible refine' v_tupItem ?km_37 ?k0_37 ?k1_37 ?kx_37 ?_ ?kd_37); (case kd_37 => with_unfolding_all rfl); (case km_37 => k_mem); (case k0_37 => decide); (case k1_37 => decide); (case kx_37 => exact rfl)) | ((with_reducible refine' v_rowAt ?km_37 ?kr_37 ?k0_37 ?k1_37 ?kz_37 (fun _ _ _ _ _ _ => ?_) ?kd_37); (case kd_37 => with_unfolding_all rfl); (case km_37 => k_mem); (case kr_37 => assumption); (case k0_37 => assumption); (case k1_37 => assumption); (case kz_37 => assumption)) | ((with_reducible refine' v_itemI ?km_37 ?ki_37 ?k0_37 ?k1_37 ?k2_37 (fun _ => ?_) ?kd_37); (case kd_37 => with_unfolding_all rfl); (case km_37 => k_mem); (case ki_37 => assumption); (case k0_37 => assumption); (case k1_37 => assumption); (case k2_37 => assumption)) | ((with_reducible refine' b_eq3 ?km_37 ?kn_37 ?kr_37 (fun _ _ => ?_)); (case km_37 => k_mem); (case kn_37 => k_mem); (case kr_37 => decide)) | ((with_reducible refine' v_catL ?km_37 ?kn_37 ?kz_37 (fun _ _ => ?_)); (case km_37 => k_mem); (case kn_37 => k_mem); (case kz_37 => assumption)) | ((with_reducible refine' v_itemL ?km_37 ?k0_37 ?kz_37 ?kx_37 ?_ ?kd_37); (case kd_37 => with_unfolding_all rfl); (case km_37 => k_mem); (case k0_37 => decide); (case kz_37 => decide); (case kx_37 => exact rfl)) | (with_reducible refine e_tuple ?_) | ((with_reducible refine' v_tuple ?kz_37 fun _ _ => ?_); (case kz_37 => exact Nat.le_of_ble_eq_true rfl)) | (with_reducible refine e_list ?_) | ((with_reducible refine' v_list ?kz_37 fun _ _ => ?_); (case kz_37 => exact Nat.le_of_ble_eq_true rfl)) | fail))
      exact hQ _ _ _ _ ⟨rfl, .inl ⟨hp9, rfl⟩⟩ fun p hp => .tail _ (.tail _ (.tail _ (sub p hp)))
    | cons x r =>
      rw [hp9] at hys
      obtain ⟨t8, ys8, rfl, hys8⟩ := hys.cons_inv
      (repeat' (first | with_reducible intro _ | ((with_reducible refine' l_plain fun _ => ?_); (with_unfolding_all change Cx.R _ _ _ _ _)) | (with_reducible refine s_return ?_) | ((with_reducible refine s_if ?_); intro kc) | (with_reducible refine s_skip ?_) | ((with_reducible refine at_false ?_); (try clear kc)) | (with_reducible refine e_int fun _ => ?_) | (with_reducible refine e_bin ?_) | (with_reducible refine l_nil ?_) | ((with_reducible refine' t_cmp ?_ ?km_38); (case km_38 => exact rfl)) | ((with_reducible refine' l_cons ?_ ?ke_38); (case ke_38 => exact rfl)) | (with_reducible refine e_sub ?_) | ((with_reducible refine' e_builtin1 ?kf_38 ?kx_38 ?kb_38 ?kv_38 ?kn_38 ?_ ?kh_38); (case kf_38 => k_is); (case kx_38 => exact rfl); (case kb_38 => exact rfl); (case kv_38 => boot_fast); (case kn_38 => decide); (case kh_38 => exact rfl)) | (with_reducible refine ⟨_, _, rfl, ?_⟩) | ((with_reducible refine' e_cell ?kx_38 ?kb_38 ?kc_38 ?km_38 ?kd_38 ?_); (case kx_38 => exact rfl); (case kb_38 => exact rfl); (case kc_38 => assumption); (case km_38 => k_mem); (case kd_38 => assumption)) | ((with_reducible refine' x_cell ?kc_38 ?km_38 ?kd_38 ?_ ?kk_38 ?kx_38 ?kb_38); (case kx_38 => exact rfl); (case kk_38 => exact rfl); (case kb_38 => exact rfl); (case kc_38 => exact rfl); (case km_38 => k_mem); (case kd_38 => assumption)) | ((with_reducible refine' x_own ?km_38 ?ko_38 ?kv_38 ?_ ?kk_38 ?kl_38 ?kb_38); (case kl_38 => exact rfl); (case kk_38 => exact rfl); (case kb_38 => exact rfl); (case ko_38 => assumption); (case kv_38 => assumption); (case km_38 => k_mem)) | (with_reducible refine e_none ?_) | (with_reducible refine b_isR ?_) | ((with_reducible refine' v_lenL ?km_38 ?kz_38 (fun _ => ?_)); (case km_38 => k_mem); (case kz_38 => assumption)) | ((with_reducible refine' v_tupItem ?km_38 ?k0_38 ?k1_38 ?kx_38 ?_ ?kd_38); (case kd_38 => with_unfolding_all rfl); (case km_38 => k_mem); (case k0_38 => decide); (case k1_38 => decide); (case kx_38 => exact rfl)) | ((with_reducible refine' v_rowAt ?km_38 ?kr_38 ?k0_38 ?k1_38 ?kz_38 (fun _ _ _ _ _ _ => ?_) ?kd_38); (case kd_38 => with_unfolding_all rfl); (case km_38 => k_mem); (case kr_38 => assumption); (case k0_38 => assumption); (case k1_38 => assumption); (case kz_38 => assumption)) | ((with_reducible refine' v_itemI ?km_38 ?ki_38 ?k0_38 ?k1_38 ?k2_38 (fun _ => ?_) ?kd_38); (case kd_38 => with_unfolding_all rfl); (case km_38 => k_mem); (case ki_38 => assumption); (case k0_38 => assumption); (case k1_38 => assumption); (case k2_38 => assumption)) | ((with_reducible refine' b_eq3 ?km_38 ?kn_38 ?kr_38 (fun _ _ => ?_)); (case km_38 => k_mem); (case kn_38 => k_mem); (case kr_38 => decide)) | ((with_reducible refine' v_catL ?km_38 ?kn_38 ?kz_38 (fun _ _ => ?_)); (case km_38 => k_mem); (case kn_38 => k_mem); (case kz_38 => assumption)) | ((with_reducible refine' v_itemL ?km_38 ?k0_38 ?kz_38 ?kx_38 ?_ ?kd_38); (case kd_38 => with_unfolding_all rfl); (case km_38 => k_mem); (case k0_38 => decide); (case kz_38 => decide); (case kx_38 => exact rfl)) | (with_reducible refine e_tuple ?_) | ((with_reducible refine' v_tuple ?kz_38 fun _ _ => ?_); (case kz_38 => exact Nat.le_of_ble_eq_true rfl)) | (with_reducible refine e_list ?_) | ((with_reducible refine' v_list ?kz_38 fun _ _ => ?_); (case kz_38 => exact Nat.le_of_ble_eq_true rfl)) | fail))
      exact hQ _ _ _ _ ⟨rfl, .inr ⟨_, _, _, hp9, rfl⟩⟩ fun p hp => .tail _ (.tail _ (.tail _ (sub p hp)))
theorem c_first0 (prog : Program) (w : World) (news : Led) (na ra : Addr) :
    Con prog w 210 1 news [.ref na, .ref ra, .none] (fun v nw => nw = news ∧ v = .none) := by
  refine' runs_conC ?ho ?hcd ?run ?hbind ?hkd ?hnd ?hco ?hgen ?hk
  (case ho => k_is)
  (case hcd => k_is)
  (case hbind => exact fun _ => BindsTo.of_eq rfl)
  (case hkd => exact rfl)
  (case hco => exact rfl)
  (case hgen => exact rfl)
  (case hk => exact rfl)
  (case hnd => intro k; (show [Str.ofString "read", Str.ofString "rows", Str.ofString "numbers"].Nodup); decide +kernel)
  rintro C Q cells rfl rfl hcl hlow Y hQ
  obtain ⟨o1, o2, o3, rfl, d1, d2, d3⟩ := CellsAre.three Y
  clear Y d2 d3
  replace d1 : o1.data = .cell (some .none) := d1
  have c1 : C.cl.lookup (Str.ofString "read") = some (C.L + 1 + 1 + 1) := by rw [hcl]; rfl
  have m1 : (C.L + 1 + 1 + 1, o1) ∈ [(C.L + 1 + 1 + 1, o1), (C.L + 1 + 1, o2), (C.L + 1, o3)] ++ news := .head _
  refine s_let ?_
  intro m0
  (repeat' (first | with_reducible intro _ | (with_reducible refine s_return ?_) | ((with_reducible refine s_if ?_); intro kc) | (with_reducible refine on_ret ?_) | ((with_reducible refine at_true ?_); (try clear kc)) | ((with_reducible refine' t_cmp ?_ ?km_39); (case km_39 => exact rfl)) | (with_reducible refine ⟨_, _, rfl, ?_⟩) | ((with_reducible refine' e_cell ?kx_39 ?kb_39 ?kc_39 ?km_39 ?kd_39 ?_); (case kx_39 => exact rfl); (case kb_39 => exact rfl); (case kc_39 => assumption); (case km_39 => k_mem); (case kd_39 => assumption)) | (with_reducible refine e_none ?_) | (with_reducible refine b_isN ?_) | fail))
  exact hQ _ _ _ _ ⟨rfl, rfl⟩ fun p hp => .tail _ (.tail _ (.tail _ hp))
end
end part_M14
section part_M15
noncomputable def Sub (a b : Led) : Prop := ∀ p ∈ a, p ∈ b
theorem Sub.mem {a b : Led} {p : Addr × Obj} (h : Sub a b) (m : p ∈ a) : p ∈ b := h p m
theorem Sub.refl {a : Led} : Sub a a := fun _ h => h
theorem Sub.cons {a b : Led} {p : Addr × Obj} (h : Sub a b) : Sub a (p :: b) := fun q m => .tail _ (h q m)
theorem Sub.trans {a b c : Led} (h : Sub a b) (k : Sub b c) : Sub a c := fun q m => k q (h q m)
noncomputable def IsOpt (o : Option (Int × Int × Int)) (nw : Led) (v : Value) : Prop :=
  (o = none ∧ v = .none) ∨ ∃ a t u1 u2 u3, o = some t ∧ v = .ref a ∧ (a, tupOf [.int t.1 u1, .int t.2.1 u2, .int t.2.2 u3]) ∈ nw
noncomputable def IsOptN (o : Option Int) (v : Value) : Prop := (o = none ∧ v = .none) ∨ ∃ n t, o = some n ∧ v = .int n t
theorem IsOpt.sub {o : Option (Int × Int × Int)} {nw nw' : Led} {v : Value} (h : IsOpt o nw v) (s : Sub nw nw') : IsOpt o nw' v := by
  rcases h with h | ⟨a, t, u1, u2, u3, h1, h2, h3⟩
  · exact .inl h
  · exact .inr ⟨a, t, u1, u2, u3, h1, h2, s _ h3⟩
section
variable {prog : Program} {w : World} {A : Around} {E : Value → Shared → Prop} {s : Shared} {h₀ : Heap} {L : Addr} {nw n1 n2 : Led} {v v' : Value} {Q : Value → Shared → Prop}
theorem r_neO {o o' : Option (Int × Int × Int)} (N : News h₀ L s.heap nw) (h : IsOpt o n1 v) (s1 : Sub n1 nw) (h' : IsOpt o' n2 v') (s2 : Sub n2 nw) (e : o = o') (hu : A.units + 64 < cLine) (q : Q (.bool false) s) :
    wpAny (model prog w) A (compareOp .NotEq v v') Q E s := by
  subst e
  rcases h with ⟨rfl, rfl⟩ | ⟨a, t, u1, u2, u3, rfl, rfl, h3⟩
  · rcases h' with ⟨-, rfl⟩ | ⟨_, _, _, _, _, h, _⟩
    · exact ne_dataH Reads.none Reads.none rfl rfl hu q
    · cases h
  · rcases h' with ⟨h, _⟩ | ⟨a', t', u1', u2', u3', h, rfl, h3'⟩
    · cases h
    · cases h
      refine r_ne3 N (s1 _ h3) (s2 _ h3') hu fun c hc => ?_
      simp at hc
      subst hc
      exact q
theorem r_neN {o o' : Option Int} (h : IsOptN o v) (h' : IsOptN o' v') (e : o = o') (hu : A.units + 64 < cLine) (q : Q (.bool false) s) :
    wpAny (model prog w) A (compareOp .NotEq v v') Q E s := by
  subst e
  rcases h with ⟨rfl, rfl⟩ | ⟨n, t, rfl, rfl⟩
  · rcases h' with ⟨-, rfl⟩ | ⟨_, _, h, _⟩
    · exact ne_dataH Reads.none Reads.none rfl rfl hu q
    · cases h
  · rcases h' with ⟨h, _⟩ | ⟨n', t', h, rfl⟩
    · cases h
    · cases h
      exact ne_dataH (Reads.int _ _) (Reads.int _ _) rfl rfl hu (by simpa [PyData.eqv] using q)
theorem r_eqN {o o' : Option Int} (h : IsOptN o v) (h' : IsOptN o' v') (e : o = o') (hu : A.units + 64 < cLine) (q : Q (.bool true) s) :
    wpAny (model prog w) A (compareOp .Eq v v') Q E s := by
  subst e
  rcases h with ⟨rfl, rfl⟩ | ⟨n, t, rfl, rfl⟩
  · rcases h' with ⟨-, rfl⟩ | ⟨_, _, h, _⟩
    · exact eq_dataH Reads.none Reads.none rfl rfl hu q
    · cases h
  · rcases h' with ⟨h, _⟩ | ⟨n', t', h, rfl⟩
    · cases h
    · cases h
      exact eq_dataH (Reads.int _ _) (Reads.int _ _) rfl rfl hu (by simpa [PyData.eqv] using q)
end
theorem Con.imp {prog : Program} {w : World} {f : Addr} {need : Nat} {news : Led} {vs : List Value} {R R' : Value → Led → Prop} (C : Con prog w f need news vs R) (k : ∀ v nw, R v nw → R' v nw) : Con prog w f need news vs R' :=
  fun _ _ _ _ _ _ _ _ _ _ _ _ _ _ _ _ _ _ _ _ _ _ B F X N T hk hdp hun hret => C _ _ _ _ _ _ _ _ _ _ _ _ _ _ _ _ _ _ _ _ _ _ B F X N T hk hdp hun fun v nw h' tk' F' N' r => hret v nw h' tk' F' N' (k v nw r)
theorem Con.more {prog : Program} {w : World} {f : Addr} {need need' : Nat} {news : Led} {vs : List Value} {R : Value → Led → Prop} (C : Con prog w f need news vs R) (k : need ≤ need') : Con prog w f need' news vs R :=
  fun _ _ _ _ _ _ _ _ _ _ _ _ _ _ _ _ _ _ _ _ _ _ B F X N T hk hdp hun => C _ _ _ _ _ _ _ _ _ _ _ _ _ _ _ _ _ _ _ _ _ _ B F X N T hk (Nat.lt_of_le_of_lt (Nat.add_le_add_left k _) hdp) (Nat.lt_of_le_of_lt (Nat.add_le_add_left (Nat.mul_le_mul_left _ k) _) hun)
theorem ConX.more {prog : Program} {w : World} {f : Addr} {need need' : Nat} {news : Led} {vs : List Value} {R : Value → Led → Prop} {P : Prop} (C : ConX prog w f need news vs R P) (k : need ≤ need') : ConX prog w f need' news vs R P :=
  fun _ _ _ _ _ _ _ _ _ _ _ _ _ _ _ _ _ _ _ _ _ _ B F X N T hk hdp hun => C _ _ _ _ _ _ _ _ _ _ _ _ _ _ _ _ _ _ _ _ _ _ B F X N T hk (Nat.lt_of_le_of_lt (Nat.add_le_add_left k _) hdp) (Nat.lt_of_le_of_lt (Nat.add_le_add_left (Nat.mul_le_mul_left _ k) _) hun)
theorem ConS.imp {prog : Program} {w : World} {f : Addr} {need : Nat} {news : Led} {vs : List Value} {R R' : Value → Led → Prop} (C : ConS prog w f need news vs R) (k : ∀ v nw, R v nw → R' v nw) : ConS prog w f need news vs R' :=
  fun _ _ _ _ _ _ _ _ _ _ _ _ _ _ _ _ _ _ _ _ _ _ _ B F X N T hk XB TB D T0 hdp hun hret => C _ _ _ _ _ _ _ _ _ _ _ _ _ _ _ _ _ _ _ _ _ _ _ B F X N T hk XB TB D T0 hdp hun fun v nw g h' tk' a1 a2 a3 a4 a5 a6 a7 r => hret v nw g h' tk' a1 a2 a3 a4 a5 a6 a7 (k v nw r)
section
variable (prog : Program) (w : World) (news : Led)
theorem c_readO (na ea : Addr) (no eo : Obj) (tn te : Str → Option Int) (x : Str) (t : Tok) (hna : (na, no) ∈ news) (hea : (ea, eo) ∈ news) (hn : TabIs prog w na no tn) (he : TabIs prog w ea eo te) (hx : x.length < 100) :
    Con prog w 172 1 news [.ref na, .ref ea, .str x t] (fun v nw => IsOpt (readT tn te x) nw v ∧ Sub news nw) :=
  (c_read prog w news na ea no eo tn te x t hna hea hn he hx).imp fun v nw h => by
    rcases h with ⟨h1, rfl, rfl⟩ | ⟨a, o, g, p, u1, u2, u3, rfl, h2, h3, rfl⟩
    · exact ⟨.inl ⟨h1, rfl⟩, Sub.refl⟩
    · exact ⟨.inr ⟨a, (o, g, p), u1, u2, u3, h2, rfl, .head _⟩, Sub.refl.cons⟩
theorem c_hCoords (pa : Addr) (f r : Int) (x : Str) (t1 t2 t : Tok) (hpa : (pa, tupOf [.int f t1, .int r t2]) ∈ news) (hf : 2 ≤ f ∧ f ≤ 8) (hr : 3 ≤ r ∧ r ≤ 8) (hx : x.length < 100) :
    ConS prog w 205 9 news [.ref 109, .ref pa, .str x t] (fun v nw => IsOpt (readC f r x) nw v ∧ Sub news nw) :=
  (c_heard_109 prog w 8 pa _ _ .none x t news hpa _ _ ((c_coords prog w news f r x t1 t2 t hf hr hx).more (by omega)) (by omega)).imp fun v nw h => by
    rcases h with ⟨a, u1, u2, u3, o, g, p, rfl, h2, h3, rfl⟩ | ⟨h1, rfl, rfl⟩
    · exact ⟨.inr ⟨a, (o, g, p), u1, u2, u3, h2, rfl, .head _⟩, Sub.refl.cons⟩
    · exact ⟨.inl ⟨h1, rfl⟩, Sub.refl⟩
theorem c_hIccf (pa : Addr) (f r : Int) (x : Str) (t1 t2 t : Tok) (hpa : (pa, tupOf [.int f t1, .int r t2]) ∈ news) (hf : 2 ≤ f ∧ f ≤ 8) (hr : 3 ≤ r ∧ r ≤ 8) (hx : x.length < 100) :
    ConS prog w 205 9 news [.ref 144, .ref pa, .str x t] (fun v nw => IsOpt (readI f r x) nw v ∧ Sub news nw) :=
  (c_heard_144 prog w 8 pa _ _ .none x t news hpa _ _ ((c_iccf prog w news f r x t1 t2 t hf hr hx).more (by omega)) (by omega)).imp fun v nw h => by
    rcases h with ⟨a, u1, u2, u3, o, g, p, rfl, h2, h3, rfl⟩ | ⟨h1, rfl, rfl⟩
    · exact ⟨.inr ⟨a, (o, g, p), u1, u2, u3, h2, rfl, .head _⟩, Sub.refl.cons⟩
    · exact ⟨.inl ⟨h1, rfl⟩, Sub.refl⟩
theorem c_hFind (pa l : Addr) (vs : List Value) (ns : List Int) (n : Nat) (f r : Int) (x : Str) (t1 t2 t : Tok) (hpa : (pa, tupOf [.int f t1, .int r t2, .ref l]) ∈ news) (hf : 2 ≤ f ∧ f ≤ 8) (hr : 3 ≤ r ∧ r ≤ 8) (hx : x.length < 100)
    (hl : (l, listOf vs.toArray n) ∈ news) (hi : IntsAre vs ns) :
    ConS prog w 205 9 news [.ref 116, .ref pa, .str x t] (fun v nw => IsOptN (findC f r ns x) v ∧ nw = news) :=
  (c_heard_116 prog w 8 pa _ _ _ x t news hpa _ _ (c_find prog w news f r x l vs ns n t1 t2 t hf hr hx hl hi) (by omega)).imp fun v nw h => by
    rcases h with ⟨mv, u, rfl, h2, rfl⟩ | ⟨h1, rfl, rfl⟩
    · exact ⟨.inr ⟨mv, u, h2, rfl⟩, rfl⟩
    · exact ⟨.inl ⟨h1, rfl⟩, rfl⟩
theorem c_hPick (pa l : Addr) (vs : List Value) (ns : List Int) (n : Nat) (f r : Int) (x : Str) (t1 t2 t : Tok) (hpa : (pa, tupOf [.int f t1, .int r t2, .ref l]) ∈ news) (hf : 2 ≤ f ∧ f ≤ 8) (hr : 3 ≤ r ∧ r ≤ 8) (hx : x.length < 100)
    (hl : (l, listOf vs.toArray n) ∈ news) (hi : IntsAre vs ns) :
    ConS prog w 205 9 news [.ref 151, .ref pa, .str x t] (fun v nw => IsOptN (pickI f r ns x) v ∧ nw = news) :=
  (c_heard_151 prog w 8 pa _ _ _ x t news hpa _ _ (c_pick prog w news f r x l vs ns n t1 t2 t hf hr hx hl hi) (by omega)).imp fun v nw h => by
    rcases h with ⟨mv, u, rfl, h2, rfl⟩ | ⟨h1, rfl, rfl⟩
    · exact ⟨.inr ⟨mv, u, h2, rfl⟩, rfl⟩
    · exact ⟨.inl ⟨h1, rfl⟩, rfl⟩
noncomputable def firstOf (o : Option (Int × Int × Int)) (rs : List MvRow) (ns : List Int) : Option Int := o.bind fun t => (rowHits rs ns t).head?
theorem c_firstO (na ra : Addr) (nn rn : Nat) (nvs rvs : List Value) (ns : List Int) (rs : List MvRow) (o : Option (Int × Int × Int)) (v : Value) (n1 n2 : Led) (hv : IsOpt o n1 v) (hs : Sub n1 news)
    (hna : (na, listOf nvs.toArray nn) ∈ news) (hra : (ra, listOf rvs.toArray rn) ∈ news) (hn : IntsAre nvs ns) (hr : RowsIn n2 rvs rs) (hs2 : Sub n2 news) (hl : ns.length = rs.length) (hb : rs.length < 100) :
    Con prog w 210 12 news [.ref na, .ref ra, v] (fun v' nw => IsOptN (firstOf o rs ns) v' ∧ nw = news) := by
  rcases hv with ⟨rfl, rfl⟩ | ⟨a, ⟨x, y, z⟩, u1, u2, u3, rfl, rfl, h3⟩
  · refine ((c_first0 prog w news na ra).more (by omega)).imp fun v nw h => ?_
    obtain ⟨rfl, rfl⟩ := h
    exact ⟨.inl ⟨rfl, rfl⟩, rfl⟩
  · refine (c_first prog w news na ra a nn rn nvs rvs ns rs x y z u1 u2 u3 hna hra (hs _ h3) hn (hr.mono hs2) hl hb).imp fun v nw h => ?_
    obtain ⟨rfl, ⟨h1, rfl⟩ | ⟨x, r, t, h1, rfl⟩⟩ := h
    · exact ⟨.inl ⟨by simp [firstOf, h1], rfl⟩, rfl⟩
    · exact ⟨.inr ⟨x, t, by simp [firstOf, h1], rfl⟩, rfl⟩
end
end part_M15
section part_M16
noncomputable def lettersEnds : List (Str × Int) := [(Str.ofString "", 0), (Str.ofString "n", 2), (Str.ofString "b", 3), (Str.ofString "r", 4), (Str.ofString "q", 5)]
noncomputable def digitsEnds : List (Str × Int) := [(Str.ofString "", 0), (Str.ofString "1", 5), (Str.ofString "2", 4), (Str.ofString "3", 3), (Str.ofString "4", 2)]
noncomputable def lettersEnd (y : Str) : Option Int := lettersEnds.lookup y
noncomputable def digitsEnd (y : Str) : Option Int := digitsEnds.lookup y
noncomputable def PairsAre : List (Str × Value) → List (Str × Int) → Prop
  | [], [] => True
  | p :: r, q :: r' => p.1 = q.1 ∧ (∃ t, p.2 = .int q.2 t) ∧ PairsAre r r'
  | _, _ => False
theorem pairs_at (y : Str) : ∀ {kvs : List (Str × Value)} {ps : List (Str × Int)}, PairsAre kvs ps → (ps.lookup y = none → valueAt kvs y = none) ∧ ∀ n, ps.lookup y = some n → ∃ t, valueAt kvs y = some (.int n t)
  | [], [], _ => ⟨fun _ => rfl, fun _ h => by cases h⟩
  | p :: r, q :: r', ⟨h1, ⟨t, h2⟩, h3⟩ => by
    have ih := pairs_at y h3
    obtain ⟨k, v⟩ := p
    obtain ⟨k', n'⟩ := q
    dsimp only at h1 h2
    subst h1 h2
    unfold valueAt at ih ⊢
    rw [List.lookup_cons, List.find?_cons]
    by_cases e : k = y
    · subst e
      simp only [beq_self_eq_true, decide_true]
      exact ⟨fun h => by (cases h), fun n h => by (cases h; exact ⟨t, rfl⟩)⟩
    · have e' : (y == k) = false := beq_eq_false_iff_ne.mpr fun q => e q.symm
      simp only [e', e, decide_false]
      exact ih
  | [], _ :: _, h => nomatch h
  | _ :: _, [], h => nomatch h
theorem tab_pairs {prog : Program} {w : World} {a : Addr} {o : Obj} {kvs : List (Str × Value)} {ps : List (Str × Int)} (hd : o.IsDictOf (strKind prog w) kvs) (lo : (a == sysModules) = false) (h : PairsAre kvs ps) : TabIs prog w a o fun y => ps.lookup y :=
  ⟨kvs, hd, lo, fun y => pairs_at y h⟩
theorem read_cons {vs : List (Value × Value)} {a b : PyData} {D : List (PyData × PyData)} (h : ReadAs vs ((a, b) :: D)) : ∃ k v r, vs = (k, v) :: r ∧ PyProof.V.Flat k a ∧ PyProof.V.Flat v b ∧ ReadAs r D := by
  cases h with | cons f1 f2 r => exact ⟨_, _, _, rfl, f1, f2, r⟩
theorem flat_str {k : Value} {x : Str} (h : PyProof.V.Flat k (.str x)) (g : Heap) : ∃ t, k = .str x t := by
  cases h g; exact ⟨_, rfl⟩
theorem flat_int {k : Value} {i : Int} (h : PyProof.V.Flat k (.int i)) (g : Heap) : ∃ t, k = .int i t := by
  cases h g; exact ⟨_, rfl⟩
theorem read_pairs (g : Heap) {ps : List (Str × Int)} : ∀ {vs : List (Value × Value)}, ReadAs vs (ps.map fun p => (PyData.str p.1, PyData.int p.2)) → allStrKeys vs = true ∧ PairsAre (strPairs vs) ps ∧ (strPairs vs).map (·.1) = ps.map (·.1) := by
  induction ps with
  | nil => intro vs h; cases h; exact ⟨rfl, trivial, rfl⟩
  | cons p ps ih =>
    intro vs h
    obtain ⟨k, v, r, rfl, f1, f2, R⟩ := read_cons h
    obtain ⟨t, rfl⟩ := flat_str f1 g
    obtain ⟨u, rfl⟩ := flat_int f2 g
    have := ih R
    exact ⟨this.1, ⟨rfl, ⟨_, rfl⟩, this.2.1⟩, congrArg _ this.2.2⟩
section
variable {sc : Scope} {room : Nat}
theorem e_dictP {C : Cx sc room} {m : Str → Option Value} {n : Led} {K : Value → Led → Prop} {keys : List (Option PySem.Expr)} {values : List PySem.Expr} {pos : Pos} (ps : List (Str × Int)) (hD : litPairs keys values = some (ps.map fun p => (PyData.str p.1, PyData.int p.2))) (hn : (ps.map (·.1)).Nodup)
    (hs : strLits keys = true) (ha : keys.all (·.isSome) = true) (hl : keys.length = values.length) (h0 : keys ≠ []) (hz : keys.length ≤ 15)
    (q : ∀ d o, (∀ p ∈ n, p.1 < d) → TabIs C.prog C.w d o (fun y => ps.lookup y) → K (.ref d) ((d, o) :: n)) : C.E m n (.Dict keys values pos) K := fun h tk F N =>
  kdn_str (s := C.st h tk) hs F N C.T.nolimit ha hl h0 hz fun d h' o F' N' l lo hd => evalPairs_lits _ _ _ _ _ hD fun vs tk' R => by
    obtain ⟨a, b, c⟩ := read_pairs h R
    exact kdn_made_str F' N' (.head fun p hp => Nat.ne_of_lt (l p hp)) hd a (c ▸ hn) fun h2 o2 F2 N2 hd2 => ⟨h2, _, _, rfl, F2, N2, q d o2 l (tab_pairs hd2 lo b)⟩
set_option genInjectivity false in
set_option genSizeOf false in
structure Sx (sc : Scope) (room : Nat) where
  C : Cx sc room
  XB : (hd.heap_39 C.w.params).In C.base
  TB : Top C.p C.loose C.mean C.mg C.mb C.base
structure Sx.Good (S : Sx sc room) (g : Heap) : Prop where
  B : Below S.C.A₀ S.C.base S.C.outer g
  X : (hd.heap_39 S.C.w.params).In g
  T : Top S.C.p S.C.loose S.C.mean S.C.mg S.C.mb g
  D : KtsDicts (S.C.outer.filterMap (·.frame)) g
  T0 : KtsTurn (S.C.outer.filterMap (·.frame)) S.C.g g
noncomputable def Sx.at (S : Sx sc room) (g : Heap) (G : S.Good g) : Cx sc room := { S.C with g := g, EE := fun _ _ => False, n₀ := [], P := False, B := G.B, X := G.X, T := G.T, rai := fun x => x.elim, po := PassesOwn.never, pas := fun x => x.elim }
noncomputable def Sx.W {α : Type} (S : Sx sc room) (g : Heap) (m : Str → Option Value) (n : Led) (t : Sem α) (Q : α → Shared → Prop) : Prop := S.Good g → ∀ h tk, Fr g S.C.L h m → News g S.C.L h n → wpAny (model S.C.prog S.C.w) S.C.A t Q (fun _ _ => False) (S.C.st h tk)
noncomputable def Sx.PE {α : Type} (S : Sx sc room) (K : α → (Str → Option Value) → Led → Prop) (v : α) (s' : Shared) : Prop := ∃ g' h' tk' m' n', S.Good g' ∧ s' = S.C.st h' tk' ∧ Fr g' S.C.L h' m' ∧ News g' S.C.L h' n' ∧ K v m' n'
noncomputable def Sx.R {α : Type} (S : Sx sc room) (m : Str → Option Value) (n : Led) (t : Sem α) (K : α → Led → Prop) : Prop := ∀ g, S.W g m n t (S.PE fun v m' n' => m' = m ∧ K v n')
noncomputable def Sx.S (S : Sx sc room) (m : Str → Option Value) (n : Led) (st : List Stmt) (Q : Flow → (Str → Option Value) → Led → Prop) : Prop := ∀ g, S.W g m n (execs st S.C.env) (S.PE Q)
variable {S : Sx sc room} {m : Str → Option Value} {n : Led} {rest : List Stmt} {Q : Flow → (Str → Option Value) → Led → Prop}
theorem Sx.PE.of {α : Type} {K : α → (Str → Option Value) → Led → Prop} {v : α} {s' : Shared} (h : S.PE K v s') {P : Shared → Prop} (k : ∀ g h tk m n, S.Good g → Fr g S.C.L h m → News g S.C.L h n → K v m n → P (S.C.st h tk)) : P s' := by
  obtain ⟨g, h, tk, m, n, G, rfl, F, N, q⟩ := h
  exact k g h tk m n G F N q
theorem Sx.PE.mk {α : Type} {K : α → (Str → Option Value) → Led → Prop} {v : α} {g h : Heap} {tk : Nat} (G : S.Good g) (F : Fr g S.C.L h m) (N : News g S.C.L h n) (q : K v m n) : S.PE K v (S.C.st h tk) := ⟨g, h, tk, m, n, G, rfl, F, N, q⟩
theorem Sx.R.to {α : Type} {t : Sem α} {K : α → Led → Prop} (r : S.R m n t K) {P : α → Shared → Prop} {g : Heap} (k : ∀ v g n, K v n → S.Good g → ∀ h tk, Fr g S.C.L h m → News g S.C.L h n → P v (S.C.st h tk)) : S.W g m n t P := fun G h tk F N =>
  wpAny_mono (r g G h tk F N) (fun v _ x => x.of fun g h tk m' n G F N q => k v g n q.2 G h tk (q.1 ▸ F) N) fun _ _ x => x
theorem sx_con {f : Addr} {vs : List Value} {need : Nat} {R : Value → Led → Prop} {K : Value → Led → Prop} (c : ConS S.C.prog S.C.w f need n vs R) (hr : need ≤ room) (k : ∀ v nw, R v nw → K v nw) : S.R m n (call (.ref f) vs) K := fun g G h tk F N =>
  con_useS c G.B F G.X N G.T S.C.hk S.XB S.TB G.D G.T0 (Nat.lt_of_le_of_lt (Nat.add_le_add_left hr _) S.C.hdp) (Nat.lt_of_le_of_lt (Nat.add_le_add_left (Nat.mul_le_mul_left _ hr) _) S.C.hun) fun v nw g' h' tk' T' F' N' B' X' P' D' r => .mk ⟨B', X', P', D', T'⟩ F' N' ⟨rfl, k v nw r⟩
theorem sx_call {f : Str} {fp pos : Pos} {v : Value} {e : PySem.Expr} {es : List PySem.Expr} {K : Value → Led → Prop} (hf : nsIn (hd.heap_39 S.C.w.params) mainGlobals f = some (some v)) (hv : keepIn (hd.heap_39 S.C.w.params) v = true) (hx : sc.names.lookup f = some .globalImplicit) (hb : (f == Str.ofString "__debug__") = false)
    (he : starEach (e :: es) S.C.env = (false, eval e S.C.env) :: starEach es S.C.env) (hp : (backTo pos (starEach es S.C.env)).any (·.1) = false)
    (q : ∀ g (G : S.Good g), (S.at g G).R m n (spliced (backTo pos (starEach (e :: es) (S.at g G).env))) fun vs n1 => S.R m n1 (call v vs) K) : S.R m n (eval (.Call (.Name f fp) (e :: es) [] pos) S.C.env) K := fun g G h tk F N =>
  Call_ (nameX_K F G.X (topRead_of G.T) hf (callWith_K G.X hv ((q g G).to (C := S.at g G) F N fun vs h1 tk1 n1 q1 F1 N1 => ⟨Frag.In.keeps G.X (Fr.keep F1), q1 g G h1 tk1 F1 N1⟩) he hp) S.C.hk hx hb)
theorem sx_assign {x : Str} {px pos : Pos} {e : PySem.Expr} (q : ∀ g (G : S.Good g), (S.at g G).E m n e fun v n1 => let m' : Str → Option Value := fun y => if y = x then some v else m y; S.S m' n1 rest Q) (hx : sc.names.lookup x = some .local)
    (hs : swapsWith e (some (.Name x px)) pos.line S.C.env = pure false) : S.S m n (.Assign [.Name x px] e pos :: rest) Q := fun g G h tk F N =>
  wpAny_execs_cons (wpAny_Assign_Name ((q g G).to (C := S.at g G) F N fun v h1 tk1 n1 q1 F1 N1 => store_m F1 N1 (fun h2 F2 N2 => q1 g G h2 (tk1 + 1) F2 N2) S.C.hk hx) hs)
noncomputable abbrev Sx.two (S : Sx sc room) (m : Str → Option Value) (n : Led) (l r : PySem.Expr) (op : CmpOp) (K : Value → Led → Prop) : Prop := S.R m n (eval l S.C.env) fun a n1 => ∀ g (G : S.Good g), (S.at g G).E m n1 r fun b n2 => (S.at g G).R m n2 (compareOp op a b) K
theorem Sx.two.to {l r : PySem.Expr} {op : CmpOp} {K : Value → Led → Prop} (q : S.two m n l r op K) {P : Value → Shared → Prop} {g : Heap} (k : ∀ v g n, K v n → S.Good g → ∀ h tk, Fr g S.C.L h m → News g S.C.L h n → P v (S.C.st h tk)) :
    S.W g m n (eval l S.C.env) fun a s1 => wpAny (model S.C.prog S.C.w) S.C.A (eval r S.C.env) (fun b s2 => wpAny (model S.C.prog S.C.w) S.C.A (compareOp op a b) P (fun _ _ => False) s2) (fun _ _ => False) s1 :=
  Sx.R.to q fun a g n1 q1 G _ _ F N => (q1 g G).to (C := S.at g G) F N fun b h2 tk2 n2 q2 F2 N2 => q2.to (C := S.at g G) F2 N2 fun c h3 tk3 n3 q3 F3 N3 => k c g n3 q3 G h3 tk3 F3 N3
theorem sx_ifne {l r : PySem.Expr} {body : List Stmt} {pos ip : Pos} (q : S.two m n l r .NotEq fun c n3 => c = .bool false ∧ S.S m n3 rest Q)
    (hm : behindInMarks .NotEq r = false) : S.S m n (.If (.Compare l [.NotEq] [r] pos) body [] ip :: rest) Q := fun g G h tk F N =>
  wpAny_execs_cons (wpAny_If (wpAny_isTrue_Compare1 (q.to (fun c g n3 q3 G h3 tk3 F3 N3 => q3.1 ▸ wpAny_truthy_bool (by rw [if_neg Bool.false_ne_true]; exact wpAny_execs_nil (q3.2 g G h3 tk3 F3 N3))) G h tk F N) hm))
theorem sx_reteq {l r : PySem.Expr} {pos rp : Pos} (q : S.two m n l r .Eq fun c n3 => Q (.ret c) m n3)
    (hm : behindInMarks .Eq r = false) : S.S m n (.Return (some (.Compare l [.Eq] [r] pos)) rp :: rest) Q := fun g G h tk F N =>
  wpAny_execs_cons (wpAny_Return_some (wpAny_Compare1 (q.to (fun c g n3 q3 G h3 tk3 F3 N3 => .mk G F3 N3 q3) G h tk F N) hm))
end
section
variable {prog : Program} {w : World} {f : Addr} {need : Nat} {news : Led} {vs : List Value} {R : Value → Led → Prop}
  {name qual : Str} {params : Arguments} {body : List Stmt} {scope : Scope} {dV kV doc pm cdv ct oc : Value} {an od : Option Addr} {osl : Array (Option Value)} {binds : List (Str × Value)}
theorem runs_conS (ho : (hd.heap_39 w.params).lookup f = some ⟨oc, od, .func (fnOf name qual params body scope dV kV doc pm an cdv ct), osl⟩) (hcd : codeIn (hd.heap_39 w.params) cdv qual = true)
    (run : ∀ (S : Sx scope need) (Q : Flow → (Str → Option Value) → Led → Prop), S.C.prog = prog → S.C.w = w → (∀ v m n n', R v n → (∀ p ∈ n, p ∈ n') → Q (.ret v) m n') → S.S (fun y => binds.reverse.lookup y) news body Q)
    (hbind : ∀ s, BindsTo s (fnOf name qual params body scope dV kV doc pm an cdv ct) ⟨vs, []⟩ binds) (hloc : ∀ y ∈ binds, scope.names.lookup y.1 = some .local)
    (hco : scope.isCoroutine = false) (hgen : scope.isGenerator = false) (hk : scope.kind = .function) (hcell : ∀ x ∈ scope.names, x.2 ≠ .cell) : ConS prog w f (need + 1) news vs R := by
  intro p loose mean mg mb dp un gd cn cs a ccd cl outer A₀ base h₀ g₀ L m s Q E B F X N T hke XB TB D T0 hdp hun hret
  refine wpAny_call (enterS B F X N T XB TB D T0 rfl rfl hke ho hcd (Nat.lt_of_le_of_lt (Nat.le_add_right _ _) hdp) (hbind _) hloc (fun g L' h₁ FG F' N' B' X' T' D' => ?_) hco hgen hk hcell)
  let S : Sx scope need := ⟨{
    prog := prog, w := w, dp := dp + 1, un := un + 3, gd := gd, name := qual, L := L', a := f, cd := cdv, cl := [], outer := envX cn cs L a ccd cl :: outer, A₀ := ktrTop dp un gd cn cs L a ccd cl outer, base := base, g := g
    p := p, loose := loose, mean := mean, mg := mg, mb := mb, s₀ := s, hk := hk, hdp := dp_in hdp, hun := un_in hun, EE := fun _ _ => False, n₀ := [], P := False, B := B', X := X', T := T', rai := fun x => x.elim, po := PassesOwn.never, pas := fun x => x.elim }, XB, TB⟩
  exact wpAny_mono (run S (fun fl _ n' => ∃ v n, fl = .ret v ∧ R v n ∧ ∀ p ∈ n, p ∈ n') rfl rfl (fun v _ n _ r z => ⟨v, n, rfl, r, z⟩) g ⟨B', X', T', D', KtsTurn.refl⟩ h₁ (s.toks + binds.length) F' N')
    (fun fl s' z => z.of fun g' h tk m1 n1 G' F2 N2 ⟨v, n2, e, r, y⟩ => by subst e; exact .inr ⟨g', L', m1, n1, G'.T0, F2, N2, fun h₀' t F3 N3 B3 X3 T3 D3 => hret v n2 h₀' h tk t F3 (fun p hp => N3 p (y p hp)) B3 X3 T3 D3 r⟩) fun _ _ x => x.elim
end
section
variable {sc : Scope} {room : Nat} {C : Cx sc room} {m : Str → Option Value} {n : Led} {K : Value → Led → Prop}
theorem v_neO {n1 n2 : Led} {v v' : Value} {o o' : Option (Int × Int × Int)} (h : IsOpt o n1 v) (s1 : Sub n1 n) (h' : IsOpt o' n2 v') (s2 : Sub n2 n) (e : o = o') (hr : 10 ≤ room) (q : K (.bool false) n) : C.R m n (compareOp .NotEq v v') K := fun h1 tk F N =>
  r_neO N h s1 h' s2 e (Nat.lt_of_le_of_lt (Nat.add_le_add_left (by omega) _) C.hun) ⟨h1, tk, n, rfl, F, N, q⟩
theorem v_neN {v v' : Value} {o o' : Option Int} (h : IsOptN o v) (h' : IsOptN o' v') (e : o = o') (hr : 10 ≤ room) (q : K (.bool false) n) : C.R m n (compareOp .NotEq v v') K := fun h1 tk F N =>
  r_neN h h' e (Nat.lt_of_le_of_lt (Nat.add_le_add_left (by omega) _) C.hun) ⟨h1, tk, n, rfl, F, N, q⟩
theorem v_eqN {v v' : Value} {o o' : Option Int} (h : IsOptN o v) (h' : IsOptN o' v') (e : o = o') (hr : 10 ≤ room) (q : K (.bool true) n) : C.R m n (compareOp .Eq v v') K := fun h1 tk F N =>
  r_eqN h h' e (Nat.lt_of_le_of_lt (Nat.add_le_add_left (by omega) _) C.hun) ⟨h1, tk, n, rfl, F, N, q⟩
end
section
theorem c_right (prog : Program) (w : World) (news n2 : Led) (f r : Int) (x : Str) (na ra ta la ga : Addr) (lo go : Obj) (tl tg : Str → Option Int) (nn rn : Nat) (nvs rvs : List Value) (ns : List Int) (rs : List MvRow) (t1 t2 t3 : Tok)
    (hf : 2 ≤ f ∧ f ≤ 8) (hr : 3 ≤ r ∧ r ≤ 8) (hx : x.length < 100) (hna : (na, listOf nvs.toArray nn) ∈ news) (hra : (ra, listOf rvs.toArray rn) ∈ news) (hta : (ta, tupOf [.ref la, .ref ga]) ∈ news)
    (hla : (la, lo) ∈ news) (hga : (ga, go) ∈ news) (hl : TabIs prog w la lo tl) (hg : TabIs prog w ga go tg) (hi : IntsAre nvs ns) (hrs : RowsIn n2 rvs rs) (hs2 : Sub n2 news) (hnl : ns.length = rs.length) (hb : rs.length < 100)
    (e1 : readC f r x = readT tl lettersEnd x) (e2 : findC f r ns x = firstOf (readT tl lettersEnd x) rs ns) (e3 : readI f r x = readT tg digitsEnd x) (e4 : pickI f r ns x = firstOf (readT tg digitsEnd x) rs ns) :
    ConS prog w 217 20 news [.int f t1, .int r t2, .ref na, .ref ra, .ref ta, .str x t3] (fun v nw => v = .bool true ∧ Sub news nw) := by
  refine' runs_conS ?ho ?hcd ?run ?hbind ?hloc ?hco ?hgen ?hk ?hcell
  (case ho => k_is)
  (case hcd => k_is)
  (case hbind => exact fun _ => BindsTo.of_eq rfl)
  (case hloc => exact locs rfl)
  (case hco => exact rfl)
  (case hgen => exact rfl)
  (case hk => exact rfl)
  (case hcell => decide)
  rintro S Q rfl rfl hQ
  refine (fun q : let m' := _; S.S m' _ _ _ => q) ?_
  intro m0
  (repeat' (first | with_reducible intro _ | ((with_reducible refine' e_callP ?kf_40 ?kv_40 ?kx_40 ?kb_40 ?ke_40 ?kp_40 fun _ => ?_); (case kf_40 => k_is); (case kv_40 => k_is); (case kx_40 => exact rfl); (case kb_40 => exact rfl); (case ke_40 => exact rfl); (case kp_40 => exact rfl); (with_unfolding_all change Cx.R _ _ _ _ _)) | ((with_reducible refine e_subP ?_); (first | (with_unfolding_all change Cx.R _ _ _ _ _) | (intro _; (with_unfolding_all change Cx.R _ _ _ _ _)) | (intro _; intro _; (with_unfolding_all change Cx.R _ _ _ _ _)))) | ((with_reducible refine' l_plain fun _ => ?_); (with_unfolding_all change Cx.R _ _ _ _ _)) | (with_reducible refine l_nil ?_) | ((with_reducible refine' e_local ?kv_40 ?_); (case kv_40 => exact rfl)) | ((with_reducible refine' e_call ?kf_40 ?kv_40 ?kx_40 ?kb_40 ?ke_40 ?kp_40 ?_); (case kf_40 => k_is); (case kv_40 => k_is); (case kx_40 => exact rfl); (case kb_40 => exact rfl); (case ke_40 => exact rfl); (case kp_40 => exact rfl); intro kb) | ((with_reducible refine' e_glob ?kf_40 ?kx_40 ?kb_40 ?_); (case kf_40 => k_is); (case kx_40 => exact rfl); (case kb_40 => exact rfl)) | ((with_reducible refine' l_cons ?_ ?ke_40); (case ke_40 => exact rfl)) | (with_reducible refine ⟨_, _, rfl, ?_⟩) | ((with_reducible refine' v_tupItem ?km_40 ?k0_40 ?k1_40 ?kx_40 ?_ ?kd_40); (case kd_40 => with_unfolding_all rfl); (case km_40 => k_mem); (case k0_40 => decide); (case k1_40 => decide); (case kx_40 => exact rfl)) | ((with_reducible refine' sx_assign (fun _ _ => ?_) ?kx_40 ?ks_40); (case kx_40 => exact rfl); (case ks_40 => exact rfl)) | ((with_reducible refine' sx_ifne ?_ ?km_40); (case km_40 => exact rfl)) | ((with_reducible refine' sx_reteq ?_ ?km_40); (case km_40 => exact rfl)) | ((with_reducible refine' sx_call ?kf_40 ?kv_40 ?kx_40 ?kb_40 ?ke_40 ?kp_40 (fun _ _ => ?_)); (case kf_40 => k_is); (case kv_40 => k_is); (case kx_40 => exact rfl); (case kb_40 => exact rfl); (case ke_40 => exact rfl); (case kp_40 => exact rfl)) | (with_reducible refine e_tuple ?_) | ((with_reducible refine' v_tuple ?kz_40 fun _ _ => ?_); (case kz_40 => exact Nat.le_of_ble_eq_true rfl)) | fail))
  refine' e_dictP lettersEnds ?hD ?hn ?hs ?ha ?hl ?h0 ?hz (fun d o l T => ?_)
  (case hD => exact rfl)
  (case hn => decide +kernel)
  (case hs => exact rfl)
  (case ha => exact rfl)
  (case hl => exact rfl)
  (case h0 => exact List.cons_ne_nil _ _)
  (case hz => exact Nat.le_of_ble_eq_true rfl)
  (repeat' (first | with_reducible intro _ | ((with_reducible refine' e_callP ?kf_41 ?kv_41 ?kx_41 ?kb_41 ?ke_41 ?kp_41 fun _ => ?_); (case kf_41 => k_is); (case kv_41 => k_is); (case kx_41 => exact rfl); (case kb_41 => exact rfl); (case ke_41 => exact rfl); (case kp_41 => exact rfl); (with_unfolding_all change Cx.R _ _ _ _ _)) | ((with_reducible refine e_subP ?_); (first | (with_unfolding_all change Cx.R _ _ _ _ _) | (intro _; (with_unfolding_all change Cx.R _ _ _ _ _)) | (intro _; intro _; (with_unfolding_all change Cx.R _ _ _ _ _)))) | ((with_reducible refine' l_plain fun _ => ?_); (with_unfolding_all change Cx.R _ _ _ _ _)) | (with_reducible refine l_nil ?_) | ((with_reducible refine' e_local ?kv_41 ?_); (case kv_41 => exact rfl)) | ((with_reducible refine' e_call ?kf_41 ?kv_41 ?kx_41 ?kb_41 ?ke_41 ?kp_41 ?_); (case kf_41 => k_is); (case kv_41 => k_is); (case kx_41 => exact rfl); (case kb_41 => exact rfl); (case ke_41 => exact rfl); (case kp_41 => exact rfl); intro kb) | ((with_reducible refine' e_glob ?kf_41 ?kx_41 ?kb_41 ?_); (case kf_41 => k_is); (case kx_41 => exact rfl); (case kb_41 => exact rfl)) | ((with_reducible refine' l_cons ?_ ?ke_41); (case ke_41 => exact rfl)) | (with_reducible refine ⟨_, _, rfl, ?_⟩) | ((with_reducible refine' v_tupItem ?km_41 ?k0_41 ?k1_41 ?kx_41 ?_ ?kd_41); (case kd_41 => with_unfolding_all rfl); (case km_41 => k_mem); (case k0_41 => decide); (case k1_41 => decide); (case kx_41 => exact rfl)) | ((with_reducible refine' sx_assign (fun _ _ => ?_) ?kx_41 ?ks_41); (case kx_41 => exact rfl); (case ks_41 => exact rfl)) | ((with_reducible refine' sx_ifne ?_ ?km_41); (case km_41 => exact rfl)) | ((with_reducible refine' sx_reteq ?_ ?km_41); (case km_41 => exact rfl)) | ((with_reducible refine' sx_call ?kf_41 ?kv_41 ?kx_41 ?kb_41 ?ke_41 ?kp_41 (fun _ _ => ?_)); (case kf_41 => k_is); (case kv_41 => k_is); (case kx_41 => exact rfl); (case kb_41 => exact rfl); (case ke_41 => exact rfl); (case kp_41 => exact rfl)) | (with_reducible refine e_tuple ?_) | ((with_reducible refine' v_tuple ?kz_41 fun _ _ => ?_); (case kz_41 => exact Nat.le_of_ble_eq_true rfl)) | fail))
  refine r_con (c_readO _ _ _ _ _ _ _ _ _ _ _ (.tail _ hla) (.head _) hl T hx) (by decide) ?_
  rintro v1 n1 ⟨io1, sb1⟩
  clear T l
  intro m1
  have s1 : Sub news n1 := fun p hp => sb1 p (.tail _ hp)
  clear sb1
  (repeat' (first | with_reducible intro _ | ((with_reducible refine' e_callP ?kf_42 ?kv_42 ?kx_42 ?kb_42 ?ke_42 ?kp_42 fun _ => ?_); (case kf_42 => k_is); (case kv_42 => k_is); (case kx_42 => exact rfl); (case kb_42 => exact rfl); (case ke_42 => exact rfl); (case kp_42 => exact rfl); (with_unfolding_all change Cx.R _ _ _ _ _)) | ((with_reducible refine e_subP ?_); (first | (with_unfolding_all change Cx.R _ _ _ _ _) | (intro _; (with_unfolding_all change Cx.R _ _ _ _ _)) | (intro _; intro _; (with_unfolding_all change Cx.R _ _ _ _ _)))) | ((with_reducible refine' l_plain fun _ => ?_); (with_unfolding_all change Cx.R _ _ _ _ _)) | (with_reducible refine l_nil ?_) | ((with_reducible refine' e_local ?kv_42 ?_); (case kv_42 => exact rfl)) | ((with_reducible refine' e_call ?kf_42 ?kv_42 ?kx_42 ?kb_42 ?ke_42 ?kp_42 ?_); (case kf_42 => k_is); (case kv_42 => k_is); (case kx_42 => exact rfl); (case kb_42 => exact rfl); (case ke_42 => exact rfl); (case kp_42 => exact rfl); intro kb) | ((with_reducible refine' e_glob ?kf_42 ?kx_42 ?kb_42 ?_); (case kf_42 => k_is); (case kx_42 => exact rfl); (case kb_42 => exact rfl)) | ((with_reducible refine' l_cons ?_ ?ke_42); (case ke_42 => exact rfl)) | (with_reducible refine ⟨_, _, rfl, ?_⟩) | ((with_reducible refine' v_tupItem ?km_42 ?k0_42 ?k1_42 ?kx_42 ?_ ?kd_42); (case kd_42 => with_unfolding_all rfl); (case km_42 => k_mem); (case k0_42 => decide); (case k1_42 => decide); (case kx_42 => exact rfl)) | ((with_reducible refine' sx_assign (fun _ _ => ?_) ?kx_42 ?ks_42); (case kx_42 => exact rfl); (case ks_42 => exact rfl)) | ((with_reducible refine' sx_ifne ?_ ?km_42); (case km_42 => exact rfl)) | ((with_reducible refine' sx_reteq ?_ ?km_42); (case km_42 => exact rfl)) | ((with_reducible refine' sx_call ?kf_42 ?kv_42 ?kx_42 ?kb_42 ?ke_42 ?kp_42 (fun _ _ => ?_)); (case kf_42 => k_is); (case kv_42 => k_is); (case kx_42 => exact rfl); (case kb_42 => exact rfl); (case ke_42 => exact rfl); (case kp_42 => exact rfl)) | (with_reducible refine e_tuple ?_) | ((with_reducible refine' v_tuple ?kz_42 fun _ _ => ?_); (case kz_42 => exact Nat.le_of_ble_eq_true rfl)) | fail))
  rename_i pa lp
  refine sx_con (S := S) (c_hCoords _ _ _ _ _ _ _ _ _ _ (.head _) hf hr hx) (by decide) ?_
  rintro v2 n2' ⟨io2, sb2⟩ g G
  (repeat' (first | with_reducible intro _ | ((with_reducible refine' e_callP ?kf_43 ?kv_43 ?kx_43 ?kb_43 ?ke_43 ?kp_43 fun _ => ?_); (case kf_43 => k_is); (case kv_43 => k_is); (case kx_43 => exact rfl); (case kb_43 => exact rfl); (case ke_43 => exact rfl); (case kp_43 => exact rfl); (with_unfolding_all change Cx.R _ _ _ _ _)) | ((with_reducible refine e_subP ?_); (first | (with_unfolding_all change Cx.R _ _ _ _ _) | (intro _; (with_unfolding_all change Cx.R _ _ _ _ _)) | (intro _; intro _; (with_unfolding_all change Cx.R _ _ _ _ _)))) | ((with_reducible refine' l_plain fun _ => ?_); (with_unfolding_all change Cx.R _ _ _ _ _)) | (with_reducible refine l_nil ?_) | ((with_reducible refine' e_local ?kv_43 ?_); (case kv_43 => exact rfl)) | ((with_reducible refine' e_call ?kf_43 ?kv_43 ?kx_43 ?kb_43 ?ke_43 ?kp_43 ?_); (case kf_43 => k_is); (case kv_43 => k_is); (case kx_43 => exact rfl); (case kb_43 => exact rfl); (case ke_43 => exact rfl); (case kp_43 => exact rfl); intro kb) | ((with_reducible refine' e_glob ?kf_43 ?kx_43 ?kb_43 ?_); (case kf_43 => k_is); (case kx_43 => exact rfl); (case kb_43 => exact rfl)) | ((with_reducible refine' l_cons ?_ ?ke_43); (case ke_43 => exact rfl)) | (with_reducible refine ⟨_, _, rfl, ?_⟩) | ((with_reducible refine' v_tupItem ?km_43 ?k0_43 ?k1_43 ?kx_43 ?_ ?kd_43); (case kd_43 => with_unfolding_all rfl); (case km_43 => k_mem); (case k0_43 => decide); (case k1_43 => decide); (case kx_43 => exact rfl)) | ((with_reducible refine' sx_assign (fun _ _ => ?_) ?kx_43 ?ks_43); (case kx_43 => exact rfl); (case ks_43 => exact rfl)) | ((with_reducible refine' sx_ifne ?_ ?km_43); (case km_43 => exact rfl)) | ((with_reducible refine' sx_reteq ?_ ?km_43); (case km_43 => exact rfl)) | ((with_reducible refine' sx_call ?kf_43 ?kv_43 ?kx_43 ?kb_43 ?ke_43 ?kp_43 (fun _ _ => ?_)); (case kf_43 => k_is); (case kv_43 => k_is); (case kx_43 => exact rfl); (case kb_43 => exact rfl); (case ke_43 => exact rfl); (case kp_43 => exact rfl)) | (with_reducible refine e_tuple ?_) | ((with_reducible refine' v_tuple ?kz_43 fun _ _ => ?_); (case kz_43 => exact Nat.le_of_ble_eq_true rfl)) | fail))
  refine v_neO io2 Sub.refl io1 (fun p hp => sb2 p (.tail _ hp)) e1 (by decide) ⟨rfl, ?_⟩
  replace s1 : Sub news n2' := fun p hp => sb2 p (.tail _ (s1 p hp))
  replace io1 := io1.sub fun p hp => sb2 p (.tail _ hp)
  clear sb2 lp io2
  (repeat' (first | with_reducible intro _ | ((with_reducible refine' e_callP ?kf_44 ?kv_44 ?kx_44 ?kb_44 ?ke_44 ?kp_44 fun _ => ?_); (case kf_44 => k_is); (case kv_44 => k_is); (case kx_44 => exact rfl); (case kb_44 => exact rfl); (case ke_44 => exact rfl); (case kp_44 => exact rfl); (with_unfolding_all change Cx.R _ _ _ _ _)) | ((with_reducible refine e_subP ?_); (first | (with_unfolding_all change Cx.R _ _ _ _ _) | (intro _; (with_unfolding_all change Cx.R _ _ _ _ _)) | (intro _; intro _; (with_unfolding_all change Cx.R _ _ _ _ _)))) | ((with_reducible refine' l_plain fun _ => ?_); (with_unfolding_all change Cx.R _ _ _ _ _)) | (with_reducible refine l_nil ?_) | ((with_reducible refine' e_local ?kv_44 ?_); (case kv_44 => exact rfl)) | ((with_reducible refine' e_call ?kf_44 ?kv_44 ?kx_44 ?kb_44 ?ke_44 ?kp_44 ?_); (case kf_44 => k_is); (case kv_44 => k_is); (case kx_44 => exact rfl); (case kb_44 => exact rfl); (case ke_44 => exact rfl); (case kp_44 => exact rfl); intro kb) | ((with_reducible refine' e_glob ?kf_44 ?kx_44 ?kb_44 ?_); (case kf_44 => k_is); (case kx_44 => exact rfl); (case kb_44 => exact rfl)) | ((with_reducible refine' l_cons ?_ ?ke_44); (case ke_44 => exact rfl)) | (with_reducible refine ⟨_, _, rfl, ?_⟩) | ((with_reducible refine' v_tupItem ?km_44 ?k0_44 ?k1_44 ?kx_44 ?_ ?kd_44); (case kd_44 => with_unfolding_all rfl); (case km_44 => k_mem); (case k0_44 => decide); (case k1_44 => decide); (case kx_44 => exact rfl)) | ((with_reducible refine' sx_assign (fun _ _ => ?_) ?kx_44 ?ks_44); (case kx_44 => exact rfl); (case ks_44 => exact rfl)) | ((with_reducible refine' sx_ifne ?_ ?km_44); (case km_44 => exact rfl)) | ((with_reducible refine' sx_reteq ?_ ?km_44); (case km_44 => exact rfl)) | ((with_reducible refine' sx_call ?kf_44 ?kv_44 ?kx_44 ?kb_44 ?ke_44 ?kp_44 (fun _ _ => ?_)); (case kf_44 => k_is); (case kv_44 => k_is); (case kx_44 => exact rfl); (case kb_44 => exact rfl); (case ke_44 => exact rfl); (case kp_44 => exact rfl)) | (with_reducible refine e_tuple ?_) | ((with_reducible refine' v_tuple ?kz_44 fun _ _ => ?_); (case kz_44 => exact Nat.le_of_ble_eq_true rfl)) | fail))
  refine sx_con (S := S) (c_hFind _ _ _ _ _ _ _ _ _ _ _ _ _ _ (.head _) hf hr hx (.tail _ (s1 _ hna)) hi) (by decide) ?_
  rintro v3 _ ⟨io3, rfl⟩ g G
  (repeat' (first | with_reducible intro _ | ((with_reducible refine' e_callP ?kf_45 ?kv_45 ?kx_45 ?kb_45 ?ke_45 ?kp_45 fun _ => ?_); (case kf_45 => k_is); (case kv_45 => k_is); (case kx_45 => exact rfl); (case kb_45 => exact rfl); (case ke_45 => exact rfl); (case kp_45 => exact rfl); (with_unfolding_all change Cx.R _ _ _ _ _)) | ((with_reducible refine e_subP ?_); (first | (with_unfolding_all change Cx.R _ _ _ _ _) | (intro _; (with_unfolding_all change Cx.R _ _ _ _ _)) | (intro _; intro _; (with_unfolding_all change Cx.R _ _ _ _ _)))) | ((with_reducible refine' l_plain fun _ => ?_); (with_unfolding_all change Cx.R _ _ _ _ _)) | (with_reducible refine l_nil ?_) | ((with_reducible refine' e_local ?kv_45 ?_); (case kv_45 => exact rfl)) | ((with_reducible refine' e_call ?kf_45 ?kv_45 ?kx_45 ?kb_45 ?ke_45 ?kp_45 ?_); (case kf_45 => k_is); (case kv_45 => k_is); (case kx_45 => exact rfl); (case kb_45 => exact rfl); (case ke_45 => exact rfl); (case kp_45 => exact rfl); intro kb) | ((with_reducible refine' e_glob ?kf_45 ?kx_45 ?kb_45 ?_); (case kf_45 => k_is); (case kx_45 => exact rfl); (case kb_45 => exact rfl)) | ((with_reducible refine' l_cons ?_ ?ke_45); (case ke_45 => exact rfl)) | (with_reducible refine ⟨_, _, rfl, ?_⟩) | ((with_reducible refine' v_tupItem ?km_45 ?k0_45 ?k1_45 ?kx_45 ?_ ?kd_45); (case kd_45 => with_unfolding_all rfl); (case km_45 => k_mem); (case k0_45 => decide); (case k1_45 => decide); (case kx_45 => exact rfl)) | ((with_reducible refine' sx_assign (fun _ _ => ?_) ?kx_45 ?ks_45); (case kx_45 => exact rfl); (case ks_45 => exact rfl)) | ((with_reducible refine' sx_ifne ?_ ?km_45); (case km_45 => exact rfl)) | ((with_reducible refine' sx_reteq ?_ ?km_45); (case km_45 => exact rfl)) | ((with_reducible refine' sx_call ?kf_45 ?kv_45 ?kx_45 ?kb_45 ?ke_45 ?kp_45 (fun _ _ => ?_)); (case kf_45 => k_is); (case kv_45 => k_is); (case kx_45 => exact rfl); (case kb_45 => exact rfl); (case ke_45 => exact rfl); (case kp_45 => exact rfl)) | (with_reducible refine e_tuple ?_) | ((with_reducible refine' v_tuple ?kz_45 fun _ _ => ?_); (case kz_45 => exact Nat.le_of_ble_eq_true rfl)) | fail))
  refine r_con (c_firstO _ _ _ _ _ _ _ _ _ _ _ _ _ _ _ (io1.sub Sub.refl.cons) Sub.refl (.tail _ (s1 _ hna)) (.tail _ (s1 _ hra)) hi hrs (fun p hp => .tail _ (s1 _ (hs2 _ hp))) hnl hb) (by decide) ?_
  rintro v4 _ ⟨io4, rfl⟩
  refine v_neN io3 io4 e2 (by decide) ⟨rfl, ?_⟩
  clear io1 io3 io4
  have hta2 := s1 _ hta
  (repeat' (first | with_reducible intro _ | ((with_reducible refine' e_callP ?kf_46 ?kv_46 ?kx_46 ?kb_46 ?ke_46 ?kp_46 fun _ => ?_); (case kf_46 => k_is); (case kv_46 => k_is); (case kx_46 => exact rfl); (case kb_46 => exact rfl); (case ke_46 => exact rfl); (case kp_46 => exact rfl); (with_unfolding_all change Cx.R _ _ _ _ _)) | ((with_reducible refine e_subP ?_); (first | (with_unfolding_all change Cx.R _ _ _ _ _) | (intro _; (with_unfolding_all change Cx.R _ _ _ _ _)) | (intro _; intro _; (with_unfolding_all change Cx.R _ _ _ _ _)))) | ((with_reducible refine' l_plain fun _ => ?_); (with_unfolding_all change Cx.R _ _ _ _ _)) | (with_reducible refine l_nil ?_) | ((with_reducible refine' e_local ?kv_46 ?_); (case kv_46 => exact rfl)) | ((with_reducible refine' e_call ?kf_46 ?kv_46 ?kx_46 ?kb_46 ?ke_46 ?kp_46 ?_); (case kf_46 => k_is); (case kv_46 => k_is); (case kx_46 => exact rfl); (case kb_46 => exact rfl); (case ke_46 => exact rfl); (case kp_46 => exact rfl); intro kb) | ((with_reducible refine' e_glob ?kf_46 ?kx_46 ?kb_46 ?_); (case kf_46 => k_is); (case kx_46 => exact rfl); (case kb_46 => exact rfl)) | ((with_reducible refine' l_cons ?_ ?ke_46); (case ke_46 => exact rfl)) | (with_reducible refine ⟨_, _, rfl, ?_⟩) | ((with_reducible refine' v_tupItem ?km_46 ?k0_46 ?k1_46 ?kx_46 ?_ ?kd_46); (case kd_46 => with_unfolding_all rfl); (case km_46 => k_mem); (case k0_46 => decide); (case k1_46 => decide); (case kx_46 => exact rfl)) | ((with_reducible refine' sx_assign (fun _ _ => ?_) ?kx_46 ?ks_46); (case kx_46 => exact rfl); (case ks_46 => exact rfl)) | ((with_reducible refine' sx_ifne ?_ ?km_46); (case km_46 => exact rfl)) | ((with_reducible refine' sx_reteq ?_ ?km_46); (case km_46 => exact rfl)) | ((with_reducible refine' sx_call ?kf_46 ?kv_46 ?kx_46 ?kb_46 ?ke_46 ?kp_46 (fun _ _ => ?_)); (case kf_46 => k_is); (case kv_46 => k_is); (case kx_46 => exact rfl); (case kb_46 => exact rfl); (case ke_46 => exact rfl); (case kp_46 => exact rfl)) | (with_reducible refine e_tuple ?_) | ((with_reducible refine' v_tuple ?kz_46 fun _ _ => ?_); (case kz_46 => exact Nat.le_of_ble_eq_true rfl)) | fail))
  refine' e_dictP digitsEnds ?hD ?hn ?hs ?ha ?hl ?h0 ?hz (fun d o l T => ?_)
  (case hD => exact rfl)
  (case hn => decide +kernel)
  (case hs => exact rfl)
  (case ha => exact rfl)
  (case hl => exact rfl)
  (case h0 => exact List.cons_ne_nil _ _)
  (case hz => exact Nat.le_of_ble_eq_true rfl)
  (repeat' (first | with_reducible intro _ | ((with_reducible refine' e_callP ?kf_47 ?kv_47 ?kx_47 ?kb_47 ?ke_47 ?kp_47 fun _ => ?_); (case kf_47 => k_is); (case kv_47 => k_is); (case kx_47 => exact rfl); (case kb_47 => exact rfl); (case ke_47 => exact rfl); (case kp_47 => exact rfl); (with_unfolding_all change Cx.R _ _ _ _ _)) | ((with_reducible refine e_subP ?_); (first | (with_unfolding_all change Cx.R _ _ _ _ _) | (intro _; (with_unfolding_all change Cx.R _ _ _ _ _)) | (intro _; intro _; (with_unfolding_all change Cx.R _ _ _ _ _)))) | ((with_reducible refine' l_plain fun _ => ?_); (with_unfolding_all change Cx.R _ _ _ _ _)) | (with_reducible refine l_nil ?_) | ((with_reducible refine' e_local ?kv_47 ?_); (case kv_47 => exact rfl)) | ((with_reducible refine' e_call ?kf_47 ?kv_47 ?kx_47 ?kb_47 ?ke_47 ?kp_47 ?_); (case kf_47 => k_is); (case kv_47 => k_is); (case kx_47 => exact rfl); (case kb_47 => exact rfl); (case ke_47 => exact rfl); (case kp_47 => exact rfl); intro kb) | ((with_reducible refine' e_glob ?kf_47 ?kx_47 ?kb_47 ?_); (case kf_47 => k_is); (case kx_47 => exact rfl); (case kb_47 => exact rfl)) | ((with_reducible refine' l_cons ?_ ?ke_47); (case ke_47 => exact rfl)) | (with_reducible refine ⟨_, _, rfl, ?_⟩) | ((with_reducible refine' v_tupItem ?km_47 ?k0_47 ?k1_47 ?kx_47 ?_ ?kd_47); (case kd_47 => with_unfolding_all rfl); (case km_47 => k_mem); (case k0_47 => decide); (case k1_47 => decide); (case kx_47 => exact rfl)) | ((with_reducible refine' sx_assign (fun _ _ => ?_) ?kx_47 ?ks_47); (case kx_47 => exact rfl); (case ks_47 => exact rfl)) | ((with_reducible refine' sx_ifne ?_ ?km_47); (case km_47 => exact rfl)) | ((with_reducible refine' sx_reteq ?_ ?km_47); (case km_47 => exact rfl)) | ((with_reducible refine' sx_call ?kf_47 ?kv_47 ?kx_47 ?kb_47 ?ke_47 ?kp_47 (fun _ _ => ?_)); (case kf_47 => k_is); (case kv_47 => k_is); (case kx_47 => exact rfl); (case kb_47 => exact rfl); (case ke_47 => exact rfl); (case kp_47 => exact rfl)) | (with_reducible refine e_tuple ?_) | ((with_reducible refine' v_tuple ?kz_47 fun _ _ => ?_); (case kz_47 => exact Nat.le_of_ble_eq_true rfl)) | fail))
  refine r_con (c_readO _ _ _ _ _ _ _ _ _ _ _ (.tail _ (.tail _ (s1 _ hga))) (.head _) hg T hx) (by decide) ?_
  rintro v5 n3 ⟨io1, sb1⟩
  clear T l
  intro m2
  replace s1 : Sub news n3 := fun p hp => sb1 p (.tail _ (.tail _ (s1 p hp)))
  clear sb1
  (repeat' (first | with_reducible intro _ | ((with_reducible refine' e_callP ?kf_48 ?kv_48 ?kx_48 ?kb_48 ?ke_48 ?kp_48 fun _ => ?_); (case kf_48 => k_is); (case kv_48 => k_is); (case kx_48 => exact rfl); (case kb_48 => exact rfl); (case ke_48 => exact rfl); (case kp_48 => exact rfl); (with_unfolding_all change Cx.R _ _ _ _ _)) | ((with_reducible refine e_subP ?_); (first | (with_unfolding_all change Cx.R _ _ _ _ _) | (intro _; (with_unfolding_all change Cx.R _ _ _ _ _)) | (intro _; intro _; (with_unfolding_all change Cx.R _ _ _ _ _)))) | ((with_reducible refine' l_plain fun _ => ?_); (with_unfolding_all change Cx.R _ _ _ _ _)) | (with_reducible refine l_nil ?_) | ((with_reducible refine' e_local ?kv_48 ?_); (case kv_48 => exact rfl)) | ((with_reducible refine' e_call ?kf_48 ?kv_48 ?kx_48 ?kb_48 ?ke_48 ?kp_48 ?_); (case kf_48 => k_is); (case kv_48 => k_is); (case kx_48 => exact rfl); (case kb_48 => exact rfl); (case ke_48 => exact rfl); (case kp_48 => exact rfl); intro kb) | ((with_reducible refine' e_glob ?kf_48 ?kx_48 ?kb_48 ?_); (case kf_48 => k_is); (case kx_48 => exact rfl); (case kb_48 => exact rfl)) | ((with_reducible refine' l_cons ?_ ?ke_48); (case ke_48 => exact rfl)) | (with_reducible refine ⟨_, _, rfl, ?_⟩) | ((with_reducible refine' v_tupItem ?km_48 ?k0_48 ?k1_48 ?kx_48 ?_ ?kd_48); (case kd_48 => with_unfolding_all rfl); (case km_48 => k_mem); (case k0_48 => decide); (case k1_48 => decide); (case kx_48 => exact rfl)) | ((with_reducible refine' sx_assign (fun _ _ => ?_) ?kx_48 ?ks_48); (case kx_48 => exact rfl); (case ks_48 => exact rfl)) | ((with_reducible refine' sx_ifne ?_ ?km_48); (case km_48 => exact rfl)) | ((with_reducible refine' sx_reteq ?_ ?km_48); (case km_48 => exact rfl)) | ((with_reducible refine' sx_call ?kf_48 ?kv_48 ?kx_48 ?kb_48 ?ke_48 ?kp_48 (fun _ _ => ?_)); (case kf_48 => k_is); (case kv_48 => k_is); (case kx_48 => exact rfl); (case kb_48 => exact rfl); (case ke_48 => exact rfl); (case kp_48 => exact rfl)) | (with_reducible refine e_tuple ?_) | ((with_reducible refine' v_tuple ?kz_48 fun _ _ => ?_); (case kz_48 => exact Nat.le_of_ble_eq_true rfl)) | fail))
  refine sx_con (S := S) (c_hIccf _ _ _ _ _ _ _ _ _ _ (.head _) hf hr hx) (by decide) ?_
  rintro v6 n4 ⟨io2, sb2⟩ g G
  (repeat' (first | with_reducible intro _ | ((with_reducible refine' e_callP ?kf_49 ?kv_49 ?kx_49 ?kb_49 ?ke_49 ?kp_49 fun _ => ?_); (case kf_49 => k_is); (case kv_49 => k_is); (case kx_49 => exact rfl); (case kb_49 => exact rfl); (case ke_49 => exact rfl); (case kp_49 => exact rfl); (with_unfolding_all change Cx.R _ _ _ _ _)) | ((with_reducible refine e_subP ?_); (first | (with_unfolding_all change Cx.R _ _ _ _ _) | (intro _; (with_unfolding_all change Cx.R _ _ _ _ _)) | (intro _; intro _; (with_unfolding_all change Cx.R _ _ _ _ _)))) | ((with_reducible refine' l_plain fun _ => ?_); (with_unfolding_all change Cx.R _ _ _ _ _)) | (with_reducible refine l_nil ?_) | ((with_reducible refine' e_local ?kv_49 ?_); (case kv_49 => exact rfl)) | ((with_reducible refine' e_call ?kf_49 ?kv_49 ?kx_49 ?kb_49 ?ke_49 ?kp_49 ?_); (case kf_49 => k_is); (case kv_49 => k_is); (case kx_49 => exact rfl); (case kb_49 => exact rfl); (case ke_49 => exact rfl); (case kp_49 => exact rfl); intro kb) | ((with_reducible refine' e_glob ?kf_49 ?kx_49 ?kb_49 ?_); (case kf_49 => k_is); (case kx_49 => exact rfl); (case kb_49 => exact rfl)) | ((with_reducible refine' l_cons ?_ ?ke_49); (case ke_49 => exact rfl)) | (with_reducible refine ⟨_, _, rfl, ?_⟩) | ((with_reducible refine' v_tupItem ?km_49 ?k0_49 ?k1_49 ?kx_49 ?_ ?kd_49); (case kd_49 => with_unfolding_all rfl); (case km_49 => k_mem); (case k0_49 => decide); (case k1_49 => decide); (case kx_49 => exact rfl)) | ((with_reducible refine' sx_assign (fun _ _ => ?_) ?kx_49 ?ks_49); (case kx_49 => exact rfl); (case ks_49 => exact rfl)) | ((with_reducible refine' sx_ifne ?_ ?km_49); (case km_49 => exact rfl)) | ((with_reducible refine' sx_reteq ?_ ?km_49); (case km_49 => exact rfl)) | ((with_reducible refine' sx_call ?kf_49 ?kv_49 ?kx_49 ?kb_49 ?ke_49 ?kp_49 (fun _ _ => ?_)); (case kf_49 => k_is); (case kv_49 => k_is); (case kx_49 => exact rfl); (case kb_49 => exact rfl); (case ke_49 => exact rfl); (case kp_49 => exact rfl)) | (with_reducible refine e_tuple ?_) | ((with_reducible refine' v_tuple ?kz_49 fun _ _ => ?_); (case kz_49 => exact Nat.le_of_ble_eq_true rfl)) | fail))
  refine v_neO io2 Sub.refl io1 (fun p hp => sb2 p (.tail _ hp)) e3 (by decide) ⟨rfl, ?_⟩
  replace s1 : Sub news n4 := fun p hp => sb2 p (.tail _ (s1 p hp))
  replace io1 := io1.sub fun p hp => sb2 p (.tail _ hp)
  clear sb2 io2
  (repeat' (first | with_reducible intro _ | ((with_reducible refine' e_callP ?kf_50 ?kv_50 ?kx_50 ?kb_50 ?ke_50 ?kp_50 fun _ => ?_); (case kf_50 => k_is); (case kv_50 => k_is); (case kx_50 => exact rfl); (case kb_50 => exact rfl); (case ke_50 => exact rfl); (case kp_50 => exact rfl); (with_unfolding_all change Cx.R _ _ _ _ _)) | ((with_reducible refine e_subP ?_); (first | (with_unfolding_all change Cx.R _ _ _ _ _) | (intro _; (with_unfolding_all change Cx.R _ _ _ _ _)) | (intro _; intro _; (with_unfolding_all change Cx.R _ _ _ _ _)))) | ((with_reducible refine' l_plain fun _ => ?_); (with_unfolding_all change Cx.R _ _ _ _ _)) | (with_reducible refine l_nil ?_) | ((with_reducible refine' e_local ?kv_50 ?_); (case kv_50 => exact rfl)) | ((with_reducible refine' e_call ?kf_50 ?kv_50 ?kx_50 ?kb_50 ?ke_50 ?kp_50 ?_); (case kf_50 => k_is); (case kv_50 => k_is); (case kx_50 => exact rfl); (case kb_50 => exact rfl); (case ke_50 => exact rfl); (case kp_50 => exact rfl); intro kb) | ((with_reducible refine' e_glob ?kf_50 ?kx_50 ?kb_50 ?_); (case kf_50 => k_is); (case kx_50 => exact rfl); (case kb_50 => exact rfl)) | ((with_reducible refine' l_cons ?_ ?ke_50); (case ke_50 => exact rfl)) | (with_reducible refine ⟨_, _, rfl, ?_⟩) | ((with_reducible refine' v_tupItem ?km_50 ?k0_50 ?k1_50 ?kx_50 ?_ ?kd_50); (case kd_50 => with_unfolding_all rfl); (case km_50 => k_mem); (case k0_50 => decide); (case k1_50 => decide); (case kx_50 => exact rfl)) | ((with_reducible refine' sx_assign (fun _ _ => ?_) ?kx_50 ?ks_50); (case kx_50 => exact rfl); (case ks_50 => exact rfl)) | ((with_reducible refine' sx_ifne ?_ ?km_50); (case km_50 => exact rfl)) | ((with_reducible refine' sx_reteq ?_ ?km_50); (case km_50 => exact rfl)) | ((with_reducible refine' sx_call ?kf_50 ?kv_50 ?kx_50 ?kb_50 ?ke_50 ?kp_50 (fun _ _ => ?_)); (case kf_50 => k_is); (case kv_50 => k_is); (case kx_50 => exact rfl); (case kb_50 => exact rfl); (case ke_50 => exact rfl); (case kp_50 => exact rfl)) | (with_reducible refine e_tuple ?_) | ((with_reducible refine' v_tuple ?kz_50 fun _ _ => ?_); (case kz_50 => exact Nat.le_of_ble_eq_true rfl)) | fail))
  refine sx_con (S := S) (c_hPick _ _ _ _ _ _ _ _ _ _ _ _ _ _ (.head _) hf hr hx (.tail _ (s1 _ hna)) hi) (by decide) ?_
  rintro v7 _ ⟨io3, rfl⟩ g G
  (repeat' (first | with_reducible intro _ | ((with_reducible refine' e_callP ?kf_51 ?kv_51 ?kx_51 ?kb_51 ?ke_51 ?kp_51 fun _ => ?_); (case kf_51 => k_is); (case kv_51 => k_is); (case kx_51 => exact rfl); (case kb_51 => exact rfl); (case ke_51 => exact rfl); (case kp_51 => exact rfl); (with_unfolding_all change Cx.R _ _ _ _ _)) | ((with_reducible refine e_subP ?_); (first | (with_unfolding_all change Cx.R _ _ _ _ _) | (intro _; (with_unfolding_all change Cx.R _ _ _ _ _)) | (intro _; intro _; (with_unfolding_all change Cx.R _ _ _ _ _)))) | ((with_reducible refine' l_plain fun _ => ?_); (with_unfolding_all change Cx.R _ _ _ _ _)) | (with_reducible refine l_nil ?_) | ((with_reducible refine' e_local ?kv_51 ?_); (case kv_51 => exact rfl)) | ((with_reducible refine' e_call ?kf_51 ?kv_51 ?kx_51 ?kb_51 ?ke_51 ?kp_51 ?_); (case kf_51 => k_is); (case kv_51 => k_is); (case kx_51 => exact rfl); (case kb_51 => exact rfl); (case ke_51 => exact rfl); (case kp_51 => exact rfl); intro kb) | ((with_reducible refine' e_glob ?kf_51 ?kx_51 ?kb_51 ?_); (case kf_51 => k_is); (case kx_51 => exact rfl); (case kb_51 => exact rfl)) | ((with_reducible refine' l_cons ?_ ?ke_51); (case ke_51 => exact rfl)) | (with_reducible refine ⟨_, _, rfl, ?_⟩) | ((with_reducible refine' v_tupItem ?km_51 ?k0_51 ?k1_51 ?kx_51 ?_ ?kd_51); (case kd_51 => with_unfolding_all rfl); (case km_51 => k_mem); (case k0_51 => decide); (case k1_51 => decide); (case kx_51 => exact rfl)) | ((with_reducible refine' sx_assign (fun _ _ => ?_) ?kx_51 ?ks_51); (case kx_51 => exact rfl); (case ks_51 => exact rfl)) | ((with_reducible refine' sx_ifne ?_ ?km_51); (case km_51 => exact rfl)) | ((with_reducible refine' sx_reteq ?_ ?km_51); (case km_51 => exact rfl)) | ((with_reducible refine' sx_call ?kf_51 ?kv_51 ?kx_51 ?kb_51 ?ke_51 ?kp_51 (fun _ _ => ?_)); (case kf_51 => k_is); (case kv_51 => k_is); (case kx_51 => exact rfl); (case kb_51 => exact rfl); (case ke_51 => exact rfl); (case kp_51 => exact rfl)) | (with_reducible refine e_tuple ?_) | ((with_reducible refine' v_tuple ?kz_51 fun _ _ => ?_); (case kz_51 => exact Nat.le_of_ble_eq_true rfl)) | fail))
  refine r_con (c_firstO _ _ _ _ _ _ _ _ _ _ _ _ _ _ _ (io1.sub Sub.refl.cons) Sub.refl (.tail _ (s1 _ hna)) (.tail _ (s1 _ hra)) hi hrs (fun p hp => .tail _ (s1 _ (hs2 _ hp))) hnl hb) (by decide) ?_
  rintro v4 _ ⟨io4, rfl⟩
  refine v_eqN io3 io4 e4 (by decide) ?_
  exact hQ _ _ _ _ ⟨rfl, s1⟩ fun p hp => .tail _ hp
end
end part_M16
section part_M17
noncomputable def TabFull (prog : Program) (w : World) (a : Addr) (o : Obj) (ps : List (Str × Int)) : Prop := ∃ kvs, o.IsDictOf (strKind prog w) kvs ∧ (a == sysModules) = false ∧ PairsAre kvs ps
theorem TabFull.tab {prog : Program} {w : World} {a : Addr} {o : Obj} {ps : List (Str × Int)} (h : TabFull prog w a o ps) : TabIs prog w a o fun y => ps.lookup y :=
  let ⟨_, h1, h2, h3⟩ := h; tab_pairs h1 h2 h3
noncomputable def tabOf (key : Nat → Str) (n : Nat) : List (Str × Int) := (List.range n).map fun i => (key i, (i : Int))
noncomputable def keyL (f : Nat) (i : Nat) : Str := ⟨#[97 + i % f, 49 + i / f]⟩
noncomputable def keyD (f : Nat) (i : Nat) : Str := ⟨#[49 + i % f, 49 + i / f]⟩
theorem PairsAre.length : ∀ {kvs : List (Str × Value)} {ps : List (Str × Int)}, PairsAre kvs ps → kvs.length = ps.length
  | [], [], _ => rfl
  | _ :: _, _ :: _, ⟨_, _, h⟩ => by rw [List.length_cons, List.length_cons, h.length]
  | [], _ :: _, h => nomatch h
  | _ :: _, [], h => nomatch h
theorem PairsAre.snoc {k : Str} {n : Int} {t : Tok} : ∀ {kvs : List (Str × Value)} {ps : List (Str × Int)}, PairsAre kvs ps → PairsAre (kvs ++ [(k, .int n t)]) (ps ++ [(k, n)])
  | [], [], _ => ⟨rfl, ⟨t, rfl⟩, trivial⟩
  | _ :: _, _ :: _, ⟨h1, h2, h3⟩ => ⟨h1, h2, h3.snoc⟩
  | [], _ :: _, h => nomatch h
  | _ :: _, [], h => nomatch h
theorem PairsAre.new {k : Str} {v : Value} {kvs : List (Str × Value)} {ps : List (Str × Int)} (h : PairsAre kvs ps) (hk : ∀ p ∈ ps, p.1 ≠ k) : stored kvs k v = kvs ++ [(k, v)] := by
  have : ∀ {kvs : List (Str × Value)} {ps : List (Str × Int)}, PairsAre kvs ps → (∀ p ∈ ps, p.1 ≠ k) → kvs.any (fun kv => decide (kv.1 = k)) = false := by
    intro kvs
    induction kvs with
    | nil => intro ps _ _; rfl
    | cons a r ih =>
      intro ps h hk
      cases ps with
      | nil => exact nomatch h
      | cons b r' =>
        obtain ⟨h1, _, h3⟩ := h
        rw [List.any_cons, ih h3 fun p hp => hk p (.tail _ hp), h1]
        simpa using hk b (.head _)
  unfold stored
  rw [this h hk]
  rfl
theorem tab_step {key : Nat → Str} {n : Nat} {kvs : List (Str × Value)} {k : Str} {m : Int} {t : Tok} (h : PairsAre kvs (tabOf key n)) (hk : k = key n) (hm : m = n) (inj : ∀ i < n, key i ≠ key n) : PairsAre (stored kvs k (.int m t)) (tabOf key (n + 1)) := by
  subst hk hm
  rw [h.new fun p hp => ?_]
  · have : tabOf key (n + 1) = tabOf key n ++ [(key n, (n : Int))] := by unfold tabOf; rw [List.range_succ, List.map_append]; rfl
    rw [this]
    exact h.snoc
  · obtain ⟨i, hi, rfl⟩ := List.mem_map.mp hp
    exact inj i (List.mem_range.mp hi)
theorem key_inj {c f i j : Nat} (h : Str.mk #[c + i % f, 49 + i / f] = ⟨#[c + j % f, 49 + j / f]⟩) : i = j := by
  have e := List.cons.inj (Array.mk.inj (Str.mk.inj h))
  rw [← Nat.div_add_mod i f, ← Nat.div_add_mod j f, Nat.add_left_cancel e.1, Nat.add_left_cancel (List.cons.inj e.2).1]
theorem keyL_inj {f i j : Nat} (h : keyL f i = keyL f j) : i = j := key_inj h
theorem keyD_inj {f i j : Nat} (h : keyD f i = keyD f j) : i = j := key_inj h
theorem sgL : ∀ j < 8, ∀ i < 8, Txt.item (Str.ofString "abcdefgh") (0 + ((j : Nat) : Int)) ++ Str.ofString (toString (0 + ((i : Nat) : Int) + 1)) = ⟨#[97 + j, 49 + i]⟩ := by decide +kernel
theorem sgD : ∀ j < 8, ∀ i < 8, Str.ofString (toString (0 + ((j : Nat) : Int) + 1)) ++ Str.ofString (toString (0 + ((i : Nat) : Int) + 1)) = ⟨#[49 + j, 49 + i]⟩ := by decide +kernel
theorem divmod {f i j : Nat} (hj : j < f) : (i * f + j) % f = j ∧ (i * f + j) / f = i := by
  constructor
  · rw [Nat.add_comm, Nat.add_mul_mod_self_right, Nat.mod_eq_of_lt hj]
  · rw [Nat.add_comm, Nat.add_mul_div_right _ _ (by omega), Nat.div_eq_of_lt hj, Nat.zero_add]
theorem keyL_at {f i j : Nat} (hj : j < f) (hf : f ≤ 8) (hi : i < 8) : Txt.item (Str.ofString "abcdefgh") (0 + (j : Int)) ++ Str.ofString (toString (0 + (i : Int) + 1)) = keyL f (i * f + j) := by
  rw [keyL, (divmod hj).1, (divmod hj).2]; exact sgL j (by omega) i hi
theorem keyD_at {f i j : Nat} (hj : j < f) (hf : f ≤ 8) (hi : i < 8) : Str.ofString (toString (0 + (j : Int) + 1)) ++ Str.ofString (toString (0 + (i : Int) + 1)) = keyD f (i * f + j) := by
  rw [keyD, (divmod hj).1, (divmod hj).2]; exact sgD j (by omega) i hi
theorem two_short {f i j : Nat} (hj : j < f) (hf : f ≤ 8) (hi : i < 8) : (Txt.item (Str.ofString "abcdefgh") (0 + (j : Int))).length + (Str.ofString (toString (0 + (i : Int) + 1))).length ≤ sizeLine := by
  rw [← Str.length_append, sgL j (by omega) i hi]; exact Nat.le_trans (Nat.le_refl 2) (by decide)
theorem two_shortD {f i j : Nat} (hj : j < f) (hf : f ≤ 8) (hi : i < 8) : (Str.ofString (toString (0 + (j : Int) + 1))).length + (Str.ofString (toString (0 + (i : Int) + 1))).length ≤ sizeLine := by
  rw [← Str.length_append, sgD j (by omega) i hi]; exact Nat.le_trans (Nat.le_refl 2) (by decide)
theorem small_at {j : Nat} (h : j < 8) : (0 : Int) ≤ 0 + (j : Int) ∧ (0 : Int) + (j : Int) < 8 := by omega
theorem small_up {j : Nat} (h : j < 8) : (0 : Int) ≤ 0 + (j : Int) + 1 ∧ (0 : Int) + (j : Int) + 1 < 100000 := by omega
theorem val_at {f i j : Nat} : (0 + (i : Int)) * (f : Int) + (0 + (j : Int)) = ((i * f + j : Nat) : Int) := by rw [Int.zero_add, Int.zero_add]; push_cast; rfl
section
variable {C : Cx sc room} {m : Str → Option Value} {n : Led} {K : Value → Led → Prop} {pos sp px : Pos}
theorem e_dict0 (q : ∀ d o, (∀ p ∈ n, p.1 < d) → (d == sysModules) = false → o.IsDictOf (strKind C.prog C.w) [] → K (.ref d) ((d, o) :: n)) : C.E m n (.Dict [] [] pos) K := fun h tk F N =>
  Dict_empty_made2 (s := C.st h tk) F N (modules_low C.T.nolimit) fun h' o F' N' lo hs _ _ _ _ => ⟨h', tk, _, rfl, F', N', q _ o (fun p hp => Heap.lt_size (N p hp).1) lo hs⟩
theorem s_setSub {x : Str} {d : Addr} {key e : PySem.Expr} {rest : List Stmt} {Q : Flow → (Str → Option Value) → Led → Prop} (hv : locv sc.names m x = some (.ref d))
    (q : C.E m n e fun v n1 => C.E m n1 key fun kv n2 => ∃ y u o kvs g, kv = .str y u ∧ UpdF d o n2 g ∧ o.IsDictOf (strKind C.prog C.w) kvs ∧ kvs.length ≤ sizeLine ∧ ∀ o', o'.IsDictOf (strKind C.prog C.w) (stored kvs y v) → C.S m (g o') rest Q)
    (hs : swapsWith e (some (.Subscript (.Name x px) key pos)) sp.line C.env = pure false := by rfl) : C.S m n (.Assign [.Subscript (.Name x px) key pos] e sp :: rest) Q := fun h tk F N => by
  obtain ⟨h1, h2, h3⟩ := locv_some hv
  refine wpAny_execs_cons (wpAny_Assign_Subscript (q.to F N fun v h4 tk4 n4 q4 F4 N4 => nameX_L F4 h3 (q4.to F4 N4 fun kv h5 tk5 n5 q5 F5 N5 => ?_) C.hk (C.kind_of h1) h2) hs)
  obtain ⟨y, u, o, kvs, g, rfl, U, hd, hz, q5⟩ := q5
  exact kda_set (knd := strKind _ _) F5 N5 U hd (strKind_is _ _ _ _) hz fun h6 o' F6 N6 hd6 => q5 o' hd6 h6 _ F6 N6
end
section
theorem c_tables (prog : Program) (w : World) (news : Led) (f r : Nat) (t1 t2 : Tok) (hf : 2 ≤ f ∧ f ≤ 8) (hr : 3 ≤ r ∧ r ≤ 8) :
    Con prog w 165 3 news [.int f t1, .int r t2] (fun v nw => ∃ ta la ga lo go, v = .ref ta ∧ TabFull prog w la lo (tabOf (keyL f) (r * f)) ∧ TabFull prog w ga go (tabOf (keyD f) (r * f)) ∧ (∀ q ∈ news, @LT.lt Nat _ q.1 la ∧ @LT.lt Nat _ q.1 ga ∧ @LT.lt Nat _ q.1 ta) ∧ nw = (ta, tupOf [.ref la, .ref ga]) :: (la, lo) :: (ga, go) :: news) := by
  refine' ConX.never (runs_conX (P := False) ?ho ?hcd ?hbm ?hk4 (fun z => z.elim) ?run ?hbind ?hloc ?hco ?hgen ?hk ?hcell)
  (case ho => k_is)
  (case hcd => k_is)
  (case hbm => k_is)
  (case hk4 => k_is)
  (case hbind => exact fun _ => BindsTo.of_eq rfl)
  (case hloc => exact locs rfl)
  (case hco => exact rfl)
  (case hgen => exact rfl)
  (case hk => exact rfl)
  (case hcell => decide)
  rintro C Q rfl rfl hn0 hP hQ
  refine s_let ?_
  intro m0
  (repeat' (first | with_reducible intro _ | ((with_reducible refine e_binP ?_); (first | (with_unfolding_all change Cx.R _ _ _ _ _) | (intro _; (with_unfolding_all change Cx.R _ _ _ _ _)) | (intro _; intro _; (with_unfolding_all change Cx.R _ _ _ _ _)))) | ((with_reducible refine e_subP ?_); (first | (with_unfolding_all change Cx.R _ _ _ _ _) | (intro _; (with_unfolding_all change Cx.R _ _ _ _ _)) | (intro _; intro _; (with_unfolding_all change Cx.R _ _ _ _ _)))) | ((with_reducible refine' l_plain fun _ => ?_); (with_unfolding_all change Cx.R _ _ _ _ _)) | (with_reducible refine s_return ?_) | (with_reducible refine on_next ?_) | (with_reducible refine e_bin ?_) | (with_reducible refine v_add fun _ => ?_) | (with_reducible refine l_nil ?_) | ((with_reducible refine' e_local ?kv_52 ?_); (case kv_52 => exact rfl)) | ((with_reducible refine' l_cons ?_ ?ke_52); (case ke_52 => exact rfl)) | ((with_reducible refine' v_mul ?km_52 fun _ => ?_); (case km_52 => first | (with_reducible assumption) | (with_reducible exact mul8 (by with_reducible assumption)) | (with_reducible exact mul100 (by with_reducible assumption)) | mul_fits)) | ((with_reducible refine' v_item ?k0_52 ?k1_52 ?k2_52 (fun _ => ?_) ?kd_52 ?ke_52); (case kd_52 => with_unfolding_all rfl); (case ke_52 => (intro _; with_unfolding_all rfl)); (case k0_52 => first | (with_reducible assumption) | decide | assumption); (case k1_52 => first | omega | exact Int.lt_of_lt_of_le (by with_reducible assumption) (by decide)); (case k2_52 => first | omega | decide)) | (with_reducible refine ⟨_, _, rfl, ?_⟩) | ((with_reducible refine' s_pair ?_ ?k1_52 ?k2_52 ?ks_52 ?kw_52); (case k1_52 => exact rfl); (case k2_52 => exact rfl); (case ks_52 => exact rfl); (case kw_52 => exact rfl)) | (with_reducible refine e_dict0 fun _ _ _ _ _ => ?_) | ((with_reducible refine' s_setSub ?kv_52 ?_ ?ks_52); (case kv_52 => exact rfl); (case ks_52 => exact rfl)) | ((with_reducible refine' e_strI ?kf_52 ?kb_52 ?kx_52 ?kh_52 ?_); (case kf_52 => k_is); (case kb_52 => boot_fast); (case kx_52 => exact rfl); (case kh_52 => exact rfl)) | ((with_reducible refine' And.intro ?ka_52 (And.intro ?kb_52 (fun _ => ?_))); (case ka_52 => (with_reducible assumption)); (case kb_52 => (with_reducible assumption))) | ((with_reducible refine' v_cat ?kz_52 (fun _ => ?_)); (case kz_52 => (with_reducible assumption))) | (with_reducible refine e_tuple ?_) | ((with_reducible refine' v_tuple ?kz_52 fun _ _ => ?_); (case kz_52 => exact Nat.le_of_ble_eq_true rfl)) | fail))
  rename_i d1 o1 l1 lo1 hs1 d2 o2 l2 lo2 hs2 ma mb
  have l12 : @LT.lt Nat _ d1 d2 := l2 _ (.head _)
  refine s_seq (forR1 (σ := Obj × Obj × List (Str × Value) × List (Str × Value)) (fun _ => []) [Str.ofString "place"] rfl ?kf ?kb rfl (fun _ => rfl) rfl ?_)
  (case kf => k_is)
  (case kb => boot_fast)
  (repeat' (first | with_reducible intro _ | ((with_reducible refine e_binP ?_); (first | (with_unfolding_all change Cx.R _ _ _ _ _) | (intro _; (with_unfolding_all change Cx.R _ _ _ _ _)) | (intro _; intro _; (with_unfolding_all change Cx.R _ _ _ _ _)))) | ((with_reducible refine e_subP ?_); (first | (with_unfolding_all change Cx.R _ _ _ _ _) | (intro _; (with_unfolding_all change Cx.R _ _ _ _ _)) | (intro _; intro _; (with_unfolding_all change Cx.R _ _ _ _ _)))) | ((with_reducible refine' l_plain fun _ => ?_); (with_unfolding_all change Cx.R _ _ _ _ _)) | (with_reducible refine s_return ?_) | (with_reducible refine on_next ?_) | (with_reducible refine e_bin ?_) | (with_reducible refine v_add fun _ => ?_) | (with_reducible refine l_nil ?_) | ((with_reducible refine' e_local ?kv_53 ?_); (case kv_53 => exact rfl)) | ((with_reducible refine' l_cons ?_ ?ke_53); (case ke_53 => exact rfl)) | ((with_reducible refine' v_mul ?km_53 fun _ => ?_); (case km_53 => first | (with_reducible assumption) | (with_reducible exact mul8 (by with_reducible assumption)) | (with_reducible exact mul100 (by with_reducible assumption)) | mul_fits)) | ((with_reducible refine' v_item ?k0_53 ?k1_53 ?k2_53 (fun _ => ?_) ?kd_53 ?ke_53); (case kd_53 => with_unfolding_all rfl); (case ke_53 => (intro _; with_unfolding_all rfl)); (case k0_53 => first | (with_reducible assumption) | decide | assumption); (case k1_53 => first | omega | exact Int.lt_of_lt_of_le (by with_reducible assumption) (by decide)); (case k2_53 => first | omega | decide)) | (with_reducible refine ⟨_, _, rfl, ?_⟩) | ((with_reducible refine' s_pair ?_ ?k1_53 ?k2_53 ?ks_53 ?kw_53); (case k1_53 => exact rfl); (case k2_53 => exact rfl); (case ks_53 => exact rfl); (case kw_53 => exact rfl)) | (with_reducible refine e_dict0 fun _ _ _ _ _ => ?_) | ((with_reducible refine' s_setSub ?kv_53 ?_ ?ks_53); (case kv_53 => exact rfl); (case ks_53 => exact rfl)) | ((with_reducible refine' e_strI ?kf_53 ?kb_53 ?kx_53 ?kh_53 ?_); (case kf_53 => k_is); (case kb_53 => boot_fast); (case kx_53 => exact rfl); (case kh_53 => exact rfl)) | ((with_reducible refine' And.intro ?ka_53 (And.intro ?kb_53 (fun _ => ?_))); (case ka_53 => (with_reducible assumption)); (case kb_53 => (with_reducible assumption))) | ((with_reducible refine' v_cat ?kz_53 (fun _ => ?_)); (case kz_53 => (with_reducible assumption))) | (with_reducible refine e_tuple ?_) | ((with_reducible refine' v_tuple ?kz_53 fun _ _ => ?_); (case kz_53 => exact Nat.le_of_ble_eq_true rfl)) | fail))
  refine ⟨r, r, _, fun c => (d2, c.2.1) :: (d1, c.1) :: news, fun i c => c.1.IsDictOf (strKind _ _) c.2.2.1 ∧ c.2.1.IsDictOf (strKind _ _) c.2.2.2 ∧ PairsAre c.2.2.1 (tabOf (keyL f) (i * f)) ∧ PairsAre c.2.2.2 (tabOf (keyD f) (i * f)), (o1, o2, [], []), rfl, rfl, Nat.lt_of_le_of_lt hr.2 (by decide), rfl, (fun _ hp => nomatch hp), ⟨hs1, hs2, by rw [Nat.zero_mul]; trivial, by rw [Nat.zero_mul]; trivial⟩, ?_, ?_⟩
  · rintro ⟨c1, c2, c3, c4⟩ i ti u9 own hi9 hoff9 ⟨p1, p2, p3, p4⟩
    dsimp only at p1 p2 p3 p4
    dsimp -zeta only [within, kstB]
    intro m9
    have hi1 : i * f ≤ 64 := Nat.le_trans (Nat.mul_le_mul (Nat.le_of_lt (Nat.lt_of_lt_of_le hi9 hr.2)) hf.2) (by decide)
    refine s_letQ ?_
    intro Q9
    refine s_seq (forR1 (σ := Obj × Obj × List (Str × Value) × List (Str × Value)) (fun _ => []) [] rfl ?kf2 ?kb2 rfl (fun _ => rfl) rfl ?_)
    (case kf2 => k_is)
    (case kb2 => boot_fast)
    (repeat' (first | with_reducible intro _ | ((with_reducible refine e_binP ?_); (first | (with_unfolding_all change Cx.R _ _ _ _ _) | (intro _; (with_unfolding_all change Cx.R _ _ _ _ _)) | (intro _; intro _; (with_unfolding_all change Cx.R _ _ _ _ _)))) | ((with_reducible refine e_subP ?_); (first | (with_unfolding_all change Cx.R _ _ _ _ _) | (intro _; (with_unfolding_all change Cx.R _ _ _ _ _)) | (intro _; intro _; (with_unfolding_all change Cx.R _ _ _ _ _)))) | ((with_reducible refine' l_plain fun _ => ?_); (with_unfolding_all change Cx.R _ _ _ _ _)) | (with_reducible refine s_return ?_) | (with_reducible refine on_next ?_) | (with_reducible refine e_bin ?_) | (with_reducible refine v_add fun _ => ?_) | (with_reducible refine l_nil ?_) | ((with_reducible refine' e_local ?kv_54 ?_); (case kv_54 => exact rfl)) | ((with_reducible refine' l_cons ?_ ?ke_54); (case ke_54 => exact rfl)) | ((with_reducible refine' v_mul ?km_54 fun _ => ?_); (case km_54 => first | (with_reducible assumption) | (with_reducible exact mul8 (by with_reducible assumption)) | (with_reducible exact mul100 (by with_reducible assumption)) | mul_fits)) | ((with_reducible refine' v_item ?k0_54 ?k1_54 ?k2_54 (fun _ => ?_) ?kd_54 ?ke_54); (case kd_54 => with_unfolding_all rfl); (case ke_54 => (intro _; with_unfolding_all rfl)); (case k0_54 => first | (with_reducible assumption) | decide | assumption); (case k1_54 => first | omega | exact Int.lt_of_lt_of_le (by with_reducible assumption) (by decide)); (case k2_54 => first | omega | decide)) | (with_reducible refine ⟨_, _, rfl, ?_⟩) | ((with_reducible refine' s_pair ?_ ?k1_54 ?k2_54 ?ks_54 ?kw_54); (case k1_54 => exact rfl); (case k2_54 => exact rfl); (case ks_54 => exact rfl); (case kw_54 => exact rfl)) | (with_reducible refine e_dict0 fun _ _ _ _ _ => ?_) | ((with_reducible refine' s_setSub ?kv_54 ?_ ?ks_54); (case kv_54 => exact rfl); (case ks_54 => exact rfl)) | ((with_reducible refine' e_strI ?kf_54 ?kb_54 ?kx_54 ?kh_54 ?_); (case kf_54 => k_is); (case kb_54 => boot_fast); (case kx_54 => exact rfl); (case kh_54 => exact rfl)) | ((with_reducible refine' And.intro ?ka_54 (And.intro ?kb_54 (fun _ => ?_))); (case ka_54 => (with_reducible assumption)); (case kb_54 => (with_reducible assumption))) | ((with_reducible refine' v_cat ?kz_54 (fun _ => ?_)); (case kz_54 => (with_reducible assumption))) | (with_reducible refine e_tuple ?_) | ((with_reducible refine' v_tuple ?kz_54 fun _ _ => ?_); (case kz_54 => exact Nat.le_of_ble_eq_true rfl)) | fail))
    refine ⟨f, f, _, fun c => (d2, c.2.1) :: (d1, c.1) :: (news ++ own), fun j c => c.1.IsDictOf (strKind _ _) c.2.2.1 ∧ c.2.1.IsDictOf (strKind _ _) c.2.2.2 ∧ PairsAre c.2.2.1 (tabOf (keyL f) (i * f + j)) ∧ PairsAre c.2.2.2 (tabOf (keyD f) (i * f + j)), (c1, c2, c3, c4), rfl, rfl, Nat.lt_of_le_of_lt hf.2 (by decide), rfl, (fun _ hp => nomatch hp), ⟨p1, p2, p3, p4⟩, ?_, ?_⟩
    · rintro ⟨e1, e2, e3, e4⟩ j tj u8 own8 hj8 hoff8 ⟨q1, q2, q3, q4⟩
      dsimp only at q1 q2 q3 q4
      dsimp -zeta only [within, kstB]
      intro m8
      have g3 : e3.length ≤ 100 := by have := q3.length; rw [tabOf, List.length_map, List.length_range] at this; exact this ▸ Nat.le_trans (Nat.add_le_add hi1 (Nat.le_trans (Nat.le_of_lt hj8) hf.2)) (by decide)
      have g4 : e4.length ≤ 100 := by have := q4.length; rw [tabOf, List.length_map, List.length_range] at this; exact this ▸ Nat.le_trans (Nat.add_le_add hi1 (Nat.le_trans (Nat.le_of_lt hj8) hf.2)) (by decide)
      have hi8 : i < 8 := Nat.lt_of_lt_of_le hi9 hr.2
      have hj9 : j < 8 := Nat.lt_of_lt_of_le hj8 hf.2
      obtain ⟨j0, j8⟩ := small_at hj9
      obtain ⟨i0, i8⟩ := small_up hi8
      obtain ⟨k0, k8⟩ := small_up hj9
      have z1 : (Txt.item (Str.ofString "abcdefgh") (0 + (j : Int))).length + (Str.ofString (toString (0 + (i : Int) + 1))).length ≤ sizeLine := two_short hj8 hf.2 hi8
      have z2 : (Str.ofString (toString (0 + (j : Int) + 1))).length + (Str.ofString (toString (0 + (i : Int) + 1))).length ≤ sizeLine := two_shortD hj8 hf.2 hi8
      have zm : IntMulOk (0 + (i : Int)) (f : Int) := mul8 ⟨Int.ofNat_le.mpr hf.1, Int.ofNat_le.mpr hf.2⟩
      have m1 : ∀ p ∈ news ++ own ++ own8, p.1 ≠ d1 := List.forall_mem_append.mpr ⟨List.forall_mem_append.mpr ⟨fun p hp => Nat.ne_of_lt (l1 p hp), fun p hp => hoff9.ne (.tail _ (.head _)) p hp⟩, fun p hp => hoff8.ne (.tail _ (.head _)) p hp⟩
      have m2 : ∀ p ∈ (d1, e1) :: (news ++ own ++ own8), p.1 ≠ d2 := List.forall_mem_cons.mpr ⟨Nat.ne_of_lt l12, List.forall_mem_append.mpr ⟨List.forall_mem_append.mpr ⟨fun p hp => Nat.ne_of_lt (l2 p (.tail _ hp)), fun p hp => hoff9.ne (.head _) p hp⟩, fun p hp => hoff8.ne (.head _) p hp⟩⟩
      refine s_letQ ?_
      intro Q8
      (repeat' (first | with_reducible intro _ | ((with_reducible refine e_binP ?_); (first | (with_unfolding_all change Cx.R _ _ _ _ _) | (intro _; (with_unfolding_all change Cx.R _ _ _ _ _)) | (intro _; intro _; (with_unfolding_all change Cx.R _ _ _ _ _)))) | ((with_reducible refine e_subP ?_); (first | (with_unfolding_all change Cx.R _ _ _ _ _) | (intro _; (with_unfolding_all change Cx.R _ _ _ _ _)) | (intro _; intro _; (with_unfolding_all change Cx.R _ _ _ _ _)))) | ((with_reducible refine' l_plain fun _ => ?_); (with_unfolding_all change Cx.R _ _ _ _ _)) | (with_reducible refine s_return ?_) | (with_reducible refine on_next ?_) | (with_reducible refine e_bin ?_) | (with_reducible refine v_add fun _ => ?_) | (with_reducible refine l_nil ?_) | ((with_reducible refine' e_local ?kv_55 ?_); (case kv_55 => exact rfl)) | ((with_reducible refine' l_cons ?_ ?ke_55); (case ke_55 => exact rfl)) | ((with_reducible refine' v_mul ?km_55 fun _ => ?_); (case km_55 => first | (with_reducible assumption) | (with_reducible exact mul8 (by with_reducible assumption)) | (with_reducible exact mul100 (by with_reducible assumption)) | mul_fits)) | ((with_reducible refine' v_item ?k0_55 ?k1_55 ?k2_55 (fun _ => ?_) ?kd_55 ?ke_55); (case kd_55 => with_unfolding_all rfl); (case ke_55 => (intro _; with_unfolding_all rfl)); (case k0_55 => first | (with_reducible assumption) | decide | assumption); (case k1_55 => first | omega | exact Int.lt_of_lt_of_le (by with_reducible assumption) (by decide)); (case k2_55 => first | omega | decide)) | (with_reducible refine ⟨_, _, rfl, ?_⟩) | ((with_reducible refine' s_pair ?_ ?k1_55 ?k2_55 ?ks_55 ?kw_55); (case k1_55 => exact rfl); (case k2_55 => exact rfl); (case ks_55 => exact rfl); (case kw_55 => exact rfl)) | (with_reducible refine e_dict0 fun _ _ _ _ _ => ?_) | ((with_reducible refine' s_setSub ?kv_55 ?_ ?ks_55); (case kv_55 => exact rfl); (case ks_55 => exact rfl)) | ((with_reducible refine' e_strI ?kf_55 ?kb_55 ?kx_55 ?kh_55 ?_); (case kf_55 => k_is); (case kb_55 => boot_fast); (case kx_55 => exact rfl); (case kh_55 => exact rfl)) | ((with_reducible refine' And.intro ?ka_55 (And.intro ?kb_55 (fun _ => ?_))); (case ka_55 => (with_reducible assumption)); (case kb_55 => (with_reducible assumption))) | ((with_reducible refine' v_cat ?kz_55 (fun _ => ?_)); (case kz_55 => (with_reducible assumption))) | (with_reducible refine e_tuple ?_) | ((with_reducible refine' v_tuple ?kz_55 fun _ _ => ?_); (case kz_55 => exact Nat.le_of_ble_eq_true rfl)) | fail))
      refine ⟨_, _, e1, e3, _, rfl, .tail (fun h => m2 _ (.head _) h.symm) (.head m1), q1, ?g3, fun o1' hd1 => ?_⟩
      case g3 => exact Nat.le_trans g3 (by decide)
      (repeat' (first | with_reducible intro _ | ((with_reducible refine e_binP ?_); (first | (with_unfolding_all change Cx.R _ _ _ _ _) | (intro _; (with_unfolding_all change Cx.R _ _ _ _ _)) | (intro _; intro _; (with_unfolding_all change Cx.R _ _ _ _ _)))) | ((with_reducible refine e_subP ?_); (first | (with_unfolding_all change Cx.R _ _ _ _ _) | (intro _; (with_unfolding_all change Cx.R _ _ _ _ _)) | (intro _; intro _; (with_unfolding_all change Cx.R _ _ _ _ _)))) | ((with_reducible refine' l_plain fun _ => ?_); (with_unfolding_all change Cx.R _ _ _ _ _)) | (with_reducible refine s_return ?_) | (with_reducible refine on_next ?_) | (with_reducible refine e_bin ?_) | (with_reducible refine v_add fun _ => ?_) | (with_reducible refine l_nil ?_) | ((with_reducible refine' e_local ?kv_56 ?_); (case kv_56 => exact rfl)) | ((with_reducible refine' l_cons ?_ ?ke_56); (case ke_56 => exact rfl)) | ((with_reducible refine' v_mul ?km_56 fun _ => ?_); (case km_56 => first | (with_reducible assumption) | (with_reducible exact mul8 (by with_reducible assumption)) | (with_reducible exact mul100 (by with_reducible assumption)) | mul_fits)) | ((with_reducible refine' v_item ?k0_56 ?k1_56 ?k2_56 (fun _ => ?_) ?kd_56 ?ke_56); (case kd_56 => with_unfolding_all rfl); (case ke_56 => (intro _; with_unfolding_all rfl)); (case k0_56 => first | (with_reducible assumption) | decide | assumption); (case k1_56 => first | omega | exact Int.lt_of_lt_of_le (by with_reducible assumption) (by decide)); (case k2_56 => first | omega | decide)) | (with_reducible refine ⟨_, _, rfl, ?_⟩) | ((with_reducible refine' s_pair ?_ ?k1_56 ?k2_56 ?ks_56 ?kw_56); (case k1_56 => exact rfl); (case k2_56 => exact rfl); (case ks_56 => exact rfl); (case kw_56 => exact rfl)) | (with_reducible refine e_dict0 fun _ _ _ _ _ => ?_) | ((with_reducible refine' s_setSub ?kv_56 ?_ ?ks_56); (case kv_56 => exact rfl); (case ks_56 => exact rfl)) | ((with_reducible refine' e_strI ?kf_56 ?kb_56 ?kx_56 ?kh_56 ?_); (case kf_56 => k_is); (case kb_56 => boot_fast); (case kx_56 => exact rfl); (case kh_56 => exact rfl)) | ((with_reducible refine' And.intro ?ka_56 (And.intro ?kb_56 (fun _ => ?_))); (case ka_56 => (with_reducible assumption)); (case kb_56 => (with_reducible assumption))) | ((with_reducible refine' v_cat ?kz_56 (fun _ => ?_)); (case kz_56 => (with_reducible assumption))) | (with_reducible refine e_tuple ?_) | ((with_reducible refine' v_tuple ?kz_56 fun _ _ => ?_); (case kz_56 => exact Nat.le_of_ble_eq_true rfl)) | fail))
      refine ⟨_, _, e2, e4, _, rfl, .head (List.forall_mem_cons.mpr ⟨m2 (d1, e1) (.head _), fun p hp => m2 p (.tail _ hp)⟩), q2, ?g4, fun o2' hd2 => ?_⟩
      case g4 => exact Nat.le_trans g4 (by decide)
      refine s_nil ⟨(o1', o2', _, _), fun p hp => ?_, fun p hp => ?_, hoff8, fun p hp => (nomatch hp), fun z h1 _ h3 => ?_, hd1, hd2, tab_step q3 (keyL_at hj8 hf.2 hi8) val_at (fun k hk e => absurd (keyL_inj e) (Nat.ne_of_lt hk)), tab_step q4 (keyD_at hj8 hf.2 hi8) val_at (fun k hk e => absurd (keyD_inj e) (Nat.ne_of_lt hk))⟩
      · exact List.mem_append_left own8 hp
      · exact .tail _ (.tail _ (List.mem_append_right _ hp))
      · exact if_neg h1
    · rintro ⟨e1, e2, e3, e4⟩ u8 ⟨q1, q2, q3, q4⟩
      dsimp only at q1 q2 q3 q4
      dsimp -zeta only [within, kstB]
      intro m8
      have e9 : i * f + f = (i + 1) * f := (Nat.succ_mul i f).symm
      refine s_nil ⟨(e1, e2, e3, e4), fun p hp => ?_, fun p hp => ?_, hoff9, fun p hp => (nomatch hp), fun z h1 _ h3 => ?_, q1, q2, e9 ▸ q3, e9 ▸ q4⟩
      · rcases List.mem_cons.mp hp with rfl | hp
        · exact .head _
        · rcases List.mem_cons.mp hp with rfl | hp
          · exact .tail _ (.head _)
          · exact .tail _ (.tail _ (List.mem_append_left _ hp))
      · exact .tail _ (.tail _ (List.mem_append_right _ hp))
      · exact (if_neg (fun e => by rw [e] at h3; exact absurd h3 (by decide))).trans ((if_neg h1).trans (if_neg (h3 ▸ Bool.false_ne_true)))
  · rintro ⟨e1, e2, e3, e4⟩ u8 ⟨q1, q2, q3, q4⟩
    dsimp only at q1 q2 q3 q4
    dsimp -zeta only [within, kstB]
    intro m8
    (repeat' (first | with_reducible intro _ | ((with_reducible refine e_binP ?_); (first | (with_unfolding_all change Cx.R _ _ _ _ _) | (intro _; (with_unfolding_all change Cx.R _ _ _ _ _)) | (intro _; intro _; (with_unfolding_all change Cx.R _ _ _ _ _)))) | ((with_reducible refine e_subP ?_); (first | (with_unfolding_all change Cx.R _ _ _ _ _) | (intro _; (with_unfolding_all change Cx.R _ _ _ _ _)) | (intro _; intro _; (with_unfolding_all change Cx.R _ _ _ _ _)))) | ((with_reducible refine' l_plain fun _ => ?_); (with_unfolding_all change Cx.R _ _ _ _ _)) | (with_reducible refine s_return ?_) | (with_reducible refine on_next ?_) | (with_reducible refine e_bin ?_) | (with_reducible refine v_add fun _ => ?_) | (with_reducible refine l_nil ?_) | ((with_reducible refine' e_local ?kv_57 ?_); (case kv_57 => exact rfl)) | ((with_reducible refine' l_cons ?_ ?ke_57); (case ke_57 => exact rfl)) | ((with_reducible refine' v_mul ?km_57 fun _ => ?_); (case km_57 => first | (with_reducible assumption) | (with_reducible exact mul8 (by with_reducible assumption)) | (with_reducible exact mul100 (by with_reducible assumption)) | mul_fits)) | ((with_reducible refine' v_item ?k0_57 ?k1_57 ?k2_57 (fun _ => ?_) ?kd_57 ?ke_57); (case kd_57 => with_unfolding_all rfl); (case ke_57 => (intro _; with_unfolding_all rfl)); (case k0_57 => first | (with_reducible assumption) | decide | assumption); (case k1_57 => first | omega | exact Int.lt_of_lt_of_le (by with_reducible assumption) (by decide)); (case k2_57 => first | omega | decide)) | (with_reducible refine ⟨_, _, rfl, ?_⟩) | ((with_reducible refine' s_pair ?_ ?k1_57 ?k2_57 ?ks_57 ?kw_57); (case k1_57 => exact rfl); (case k2_57 => exact rfl); (case ks_57 => exact rfl); (case kw_57 => exact rfl)) | (with_reducible refine e_dict0 fun _ _ _ _ _ => ?_) | ((with_reducible refine' s_setSub ?kv_57 ?_ ?ks_57); (case kv_57 => exact rfl); (case ks_57 => exact rfl)) | ((with_reducible refine' e_strI ?kf_57 ?kb_57 ?kx_57 ?kh_57 ?_); (case kf_57 => k_is); (case kb_57 => boot_fast); (case kx_57 => exact rfl); (case kh_57 => exact rfl)) | ((with_reducible refine' And.intro ?ka_57 (And.intro ?kb_57 (fun _ => ?_))); (case ka_57 => (with_reducible assumption)); (case kb_57 => (with_reducible assumption))) | ((with_reducible refine' v_cat ?kz_57 (fun _ => ?_)); (case kz_57 => (with_reducible assumption))) | (with_reducible refine e_tuple ?_) | ((with_reducible refine' v_tuple ?kz_57 fun _ _ => ?_); (case kz_57 => exact Nat.le_of_ble_eq_true rfl)) | fail))
    rename_i D9 l3
    exact hQ _ _ _ _ ⟨_, _, _, _, _, rfl, ⟨_, q1, lo1, q3⟩, ⟨_, q2, lo2, q4⟩, fun q hq => ⟨l1 q hq, l2 _ (.tail _ hq), l3 _ (.tail _ (.tail _ hq))⟩, rfl⟩ fun p hp => by
      rcases List.mem_cons.mp hp with rfl | hp
      · exact .head _
      · rcases List.mem_cons.mp hp with rfl | hp
        · exact .tail _ (.tail _ (.head _))
        · rcases List.mem_cons.mp hp with rfl | hp
          · exact .tail _ (.head _)
          · exact .tail _ (.tail _ (.tail _ hp))
end
section
variable {sc : Scope} {room : Nat} {C : Cx sc room} {m : Str → Option Value} {n : Led} {K : Value → Led → Prop}
theorem v_dictGet {value slice : PySem.Expr} {d : Addr} {o : Obj} {kvs : List (Str × Value)} {k : Str} {u : Tok} {v : Value} (hm : (d, o) ∈ n) (hd : o.IsDictOf (strKind C.prog C.w) kvs) (e : valueAt kvs k = some v) (q : K v n)
    (hs : subscripted slice false (.ref d) (.str k u) = operate [.ref d, .str k u] (getItem (.ref d) (.str k u)) := by with_unfolding_all rfl) (hg : ∀ r, letTemporaryGo value (.ref d) r = pure () := by intro _; with_unfolding_all rfl) : C.R m n (subscriptTail value slice (.ref d) (.str k u)) K := fun h tk F N =>
  kda_item (key := .str k u) N hm hd (strKind_is _ _ _ _) e ⟨h, _, n, rfl, F, N, q⟩ hs hg
end
section
theorem c_number0 (prog : Program) (w : World) (rest : Led) (d l : Addr) (o : Obj) (vs : List Value) (n : Nat) (cells : List Int) (below : Int) (tb : Tok) (hb0 : 0 < below) (hl : (l, listOf vs.toArray n) ∈ rest) (K : DeckK d l vs cells) (hne : ∀ p ∈ rest, p.1 ≠ d) (D : DeckO prog w o l) :
    Con prog w 158 1 ((d, o) :: rest) [.ref d, .int below tb] (fun v nw => ∃ r tr o', v = .int r tr ∧ 0 ≤ r ∧ r < below ∧ DeckO prog w o' l ∧ nw = (d, o') :: rest) := by
  obtain ⟨t, tk, h0, hD⟩ := D
  obtain ⟨hi, hlen, lo, hap⟩ := K
  refine' ConX.never (runs_conX (P := False) ?ho ?hcd ?hbm ?hk4 (fun z => z.elim) ?run ?hbind ?hloc ?hco ?hgen ?hk ?hcell)
  (case ho => k_is)
  (case hcd => k_is)
  (case hbm => k_is)
  (case hk4 => k_is)
  (case hbind => exact fun _ => BindsTo.of_eq rfl)
  (case hloc => exact locs rfl)
  (case hco => exact rfl)
  (case hgen => exact rfl)
  (case hk => exact rfl)
  (case hcell => decide)
  rintro C Q rfl rfl hn0 hP hQ
  refine s_let ?_
  intro m0
  have hv1 := hi.length
  have hv2 : vs.length < 2 ^ 62 := by omega
  have hc2 : cells.length < 2 ^ 62 := by omega
  have hbn : below ≠ 0 := Int.ne_of_gt hb0
  have t0 : 0 ≤ t + 1 - 1 := by omega
  have zm : IntMulOk (t + 1) 11 := mul100 (by decide)
  (repeat' (first | with_reducible intro _ | ((with_reducible refine e_subP ?_); (first | (with_unfolding_all change Cx.R _ _ _ _ _) | (intro _; (with_unfolding_all change Cx.R _ _ _ _ _)) | (intro _; intro _; (with_unfolding_all change Cx.R _ _ _ _ _)))) | (with_reducible refine s_return ?_) | ((with_reducible refine s_if ?_); intro kc) | (with_reducible refine s_skip ?_) | (with_reducible refine on_ret ?_) | ((with_reducible refine at_true ?_); (try clear kc)) | ((with_reducible refine at_false ?_); (try clear kc)) | (with_reducible refine e_int fun _ => ?_) | (with_reducible refine e_str fun _ => ?_) | (with_reducible refine e_bin ?_) | (with_reducible refine v_add fun _ => ?_) | (with_reducible refine v_sub fun _ => ?_) | (with_reducible refine b_le (fun _ => ?_) (fun _ => ?_)) | ((with_reducible refine' e_local ?kv_58 ?_); (case kv_58 => exact rfl)) | ((with_reducible refine' t_cmp ?_ ?km_58); (case km_58 => exact rfl)) | ((with_reducible refine' v_mod ?k0_58 fun _ => ?_); (case k0_58 => omega)) | (with_reducible refine e_sub ?_) | ((with_reducible refine' v_mul ?km_58 fun _ => ?_); (case km_58 => first | (with_reducible assumption) | (with_reducible exact mul8 (by with_reducible assumption)) | (with_reducible exact mul100 (by with_reducible assumption)) | mul_fits)) | ((with_reducible refine' v_div ?k0_58 ?k1_58 fun _ => ?_); (case k0_58 => omega); (case k1_58 => exact PyProof.noPylong_small (by omega))) | ((with_reducible refine' e_builtin1 ?kf_58 ?kx_58 ?kb_58 ?kv_58 ?kn_58 ?_ ?kh_58); (case kf_58 => k_is); (case kx_58 => exact rfl); (case kb_58 => exact rfl); (case kv_58 => boot_fast); (case kn_58 => decide); (case kh_58 => exact rfl)) | (with_reducible refine ⟨_, _, rfl, ?_⟩) | ((with_reducible refine' s_setSub ?kv_58 ?_ ?ks_58); (case kv_58 => exact rfl); (case ks_58 => exact rfl)) | ((with_reducible refine' v_dictGet ?km_58 ?kd_58 ?ke_58 ?_ ?ks_58 ?kg_58); (case ks_58 => with_unfolding_all rfl); (case kg_58 => (intro _; with_unfolding_all rfl)); (case km_58 => k_mem); (case kd_58 => assumption); (case ke_58 => exact rfl)) | ((with_reducible refine' v_lenL ?km_58 ?kz_58 (fun _ => ?_)); (case km_58 => k_mem); (case kz_58 => assumption)) | ((with_reducible refine' v_itemI ?km_58 ?ki_58 ?k0_58 ?k1_58 ?k2_58 (fun _ => ?_) ?kd_58); (case kd_58 => with_unfolding_all rfl); (case km_58 => k_mem); (case ki_58 => assumption); (case k0_58 => assumption); (case k1_58 => omega); (case k2_58 => assumption)) | fail))
  refine ⟨_, _, o, _, _, rfl, .head hne, hD, (show (2 : Nat) ≤ sizeLine by decide), fun o' hD' => ?_⟩
  replace hD' : o'.IsDictOf _ [(Str.ofString "cells", .ref l), (Str.ofString "turn", .int (t + 1) _)] := hD'
  clear hD
  (repeat' (first | with_reducible intro _ | ((with_reducible refine e_subP ?_); (first | (with_unfolding_all change Cx.R _ _ _ _ _) | (intro _; (with_unfolding_all change Cx.R _ _ _ _ _)) | (intro _; intro _; (with_unfolding_all change Cx.R _ _ _ _ _)))) | (with_reducible refine s_return ?_) | ((with_reducible refine s_if ?_); intro kc) | (with_reducible refine s_skip ?_) | (with_reducible refine on_ret ?_) | ((with_reducible refine at_true ?_); (try clear kc)) | ((with_reducible refine at_false ?_); (try clear kc)) | (with_reducible refine e_int fun _ => ?_) | (with_reducible refine e_str fun _ => ?_) | (with_reducible refine e_bin ?_) | (with_reducible refine v_add fun _ => ?_) | (with_reducible refine v_sub fun _ => ?_) | (with_reducible refine b_le (fun _ => ?_) (fun _ => ?_)) | ((with_reducible refine' e_local ?kv_59 ?_); (case kv_59 => exact rfl)) | ((with_reducible refine' t_cmp ?_ ?km_59); (case km_59 => exact rfl)) | ((with_reducible refine' v_mod ?k0_59 fun _ => ?_); (case k0_59 => omega)) | (with_reducible refine e_sub ?_) | ((with_reducible refine' v_mul ?km_59 fun _ => ?_); (case km_59 => first | (with_reducible assumption) | (with_reducible exact mul8 (by with_reducible assumption)) | (with_reducible exact mul100 (by with_reducible assumption)) | mul_fits)) | ((with_reducible refine' v_div ?k0_59 ?k1_59 fun _ => ?_); (case k0_59 => omega); (case k1_59 => exact PyProof.noPylong_small (by omega))) | ((with_reducible refine' e_builtin1 ?kf_59 ?kx_59 ?kb_59 ?kv_59 ?kn_59 ?_ ?kh_59); (case kf_59 => k_is); (case kx_59 => exact rfl); (case kb_59 => exact rfl); (case kv_59 => boot_fast); (case kn_59 => decide); (case kh_59 => exact rfl)) | (with_reducible refine ⟨_, _, rfl, ?_⟩) | ((with_reducible refine' s_setSub ?kv_59 ?_ ?ks_59); (case kv_59 => exact rfl); (case ks_59 => exact rfl)) | ((with_reducible refine' v_dictGet ?km_59 ?kd_59 ?ke_59 ?_ ?ks_59 ?kg_59); (case ks_59 => with_unfolding_all rfl); (case kg_59 => (intro _; with_unfolding_all rfl)); (case km_59 => k_mem); (case kd_59 => assumption); (case ke_59 => exact rfl)) | ((with_reducible refine' v_lenL ?km_59 ?kz_59 (fun _ => ?_)); (case km_59 => k_mem); (case kz_59 => assumption)) | ((with_reducible refine' v_itemI ?km_59 ?ki_59 ?k0_59 ?k1_59 ?k2_59 (fun _ => ?_) ?kd_59); (case kd_59 => with_unfolding_all rfl); (case km_59 => k_mem); (case ki_59 => assumption); (case k0_59 => assumption); (case k1_59 => omega); (case k2_59 => assumption)) | fail))
  all_goals exact hQ _ _ _ _ ⟨_, _, _, rfl, Int.fmod_nonneg_of_pos _ hb0, Int.fmod_lt_of_pos _ hb0, ⟨t + 1, _, by omega, by assumption⟩, rfl⟩ fun _ h => h
end
end part_M17
section part_M18
open LCg LCt
section
variable {prog : Program} {w : World} {A : Around} {E : Value → Shared → Prop} {s : Shared} {h₀ : Heap} {L : Addr} {m : Str → Option Value} {env : Env}
inductive SrcDT (prog : Program) (w : World) (A : Around) (h₀ : Heap) (L : Addr) (m : Str → Option Value) (env : Env) (ct elt : PySem.Expr) (x : Str) (scope : Scope) (cl : List (Str × Addr)) (Fin : Shared → List Value → Led → Prop) (xv : Value) (s₁ : Shared) : Prop
  | mk (d : Addr) (o : Obj) (kvs : List (Str × Value)) (news : Led) (hv : xv = .ref d) (hh : A.handled = none) (F : Fr h₀ L s₁.heap m) (N : News h₀ L s₁.heap news) (hm : (d, o) ∈ news) (hD : o.IsDictOf (strKind prog w) kvs) (lo : (d == sysModules) = false) (hsz : kvs.length ≤ sizeLine)
    (R : ∀ s₂ : Shared, (∃ h, s₂ = { s₁ with heap := h }) → CompRestT prog w A h₀ L m env ct elt x scope cl s₂ (fun nw => (d, o) ∈ nw) (fun i v => ∃ k y, kvs[i]? = some (k, y) ∧ (strKind prog w).is k v = true) (Fin s₂) kvs.length 0 [] news) : SrcDT prog w A h₀ L m env ct elt x scope cl Fin xv s₁
theorem listComp_dict {ct elt iter : PySem.Expr} {x : Str} {px : Pos} {scope : Scope} {cl : List (Str × Addr)} {pos : Pos} {Q : Value → Shared → Prop} (F₀ : Fr h₀ L s.heap m)
    (hclos : closureFor scope env = pure cl) (hcell : ∀ y ∈ scope.names, y.2 ≠ .cell) (hkind : scope.kind = .function)
    (hnames : ∀ y ∈ scope.names, y.2 = .local → scope.names.lookup y.1 = some .local) (hx : scope.names.lookup x = some .local)
    (h : wpAny (model prog w) A (eval iter env) (SrcDT prog w A h₀ L m env ct elt x scope cl (fun s₂ => FinE h₀ L m s₂ Q)) E s)
    (hs : ∀ x, foldedSetIterable iter env x = pure x := by intro _; rfl) :
    wpAny (model prog w) A (eval (.ListComp elt [⟨.Name x px, iter, [ct], 0⟩] scope pos) env) Q E s := by
  rw [eval_ListComp]
  refine wpAny_comprehension_free (use := none) rfl hs hclos hkind hnames (wpAny_mono h (fun xv s₁ h₁ => ?_) fun _ _ e => e)
  obtain ⟨d, o, kvs, news, rfl, hh, F, N, hm, hD, lo, hsz, R⟩ := h₁
  obtain ⟨es, ep, hD'⟩ := hD
  have at_ : ∀ h : Heap, h.get? d = some o → h.DictAt (strKind prog w) d kvs ep := fun h e => ⟨o, es, e, hD'⟩
  have hd₁ := at_ _ (N _ hm).1
  have hlt : d < s₁.heap.objs.size := Heap.lt_size (N _ hm).1
  refine wpAny_pyIter_dict lo hd₁ ?_
  have up : ∀ b o, s₁.heap.get? b = some o → (s₁.heap.push { cls := .type "dict_keyiterator", data := .fields #[.ref d, .int 0 0, .int kvs.length 0, .int ep 0] }).get? b = some o := fun b o e => Heap.get?_push_of_some _ e
  refine block_T (Walks.dictKeys hh s₁.heap.objs.size d (Nat.ne_of_lt hlt) kvs ep) hsz (fun i h st => by obtain ⟨o, e, _⟩ := st.1; exact ⟨o, e⟩)
    (fun i h h' o' nw st e e' k N' S => ⟨by obtain ⟨o₁, q, r⟩ := st.1; rw [e] at q; cases q; exact ⟨o', e', r⟩, at_ _ (N' _ S).1⟩) hcell hkind hx ⟨⟨_, Heap.get?_push_size _ rfl, rfl, rfl⟩, at_ _ (up _ _ (N _ hm).1)⟩ (fun b hb => ?_)
    (F.keeps up) (N.grown up) (Nat.ne_of_lt F.ns.lt) (next_is_new F) (fun p hp => Nat.ne_of_lt (Heap.lt_size (N p hp).1)) hm (R _ ⟨_, rfl⟩) ?_
  · show b < (s₁.heap.push _).objs.size
    rw [Heap.size_push]
    rcases List.mem_cons.mp hb with rfl | hb
    · exact Nat.lt_succ_self _
    · rw [List.mem_singleton.mp hb]; exact Nat.lt_succ_of_lt hlt
  · intro D C h tk m' ys news' F' N' o1 hn hC₀ hD₀ hCL hDL hCD offC fin
    refine ⟨m', hn, fun h'' hs'' => fin D h'' tk (F'.change hs'' hCL hC₀) (fun p hp => ?_) o1⟩
    refine ⟨hs''.extBut _ _ ?_ (N' p hp).1, (N' p hp).2⟩
    rcases List.mem_cons.mp hp with rfl | hp
    · exact Ne.symm hCD
    · exact offC p hp
end
theorem pairsAre_at : ∀ {kvs : List (Str × Value)} {ps : List (Str × Int)}, PairsAre kvs ps → ∀ (i : Nat) (k : Str) (y : Value), kvs[i]? = some (k, y) → ∃ n : Int, ps[i]? = some (k, n)
  | p :: r, q :: r', ⟨h1, _, h3⟩, i, k, y, e => by
    cases i with
    | zero =>
      simp at e
      subst e
      dsimp only at h1
      subst h1
      exact ⟨q.2, rfl⟩
    | succ i => exact pairsAre_at h3 i k y e
  | [], [], _, i, k, y, e => by simp at e
  | [], _ :: _, h, _, _, _, _ => nomatch h
  | _ :: _, [], h, _, _, _, _ => nomatch h
theorem tabOf_at {key : Nat → Str} {n i : Nat} (hi : i < n) : (tabOf key n)[i]? = some (key i, (i : Int)) := by
  unfold tabOf; rw [List.getElem?_map, List.getElem?_range hi]; rfl
theorem tabOf_lookup {key : Nat → Str} (inj : ∀ i j, key i = key j → i = j) {i : Nat} : ∀ {n : Nat}, i < n → (tabOf key n).lookup (key i) = some (i : Int) := by
  intro n hi
  have : ∀ l : List Nat, i ∈ l → (l.map fun i => (key i, (i : Int))).lookup (key i) = some (i : Int) := by
    intro l
    induction l with
    | nil => intro h; cases h
    | cons a r ih =>
      intro h
      rw [List.map_cons, List.lookup_cons]
      by_cases e : key i = key a
      · have := inj _ _ e
        subst this
        simp
      · rw [beq_eq_false_iff_ne.mpr e]
        rcases List.mem_cons.mp h with rfl | h
        · exact absurd rfl e
        · exact ih h
  exact this _ (List.mem_range.mpr hi)
section
variable {sc : Scope} {room : Nat} {C : Cx sc room} {m : Str → Option Value} {n : Led} {K : Value → Led → Prop}
theorem e_compDT {ct elt iter : PySem.Expr} {x : Str} {px : Pos} {scope : Scope} {cl : List (Str × Addr)} {pos : Pos}
    (hclos : closureFor scope C.env = pure cl) (hcell : ∀ z ∈ scope.names, z.2 ≠ .cell) (hkind : scope.kind = .function)
    (hnames : ∀ z ∈ scope.names, z.2 = .local → scope.names.lookup z.1 = some .local) (hx : scope.names.lookup x = some .local) (hs : ∀ x, foldedSetIterable iter C.env x = pure x) {d : Addr} {o : Obj} {kvs : List (Str × Value)} (Inv : Nat → List Value → Led → Prop)
    (q : C.E m n iter fun v n1 => v = .ref d ∧ (d, o) ∈ n1 ∧ Inv 0 [] n1) (hD : o.IsDictOf (strKind C.prog C.w) kvs) (lo : (d == sysModules) = false) (hz : kvs.length ≤ sizeLine)
    (turn : C.turnsT m ct elt x scope cl kvs.length (fun i v => ∃ k y, kvs[i]? = some (k, y) ∧ (strKind C.prog C.w).is k v = true) (fun nw => (d, o) ∈ nw) Inv)
    (fin : ∀ ys n2 D, Inv kvs.length ys n2 → Off1 D n2 → K (.ref D) ((D, lst ys) :: n2)) : C.E m n (.ListComp elt [⟨.Name x px, iter, [ct], 0⟩] scope pos) K := fun h tk F N =>
  listComp_dict F hclos hcell hkind hnames hx (q.to F N fun v h1 tk1 n1 q1 F1 N1 => q1.1 ▸ ⟨d, o, kvs, n1, rfl, rfl, F1, N1, q1.2.1, hD, lo, hz, fun s₂ e => turnsT_rest turn q1.2.2 fun ys n2 hI D h tk F N off => by
    obtain ⟨g, rfl⟩ := e
    exact ⟨h, tk, _, rfl, F, N, fin ys n2 D hI off⟩⟩) hs
theorem v_tabAt {value slice : PySem.Expr} {d : Addr} {o : Obj} {tab : Str → Option Int} {k : Str} {u : Tok} {i : Int} (hp : (d, o) ∈ n) (D : TabIs C.prog C.w d o tab) (e : tab k = some i) (q : ∀ t, K (.int i t) n)
    (hs : subscripted slice false (.ref d) (.str k u) = operate [.ref d, .str k u] (getItem (.ref d) (.str k u)) := by with_unfolding_all rfl) (hg : ∀ r, letTemporaryGo value (.ref d) r = pure () := by intro _; with_unfolding_all rfl) : C.R m n (subscriptTail value slice (.ref d) (.str k u)) K := fun h tk F N =>
  tab_item N hp D e (fun t => ⟨h, _, n, rfl, F, N, q t⟩) hs hg
end
section
theorem c_named (prog : Program) (w : World) (news : Led) (a : Addr) (o : Obj) (key : Nat → Str) (n : Nat) (num : Nat) (t : Tok) (inj : ∀ i j, key i = key j → i = j) (ho : (a, o) ∈ news) (hT : TabFull prog w a o (tabOf key n)) (hb : n ≤ 64) (hnum : num < n) :
    Con prog w 184 12 news [.ref a, .int num t] (fun v nw => nw = news ∧ ∃ u, v = .str (key num) u) := by
  have hTb := hT.tab
  obtain ⟨kvs, hD, lo, hP⟩ := hT
  have hkl : kvs.length = n := by rw [hP.length, tabOf, List.length_map, List.length_range]
  refine' runs_conC ?ho ?hcd ?run ?hbind ?hkd ?hnd ?hco ?hgen ?hk
  (case ho => k_is)
  (case hcd => k_is)
  (case hbind => exact fun _ => BindsTo.of_eq rfl)
  (case hkd => exact rfl)
  (case hco => exact rfl)
  (case hgen => exact rfl)
  (case hk => exact rfl)
  (case hnd => intro k; (show [Str.ofString "number", Str.ofString "table"].Nodup); decide +kernel)
  rintro C Q cells rfl rfl hcl hlow Y hQ
  obtain ⟨o1, o2, rfl, d1, d2⟩ := CellsAre.two Y
  clear Y
  replace d1 : o1.data = .cell (some (.int num t)) := d1
  replace d2 : o2.data = .cell (some (.ref a)) := d2
  have c2 : C.cl.lookup (Str.ofString "table") = some (C.L + 1) := by rw [hcl]; rfl
  replace hcl : C.cl = [(Str.ofString "number", C.L + 1 + 1), (Str.ofString "table", C.L + 1)] := hcl
  have hE : C.env = envX C.name _ C.L C.a C.cd C.cl := rfl
  rw [hcl] at hE
  refine s_let ?_
  intro m0
  generalize C.L + 1 + 1 = a1 at hE ⊢
  generalize C.L + 1 = a2 at c2 hE ⊢
  clear hcl hlow
  refine (show ∀ n0 : Led, (a1, o1) ∈ n0 → (a2, o2) ∈ n0 → (a, o) ∈ n0 → (∀ p ∈ news, p ∈ n0) → C.S m0 n0 _ Q from ?_) _ (.head _) (.tail _ (.head _)) (.tail _ (.tail _ ho)) fun p hp => .tail _ (.tail _ hp)
  clear ho
  intro n0 n1 n2 ho sub
  (repeat' (first | with_reducible intro _ | (with_reducible refine s_return ?_) | ((with_reducible refine at_true ?_); (try clear kc)) | ((with_reducible refine at_false ?_); (try clear kc)) | (with_reducible refine e_int fun _ => ?_) | (with_reducible refine b_eq (fun _ => ?_) (fun _ => ?_)) | ((with_reducible refine' t_cmp ?_ ?km_60); (case km_60 => exact rfl)) | (with_reducible refine e_sub ?_) | (with_reducible refine ⟨_, _, rfl, ?_⟩) | ((with_reducible refine' e_cell ?kx_60 ?kb_60 ?kc_60 ?km_60 ?kd_60 ?_); (case kx_60 => exact rfl); (case kb_60 => exact rfl); (case kc_60 => assumption); (case km_60 => k_mem); (case kd_60 => assumption)) | ((with_reducible refine' x_cell ?kc_60 ?km_60 ?kd_60 ?_ ?kk_60 ?kx_60 ?kb_60); (case kx_60 => exact rfl); (case kk_60 => exact rfl); (case kb_60 => exact rfl); (case kc_60 => exact rfl); (case km_60 => k_mem); (case kd_60 => assumption)) | ((with_reducible refine' x_own ?km_60 ?ko_60 ?kv_60 ?_ ?kk_60 ?kl_60 ?kb_60); (case kl_60 => exact rfl); (case kk_60 => exact rfl); (case kb_60 => exact rfl); (case ko_60 => assumption); (case kv_60 => assumption); (case km_60 => k_mem)) | ((with_reducible refine' v_tabAt ?km_60 ?kt_60 ?ke_60 (fun _ => ?_) ?ks_60 ?kg_60); (case ks_60 => with_unfolding_all rfl); (case kg_60 => (intro _; with_unfolding_all rfl)); (case km_60 => k_mem); (case kt_60 => assumption); (case ke_60 => assumption)) | ((with_reducible refine' v_itemL ?km_60 ?k0_60 ?kz_60 ?kx_60 ?_ ?kd_60); (case kd_60 => with_unfolding_all rfl); (case km_60 => k_mem); (case k0_60 => decide); (case kz_60 => decide); (case kx_60 => exact rfl)) | fail))
  refine' e_compDT ?hclos ?hcell ?hkind ?hnames ?hx ?hs (fun i ys nw => nw = n0 ∧ ((i ≤ num ∧ ys = []) ∨ (num < i ∧ ∃ t, ys = [.str (key num) t]))) ?_ hD lo ?hz ?_ ?_
  (case hclos => (rw [hE]; with_unfolding_all rfl))
  (case hcell => decide)
  (case hkind => exact rfl)
  (case hnames => decide)
  (case hx => exact rfl)
  (case hs => exact fun _ => rfl)
  (case hz => (rw [sizeLine_eq, hkl]; omega))
  · (repeat' (first | with_reducible intro _ | (with_reducible refine s_return ?_) | ((with_reducible refine at_true ?_); (try clear kc)) | ((with_reducible refine at_false ?_); (try clear kc)) | (with_reducible refine e_int fun _ => ?_) | (with_reducible refine b_eq (fun _ => ?_) (fun _ => ?_)) | ((with_reducible refine' t_cmp ?_ ?km_61); (case km_61 => exact rfl)) | (with_reducible refine e_sub ?_) | (with_reducible refine ⟨_, _, rfl, ?_⟩) | ((with_reducible refine' e_cell ?kx_61 ?kb_61 ?kc_61 ?km_61 ?kd_61 ?_); (case kx_61 => exact rfl); (case kb_61 => exact rfl); (case kc_61 => assumption); (case km_61 => k_mem); (case kd_61 => assumption)) | ((with_reducible refine' x_cell ?kc_61 ?km_61 ?kd_61 ?_ ?kk_61 ?kx_61 ?kb_61); (case kx_61 => exact rfl); (case kk_61 => exact rfl); (case kb_61 => exact rfl); (case kc_61 => exact rfl); (case km_61 => k_mem); (case kd_61 => assumption)) | ((with_reducible refine' x_own ?km_61 ?ko_61 ?kv_61 ?_ ?kk_61 ?kl_61 ?kb_61); (case kl_61 => exact rfl); (case kk_61 => exact rfl); (case kb_61 => exact rfl); (case ko_61 => assumption); (case kv_61 => assumption); (case km_61 => k_mem)) | ((with_reducible refine' v_tabAt ?km_61 ?kt_61 ?ke_61 (fun _ => ?_) ?ks_61 ?kg_61); (case ks_61 => with_unfolding_all rfl); (case kg_61 => (intro _; with_unfolding_all rfl)); (case km_61 => k_mem); (case kt_61 => assumption); (case ke_61 => assumption)) | ((with_reducible refine' v_itemL ?km_61 ?k0_61 ?kz_61 ?kx_61 ?_ ?kd_61); (case kd_61 => with_unfolding_all rfl); (case km_61 => k_mem); (case k0_61 => decide); (case kz_61 => decide); (case kx_61 => exact rfl)) | fail))
    exact ⟨rfl, ho, rfl, .inl ⟨Nat.zero_le _, rfl⟩⟩
  · rintro s i ys _ v I oI c oc D mm hi ⟨rfl, hys⟩ ⟨k, y, hky, hkv⟩ hoc hx off
    rw [hkl] at hi
    obtain ⟨t9, rfl⟩ := Value.isStrOf_shape hkv
    obtain ⟨n9, hn9⟩ := pairsAre_at hP i k y hky
    rw [tabOf_at hi] at hn9
    cases hn9
    have hlk9 := tabOf_lookup inj hi
    (repeat' (first | with_reducible intro _ | (with_reducible refine s_return ?_) | ((with_reducible refine at_true ?_); (try clear kc)) | ((with_reducible refine at_false ?_); (try clear kc)) | (with_reducible refine e_int fun _ => ?_) | (with_reducible refine b_eq (fun _ => ?_) (fun _ => ?_)) | ((with_reducible refine' t_cmp ?_ ?km_62); (case km_62 => exact rfl)) | (with_reducible refine e_sub ?_) | (with_reducible refine ⟨_, _, rfl, ?_⟩) | ((with_reducible refine' e_cell ?kx_62 ?kb_62 ?kc_62 ?km_62 ?kd_62 ?_); (case kx_62 => exact rfl); (case kb_62 => exact rfl); (case kc_62 => assumption); (case km_62 => k_mem); (case kd_62 => assumption)) | ((with_reducible refine' x_cell ?kc_62 ?km_62 ?kd_62 ?_ ?kk_62 ?kx_62 ?kb_62); (case kx_62 => exact rfl); (case kk_62 => exact rfl); (case kb_62 => exact rfl); (case kc_62 => exact rfl); (case km_62 => k_mem); (case kd_62 => assumption)) | ((with_reducible refine' x_own ?km_62 ?ko_62 ?kv_62 ?_ ?kk_62 ?kl_62 ?kb_62); (case kl_62 => exact rfl); (case kk_62 => exact rfl); (case kb_62 => exact rfl); (case ko_62 => assumption); (case kv_62 => assumption); (case km_62 => k_mem)) | ((with_reducible refine' v_tabAt ?km_62 ?kt_62 ?ke_62 (fun _ => ?_) ?ks_62 ?kg_62); (case ks_62 => with_unfolding_all rfl); (case kg_62 => (intro _; with_unfolding_all rfl)); (case km_62 => k_mem); (case kt_62 => assumption); (case ke_62 => assumption)) | ((with_reducible refine' v_itemL ?km_62 ?k0_62 ?kz_62 ?kx_62 ?_ ?kd_62); (case kd_62 => with_unfolding_all rfl); (case km_62 => k_mem); (case k0_62 => decide); (case kz_62 => decide); (case kx_62 => exact rfl)) | fail))
    · obtain rfl : i = num := by omega
      rcases hys with ⟨_, rfl⟩ | ⟨h, _⟩
      · exact ⟨_, fun p hp => hp, off, ho, rfl, .inr ⟨Nat.lt_succ_self _, t9, rfl⟩⟩
      · exact absurd h (Nat.lt_irrefl _)
    · refine ⟨_, fun p hp => hp, off, ho, rfl, ?_⟩
      rcases hys with ⟨h, rfl⟩ | ⟨h, q⟩
      · exact .inl ⟨by omega, rfl⟩
      · exact .inr ⟨by omega, q⟩
  · rintro ys _ D ⟨rfl, hys⟩ off
    rw [hkl] at hys
    rcases hys with ⟨h, _⟩ | ⟨_, t9, rfl⟩
    · omega
    (repeat' (first | with_reducible intro _ | (with_reducible refine s_return ?_) | ((with_reducible refine at_true ?_); (try clear kc)) | ((with_reducible refine at_false ?_); (try clear kc)) | (with_reducible refine e_int fun _ => ?_) | (with_reducible refine b_eq (fun _ => ?_) (fun _ => ?_)) | ((with_reducible refine' t_cmp ?_ ?km_63); (case km_63 => exact rfl)) | (with_reducible refine e_sub ?_) | (with_reducible refine ⟨_, _, rfl, ?_⟩) | ((with_reducible refine' e_cell ?kx_63 ?kb_63 ?kc_63 ?km_63 ?kd_63 ?_); (case kx_63 => exact rfl); (case kb_63 => exact rfl); (case kc_63 => assumption); (case km_63 => k_mem); (case kd_63 => assumption)) | ((with_reducible refine' x_cell ?kc_63 ?km_63 ?kd_63 ?_ ?kk_63 ?kx_63 ?kb_63); (case kx_63 => exact rfl); (case kk_63 => exact rfl); (case kb_63 => exact rfl); (case kc_63 => exact rfl); (case km_63 => k_mem); (case kd_63 => assumption)) | ((with_reducible refine' x_own ?km_63 ?ko_63 ?kv_63 ?_ ?kk_63 ?kl_63 ?kb_63); (case kl_63 => exact rfl); (case kk_63 => exact rfl); (case kb_63 => exact rfl); (case ko_63 => assumption); (case kv_63 => assumption); (case km_63 => k_mem)) | ((with_reducible refine' v_tabAt ?km_63 ?kt_63 ?ke_63 (fun _ => ?_) ?ks_63 ?kg_63); (case ks_63 => with_unfolding_all rfl); (case kg_63 => (intro _; with_unfolding_all rfl)); (case km_63 => k_mem); (case kt_63 => assumption); (case ke_63 => assumption)) | ((with_reducible refine' v_itemL ?km_63 ?k0_63 ?kz_63 ?kx_63 ?_ ?kd_63); (case kd_63 => with_unfolding_all rfl); (case km_63 => k_mem); (case k0_63 => decide); (case kz_63 => decide); (case kx_63 => exact rfl)) | fail))
    exact hQ _ _ _ _ ⟨rfl, _, rfl⟩ fun p hp => .tail _ (sub p hp)
end
end part_M18
section part_M19
theorem c_namedI (prog : Program) (w : World) (news : Led) (a : Addr) (o : Obj) (key : Nat → Str) (n : Nat) (num : Int) (t : Tok) (inj : ∀ i j, key i = key j → i = j) (ho : (a, o) ∈ news) (hT : TabFull prog w a o (tabOf key n)) (hb : n ≤ 64) (h0 : 0 ≤ num) (hnum : num < n) :
    Con prog w 184 12 news [.ref a, .int num t] (fun v nw => nw = news ∧ ∃ u, v = .str (key num.toNat) u) := by
  have := c_named prog w news a o key n num.toNat t inj ho hT hb ((Int.toNat_lt h0).mpr hnum)
  rwa [Int.toNat_of_nonneg h0] at this
theorem keyL_len (f i : Nat) : (keyL f i).length = 2 := rfl
theorem keyD_len (f i : Nat) : (keyD f i).length = 2 := rfl
noncomputable abbrev endsL : List Str := [Str.ofString "", Str.ofString "", Str.ofString "n", Str.ofString "b", Str.ofString "r", Str.ofString "q"]
noncomputable abbrev endsD : List Str := [Str.ofString "", Str.ofString "", Str.ofString "4", Str.ofString "3", Str.ofString "2", Str.ofString "1"]
theorem endsL_len (k : Nat) : (endsL.getD k Str.empty).length ≤ 1 := by
  rcases k with _ | _ | _ | _ | _ | _ | k <;> first | decide | (simp [endsL, List.getD]; decide)
theorem endsD_len (k : Nat) : (endsD.getD k Str.empty).length ≤ 1 := by
  rcases k with _ | _ | _ | _ | _ | _ | k <;> first | decide | (simp [endsD, List.getD]; decide)
theorem k_namedI (prog : Program) (w : World) (news : Led) (a : Addr) (o : Obj) (key : Nat → Str) (n : Nat) (num : Int) (t : Tok) (inj : ∀ i j, key i = key j → i = j) (ho : (a, o) ∈ news) (hT : TabFull prog w a o (tabOf key n)) (hb : n ≤ 64) (h0 : 0 ≤ num) (hnum : num < n) : ConC prog w 184 12 news [.ref a, .int num t] (fun kk => ∀ u, kk (.str (key num.toNat) u) news) := (c_namedI prog w news a o key n num t inj ho hT hb h0 hnum).cps (by rintro k h v nw ⟨rfl, u, rfl⟩; exact h u)
section
theorem c_told (prog : Program) (w : World) (news : Led) (f n : Nat) (ra la ga : Addr) (lo go : Obj) (o g sp pr : Int) (t1 t2 t3 t4 : Tok) (hra : (ra, tupOf [.int o t1, .int g t2, .int sp t3, .int pr t4]) ∈ news) (hla : (la, lo) ∈ news) (hga : (ga, go) ∈ news)
    (hl : TabFull prog w la lo (tabOf (keyL f) n)) (hg : TabFull prog w ga go (tabOf (keyD f) n)) (hb : n ≤ 64) (ho0 : 0 ≤ o) (ho1 : o < n) (hg0 : 0 ≤ g) (hg1 : g < n) (hp0 : 0 ≤ pr) (hp1 : pr ≤ 5) :
    Con prog w 191 14 news [.ref ra, .ref la, .ref ga] (fun v nw => ∃ a u1 u2, v = .ref a ∧ nw = (a, tupOf [.str (keyL f o.toNat ++ keyL f g.toNat ++ endsL.getD pr.toNat Str.empty) u1, .str (keyD f o.toNat ++ keyD f g.toNat ++ endsD.getD pr.toNat Str.empty) u2]) :: news) := by
  have e1 := endsL_len pr.toNat
  have e2 := endsD_len pr.toNat
  have e3 : (keyL f o.toNat).length = 2 := rfl
  have e4 : (keyL f g.toNat).length = 2 := rfl
  have e5 : (keyD f o.toNat).length = 2 := rfl
  have e6 : (keyD f g.toNat).length = 2 := rfl
  refine' ConX.never (runs_conX (P := False) ?ho ?hcd ?hbm ?hk4 (fun z => z.elim) ?run ?hbind ?hloc ?hco ?hgen ?hk ?hcell)
  (case ho => k_is)
  (case hcd => k_is)
  (case hbm => k_is)
  (case hk4 => k_is)
  (case hbind => exact fun _ => BindsTo.of_eq rfl)
  (case hloc => exact locs rfl)
  (case hco => exact rfl)
  (case hgen => exact rfl)
  (case hk => exact rfl)
  (case hcell => decide)
  rintro C Q rfl rfl hn0 hP hQ
  refine s_let ?_
  intro m0
  (repeat' (first | with_reducible intro _ | ((with_reducible refine e_subP ?_); (first | (with_unfolding_all change Cx.R _ _ _ _ _) | (intro _; (with_unfolding_all change Cx.R _ _ _ _ _)) | (intro _; intro _; (with_unfolding_all change Cx.R _ _ _ _ _)))) | ((with_reducible refine' l_plain fun _ => ?_); (with_unfolding_all change Cx.R _ _ _ _ _)) | (with_reducible refine s_return ?_) | (with_reducible refine e_bin ?_) | (with_reducible refine l_nil ?_) | ((with_reducible refine' e_local ?kv_64 ?_); (case kv_64 => exact rfl)) | ((with_reducible refine' e_call ?kf_64 ?kv_64 ?kx_64 ?kb_64 ?ke_64 ?kp_64 ?_); (case kf_64 => k_is); (case kv_64 => k_is); (case kx_64 => exact rfl); (case kb_64 => exact rfl); (case ke_64 => exact rfl); (case kp_64 => exact rfl); intro kb) | ((with_reducible refine' l_cons ?_ ?ke_64); (case ke_64 => exact rfl)) | (with_reducible refine e_sub ?_) | (with_reducible refine ⟨_, _, rfl, ?_⟩) | ((with_reducible refine' r_k ?kc_64 ?kr_64 ?_); (case kc_64 => first | (refine' k_namedI _ _ _ _ _ _ _ _ _ ?xi_64 ?xa_64 ?xt_64 ?xb_64 ?x0_64 ?xn_64; (case xa_64 => k_mem); (case xt_64 => assumption); (case xi_64 => first | exact fun _ _ => keyL_inj | exact fun _ _ => keyD_inj); (case xb_64 => assumption); (case x0_64 => assumption); (case xn_64 => assumption))); (case kr_64 => decide)) | ((with_reducible refine' s_pair ?_ ?k1_64 ?k2_64 ?ks_64 ?kw_64); (case k1_64 => exact rfl); (case k2_64 => exact rfl); (case ks_64 => exact rfl); (case kw_64 => exact rfl)) | ((with_reducible refine' v_tupItem ?km_64 ?k0_64 ?k1_64 ?kx_64 ?_ ?kd_64); (case kd_64 => with_unfolding_all rfl); (case km_64 => k_mem); (case k0_64 => decide); (case k1_64 => decide); (case kx_64 => exact rfl)) | ((with_reducible refine' v_itemS (ws := endsL) ?km_64 ?kw_64 ?k0_64 ?k1_64 ?k2_64 (fun _ => ?_) ?kd_64); (case kd_64 => with_unfolding_all rfl); (case km_64 => k_mem); (case kw_64 => exact .cons _ _ (.cons _ _ (.cons _ _ (.cons _ _ (.cons _ _ (.cons _ _ .nil)))))); (case k0_64 => assumption); (case k1_64 => (show _ < (6 : Int); omega)); (case k2_64 => decide)) | ((with_reducible refine' v_itemS (ws := endsD) ?km_64 ?kw_64 ?k0_64 ?k1_64 ?k2_64 (fun _ => ?_) ?kd_64); (case kd_64 => with_unfolding_all rfl); (case km_64 => k_mem); (case kw_64 => exact .cons _ _ (.cons _ _ (.cons _ _ (.cons _ _ (.cons _ _ (.cons _ _ .nil)))))); (case k0_64 => assumption); (case k1_64 => (show _ < (6 : Int); omega)); (case k2_64 => decide)) | ((with_reducible refine' v_cat ?kz_64 (fun _ => ?_)); (case kz_64 => (rw [sizeLine_eq]; (try simp only [Str.length_append]); omega))) | (with_reducible refine e_tuple ?_) | ((with_reducible refine' v_tuple ?kz_64 fun _ _ => ?_); (case kz_64 => exact Nat.le_of_ble_eq_true rfl)) | (with_reducible refine e_list ?_) | ((with_reducible refine' v_list ?kz_64 fun _ _ => ?_); (case kz_64 => exact Nat.le_of_ble_eq_true rfl)) | fail))
  exact hQ _ _ _ _ ⟨_, _, _, rfl, rfl⟩ sub_drop2
end
end part_M19
section part_MD
noncomputable def GoodRow (many : Int) (r : MvRow) : Prop := 0 ≤ r.1 ∧ r.1 < many ∧ 0 ≤ r.2.1 ∧ r.2.1 < many ∧ ((r.2.2.1 = 1 ∧ 2 ≤ r.2.2.2 ∧ r.2.2.2 ≤ 5) ∨ ((r.2.2.1 = 0 ∨ r.2.2.1 = 2 ∨ r.2.2.1 = 3) ∧ r.2.2.2 = 0))
theorem Con.of {prog : Program} {w : World} {f : Addr} {need : Nat} {news news' : Led} {vs : List Value} {R R' : Value → Led → Prop} (C : Con prog w f need news' vs R') (s : Sub news' news) (k : ∀ v nw, R' v nw → ∃ nw', Sub nw' nw ∧ R v nw') : Con prog w f need news vs R :=
  fun _ _ _ _ _ _ _ _ _ _ _ _ _ _ _ _ _ _ _ _ _ _ B F X N T hk hdp hun hret => C _ _ _ _ _ _ _ _ _ _ _ _ _ _ _ _ _ _ _ _ _ _ B F X (fun p hp => N p (s p hp)) T hk hdp hun fun v nw h' tk' F' N' r =>
    let ⟨nw', s', r'⟩ := k v nw r; hret v nw' h' tk' F' (fun p hp => N' p (s' p hp)) r'
theorem c_number (prog : Program) (w : World) (news : Led) (g : Obj → Led) (d l : Addr) (o : Obj) (vs : List Value) (n : Nat) (cells : List Int) (below : Int) (tb : Tok) (hb0 : 0 < below) (U : UpdF d o news g) (hc : (l, listOf vs.toArray n) ∈ news) (K : DeckK d l vs cells) (D : DeckO prog w o l) :
    Con prog w 158 1 news [.ref d, .int below tb] (fun v nw => ∃ r tr o', v = .int r tr ∧ 0 ≤ r ∧ r < below ∧ DeckO prog w o' l ∧ nw = g o') := by
  obtain ⟨pre, post, rfl, hg, a, b⟩ := U.split
  have hl : (l, listOf vs.toArray n) ∈ pre ++ post := by
    rcases List.mem_append.mp hc with h | h
    · exact List.mem_append_left _ h
    · rcases List.mem_cons.mp h with h | h
      · exact absurd (congrArg Prod.fst h) K.apart
      · exact List.mem_append_right _ h
  have hne : ∀ p ∈ pre ++ post, p.1 ≠ d := fun p hp => (List.mem_append.mp hp).elim (a p) (b p)
  refine (c_number0 prog w (pre ++ post) d l o vs n cells below tb hb0 hl K hne D).of ?_ ?_
  · intro p hp
    rcases List.mem_cons.mp hp with rfl | hp
    · exact List.mem_append_right _ (.head _)
    · exact (List.mem_append.mp hp).elim (List.mem_append_left _) fun h => List.mem_append_right _ (.tail _ h)
  · rintro v nw ⟨r, tr, o', rfl, h1, h2, hD', rfl⟩
    refine ⟨g o', ?_, r, tr, o', rfl, h1, h2, hD', rfl⟩
    rw [hg]
    intro p hp
    rcases List.mem_append.mp hp with hp | hp
    · exact .tail _ (List.mem_append_left _ hp)
    · rcases List.mem_cons.mp hp with rfl | hp
      · exact .head _
      · exact .tail _ (List.mem_append_right _ hp)
theorem k_number (prog : Program) (w : World) (news : Led) (g : Obj → Led) (d l : Addr) (o : Obj) (vs : List Value) (n : Nat) (cells : List Int) (below : Int) (tb : Tok) (hb0 : 0 < below) (U : UpdF d o news g) (hc : (l, listOf vs.toArray n) ∈ news) (K : DeckK d l vs cells) (D : DeckO prog w o l) : ConC prog w 158 1 news [.ref d, .int below tb] (fun kk => ∀ r tr o', 0 ≤ r → r < below → DeckO prog w o' l → kk (.int r tr) (g o')) := (c_number prog w news g d l o vs n cells below tb hb0 U hc K D).cps (by rintro k h v nw ⟨r, tr, o', rfl, h1, h2, h3, rfl⟩; exact h r tr o' h1 h2 h3)
theorem RowsIn.snoc {news news' : Led} {vs : List Value} {rs : List MvRow} {a : Addr} {x y z k : Int} {t1 t2 t3 t4 : Tok} (h : RowsIn news vs rs) (hs : ∀ p ∈ news, p ∈ news') (hm : (a, tupOf [.int x t1, .int y t2, .int z t3, .int k t4]) ∈ news') : RowsIn news' (vs ++ [.ref a]) (rs ++ [(x, y, z, k)]) := by
  refine ⟨by rw [List.length_append, List.length_append, h.1]; rfl, fun i r e => ?_⟩
  rcases Nat.lt_or_ge i rs.length with hi | hi
  · rw [List.getElem?_append_left hi] at e
    obtain ⟨a', u1, u2, u3, u4, x1, y1⟩ := h.2 i r e
    exact ⟨a', u1, u2, u3, u4, by rw [List.getElem?_append_left (by rw [h.1]; exact hi)]; exact x1, hs _ y1⟩
  · have hi' : i = rs.length := by
      have := (List.getElem?_eq_some_iff.mp e).1
      rw [List.length_append] at this
      simp only [List.length_cons, List.length_nil] at this
      omega
    subst hi'
    rw [List.getElem?_append_right (Nat.le_refl _), Nat.sub_self] at e
    cases e
    exact ⟨a, t1, t2, t3, t4, by rw [← h.1, List.getElem?_append_right (Nat.le_refl _), Nat.sub_self]; rfl, hm⟩
theorem r_rowLast {prog : Program} {w : World} {A : Around} {E : Value → Shared → Prop} {s : Shared} {h₀ : Heap} {L l : Addr} {news news' : Led} {vs : List Value} {Q : Value → Shared → Prop} {value slice : PySem.Expr} {u : Tok} {n : Nat} {rs : List MvRow}
    (N : News h₀ L s.heap news) (hm : (l, listOf vs.toArray n) ∈ news) (hr : RowsIn news' vs rs) (hk : 0 < rs.length)
    (h : ∀ a r t1 t2 t3 t4, r ∈ rs → (a, tupOf [.int r.1 t1, .int r.2.1 t2, .int r.2.2.1 t3, .int r.2.2.2 t4]) ∈ news' → Q (.ref a) s)
    (hs : subscripted slice false (.ref l) (.int (-1) u) = operate [.ref l, .int (-1) u] (getItem (.ref l) (.int (-1) u)) := by with_unfolding_all rfl) :
    wpAny (model prog w) A (subscriptTail value slice (.ref l) (.int (-1) u)) Q E s := by
  obtain ⟨a, t1, t2, t3, t4, e, hm'⟩ := hr.2 (rs.length - 1) (rs[rs.length - 1]'(Nat.sub_lt hk Nat.one_pos)) (List.getElem?_eq_getElem _)
  have hsz : vs.toArray.size = rs.length := hr.1
  have ei : ((-1 : Int) + (rs.length : Int)).toNat = rs.length - 1 := (congrArg Int.toNat (Int.add_comm (-1) _)).trans (Int.toNat_sub rs.length 1)
  exact tail_any (isL N hm).typeIs slot_list_getitem.lookup (wpAny_getItem_list_neg (isL N hm) (by decide) (by rw [hsz]; exact Int.neg_le_neg (Int.ofNat_le.mpr hk)) (by decide) (by rw [hsz, ei, List.getElem?_toArray]; exact e) (h a _ t1 t2 t3 t4 (List.getElem_mem _) hm')) hs
end part_MD
section part_PL1
open PySem.Builtin PySem.Builtin.Str
noncomputable def pos8 (lo a : Nat) : Int := if lo ≤ a ∧ a < lo + 8 then ((a - lo : Nat) : Int) else -1
theorem find8 {t : Str} {lo : Nat} (h8 : t.length = 8) (h : ∀ i < 8, strSub t i (i + 1) = ⟨#[lo + i]⟩) (hin : ∀ i < 8, Txt.find t ⟨#[lo + i]⟩ = (i : Int)) (a : Nat) : Txt.find t ⟨#[a]⟩ = pos8 lo a := by
  unfold pos8
  by_cases q : lo ≤ a ∧ a < lo + 8
  · rw [if_pos q, ← hin (a - lo) (Nat.sub_lt_left_of_lt_add q.1 q.2), Nat.add_sub_of_le q.1]
  · rw [if_neg q]
    rcases find_spec t ⟨#[a]⟩ with e | ⟨i, e, hi, hs⟩
    · exact e
    · rw [h8] at hi
      have hi' : i < 8 := hi
      refine absurd ?_ q
      have e1 : (Str.mk #[lo + i]) = ⟨#[a]⟩ := (h i hi').symm.trans hs
      have e2 : lo + i = a := (List.cons.inj (Array.mk.inj (Str.mk.inj e1))).1
      exact e2 ▸ ⟨Nat.le_add_right _ _, Nat.add_lt_add_left hi' _⟩
theorem find_abc (a : Nat) : Txt.find (Str.ofString "abcdefgh") ⟨#[a]⟩ = pos8 97 a := find8 (by decide +kernel) (by decide +kernel) (by decide +kernel) a
theorem find_dig (a : Nat) : Txt.find (Str.ofString "12345678") ⟨#[a]⟩ = pos8 49 a := find8 (by decide +kernel) (by decide +kernel) (by decide +kernel) a
theorem pos8_at {lo a f : Nat} (hf : f ≤ 8) (h : lo ≤ a ∧ a < lo + f) : pos8 lo a = ((a - lo : Nat) : Int) := if_pos ⟨h.1, Nat.lt_of_lt_of_le h.2 (Nat.add_le_add_left hf _)⟩
theorem pos8_in {lo a f : Nat} (hf : f ≤ 8) : (0 ≤ pos8 lo a ∧ pos8 lo a < f) ↔ (lo ≤ a ∧ a < lo + f) := by
  constructor
  · intro h
    unfold pos8 at h
    by_cases q : lo ≤ a ∧ a < lo + 8
    · rw [if_pos q] at h
      exact ⟨q.1, (Nat.sub_lt_iff_lt_add' q.1).mp (Int.ofNat_lt.mp h.2)⟩
    · rw [if_neg q] at h
      exact absurd h.1 (by decide)
  · intro h
    rw [pos8_at hf h]
    exact ⟨Int.natCast_nonneg _, Int.ofNat_lt.mpr (Nat.sub_lt_left_of_lt_add h.1 h.2)⟩
theorem tabOf_none {key : Nat → Str} {n : Nat} {y : Str} (h : ∀ i < n, key i ≠ y) : (tabOf key n).lookup y = none := by
  rw [List.lookup_eq_none_iff]
  intro p hp
  unfold tabOf at hp
  obtain ⟨i, hi, rfl⟩ := List.mem_map.mp hp
  exact bne_iff_ne.mpr fun e => h i (List.mem_range.mp hi) e.symm
theorem place_lt {f r p q : Nat} (hp : p < f) (hq : q < r) : q * f + p < r * f :=
  Nat.lt_of_lt_of_le (Nat.add_lt_add_left hp _) (Nat.succ_mul q f ▸ Nat.mul_le_mul_right f hq)
noncomputable abbrev On (lo f r a b : Nat) : Prop := (lo ≤ a ∧ a < lo + f) ∧ (49 ≤ b ∧ b < 49 + r)
noncomputable abbrev at8 (lo f a b : Nat) : Int := (((b - 49) * f + (a - lo) : Nat) : Int)
theorem tabK {key : Nat → Str} {lo f r a b : Nat} (hk : ∀ i, key i = ⟨#[lo + i % f, 49 + i / f]⟩) (inj : ∀ i j, key i = key j → i = j) : (tabOf key (r * f)).lookup ⟨#[a, b]⟩ = if On lo f r a b then some (at8 lo f a b) else none := by
  by_cases h : On lo f r a b
  · rw [if_pos h]
    have d := @divmod f (b - 49) (a - lo) (Nat.sub_lt_left_of_lt_add h.1.1 h.1.2)
    have e : key ((b - 49) * f + (a - lo)) = ⟨#[a, b]⟩ := by rw [hk, d.1, d.2, Nat.add_sub_of_le h.1.1, Nat.add_sub_of_le h.2.1]
    rw [← e]
    exact tabOf_lookup inj (place_lt (Nat.sub_lt_left_of_lt_add h.1.1 h.1.2) (Nat.sub_lt_left_of_lt_add h.2.1 h.2.2))
  · rw [if_neg h]
    refine tabOf_none fun i hi e => h ?_
    have e1 := List.cons.inj (Array.mk.inj (Str.mk.inj ((hk i).symm.trans e)))
    have e2 := (List.cons.inj e1.2).1
    have hf : 0 < f := Nat.pos_of_ne_zero fun z => by rw [z, Nat.mul_zero] at hi; exact absurd hi (Nat.not_lt_zero _)
    exact ⟨e1.1 ▸ ⟨Nat.le_add_right _ _, Nat.add_lt_add_left (Nat.mod_lt i hf) _⟩, e2 ▸ ⟨Nat.le_add_right _ _, Nat.add_lt_add_left (Nat.div_lt_of_lt_mul (Nat.mul_comm r f ▸ hi)) _⟩⟩
theorem tabL (f r a b : Nat) : (tabOf (keyL f) (r * f)).lookup ⟨#[a, b]⟩ = if On 97 f r a b then some (at8 97 f a b) else none := tabK (fun _ => rfl) fun _ _ => keyL_inj
theorem tabD (f r a b : Nat) : (tabOf (keyD f) (r * f)).lookup ⟨#[a, b]⟩ = if On 49 f r a b then some (at8 49 f a b) else none := tabK (fun _ => rfl) fun _ _ => keyD_inj
theorem mid3 (a b c : Nat) : Txt.slice ⟨#[a, b, c]⟩ (some 2) (some 4) = ⟨#[c]⟩ := by
  have e : strSliceIndices (some 2) (some 4) 1 3 = [2] := by decide +kernel
  unfold Txt.slice
  rw [show (Str.mk #[a, b, c]).length = 3 from rfl, e]
  rfl
theorem tail5 (a b c d e : Nat) : Txt.slice ⟨#[a, b, c, d, e]⟩ (some 4) none = ⟨#[e]⟩ := by
  have h := eq_of_beq (slice_closes_fromL (x := ⟨#[a, b, c, d, e]⟩) (i := 4) (b := 5) (by decide) (show (4 : Int) ≤ ((5 : Nat) : Int) by decide) rfl)
  rw [h]
  rfl
theorem sq2 {f r : Nat} (hf : f ≤ 8) (hr : r ≤ 8) (a b : Nat) : squareOf f r ⟨#[a, b]⟩ = if On 97 f r a b then at8 97 f a b else -1 := by
  have e1 : fileIx ⟨#[a, b]⟩ = pos8 97 a := find_abc a
  have e2 : rankIx ⟨#[a, b]⟩ = pos8 49 b := find_dig b
  unfold squareOf
  rw [if_neg (fun h => h rfl : ¬ (Str.mk #[a, b]).length ≠ 2), e1, e2]
  by_cases h : On 97 f r a b
  · have h1 := (pos8_in hf).mpr h.1
    have h2 := (pos8_in hr).mpr h.2
    rw [if_pos h, if_neg (fun q => q.elim (Int.not_lt.mpr h1.1) fun q => q.elim (Int.not_le.mpr h1.2) fun q => q.elim (Int.not_lt.mpr h2.1) (Int.not_le.mpr h2.2)), pos8_at hf h.1, pos8_at hr h.2]
    push_cast
    rfl
  · rw [if_neg h]
    refine if_pos (Decidable.byContradiction fun q => h ?_)
    exact ⟨(pos8_in hf).mp ⟨Int.not_lt.mp fun z => q (.inl z), Int.not_le.mp fun z => q (.inr (.inl z))⟩, (pos8_in hr).mp ⟨Int.not_lt.mp fun z => q (.inr (.inr (.inl z))), Int.not_le.mp fun z => q (.inr (.inr (.inr z)))⟩⟩
theorem lit_n : Str.ofString "n" = ⟨#[110]⟩ := by decide +kernel
theorem lit_b : Str.ofString "b" = ⟨#[98]⟩ := by decide +kernel
theorem lit_r : Str.ofString "r" = ⟨#[114]⟩ := by decide +kernel
theorem lit_q : Str.ofString "q" = ⟨#[113]⟩ := by decide +kernel
theorem lit_e : Str.ofString "" = ⟨#[]⟩ := by decide +kernel
theorem ends_none {ps : List (Str × Int)} (hs : ∀ p ∈ ps, p.1.length ≤ 1) {y : Str} (h : 1 < y.length) : ps.lookup y = none :=
  List.lookup_eq_none_iff.mpr fun p hp => bne_iff_ne.mpr fun e => Nat.not_lt.mpr (hs p hp) (e ▸ h)
theorem str1_eq (a b : Nat) : (Str.mk #[a] = Str.mk #[b]) ↔ a = b := ⟨fun e => (List.cons.inj (Array.mk.inj (Str.mk.inj e))).1, fun e => e ▸ rfl⟩
theorem kind_end (e : Nat) : lettersEnd ⟨#[e]⟩ = if kindOf ⟨#[e]⟩ = 0 then none else some (kindOf ⟨#[e]⟩) := by
  have hk : kindOf ⟨#[e]⟩ = if 113 = e then 5 else if 114 = e then 4 else if 98 = e then 3 else if 110 = e then 2 else 0 := by
    have l2 : letterOf 2 = ⟨#[110]⟩ := lit_n
    have l3 : letterOf 3 = ⟨#[98]⟩ := lit_b
    have l4 : letterOf 4 = ⟨#[114]⟩ := lit_r
    have l5 : letterOf 5 = ⟨#[113]⟩ := lit_q
    unfold kindOf
    simp only [List.foldl_cons, List.foldl_nil, l2, l3, l4, l5, str1_eq]
  rw [hk]
  by_cases h1 : 113 = e
  · subst h1; decide +kernel
  by_cases h2 : 114 = e
  · subst h2; decide +kernel
  by_cases h3 : 98 = e
  · subst h3; decide +kernel
  by_cases h4 : 110 = e
  · subst h4; decide +kernel
  rw [if_neg h1, if_neg h2, if_neg h3, if_neg h4, if_pos rfl]
  have hs : ∀ p ∈ lettersEnds, p.1 ∈ [⟨#[]⟩, ⟨#[113]⟩, ⟨#[114]⟩, ⟨#[98]⟩, Str.mk #[110]] := by decide +kernel
  refine List.lookup_eq_none_iff.mpr fun p hp => bne_iff_ne.mpr fun q => ?_
  have := q ▸ hs p hp
  simp only [List.mem_cons, str1_eq, Ne.symm h1, Ne.symm h2, Ne.symm h3, Ne.symm h4, List.not_mem_nil, or_false] at this
  exact absurd (congrArg Str.length this) (by decide : (1 : Nat) ≠ 0)
theorem dig_end (e : Nat) : digitsEnd ⟨#[e]⟩ = if 0 ≤ dg e ∧ dg e < 4 then some (5 - dg e) else none := by
  have hd : dg e = pos8 49 e := find_dig e
  rw [hd]
  have i4 : (0 ≤ pos8 49 e ∧ pos8 49 e < 4) ↔ (49 ≤ e ∧ e < 49 + 4) := @pos8_in 49 e 4 (by decide)
  by_cases h : 49 ≤ e ∧ e < 49 + 4
  · rw [if_pos (i4.mpr h), pos8_at (by decide) h, ← Nat.add_sub_of_le h.1]
    have := Nat.sub_lt_left_of_lt_add h.1 h.2
    generalize e - 49 = k at this
    have hs : ∀ k < 4, digitsEnd ⟨#[49 + k]⟩ = some (5 - ((49 + k - 49 : Nat) : Int)) := by decide +kernel
    exact hs k this
  · rw [if_neg (fun q => h (i4.mp q))]
    have hs : ∀ p ∈ digitsEnds, ∀ c ∈ p.1.cps.toList, 49 ≤ c ∧ c < 49 + 4 := by decide +kernel
    exact List.lookup_eq_none_iff.mpr fun p hp => bne_iff_ne.mpr fun q => h (hs p hp e (q ▸ .head _))
theorem slice_from4 {cs : List Nat} (h : 6 ≤ cs.length) : 1 < (Txt.slice ⟨⟨cs⟩⟩ (some 4) none).length := by
  have e := eq_of_beq (slice_closes_fromL (x := ⟨⟨cs⟩⟩) (i := 4) (by decide) (Int.ofNat_le.mpr (Nat.le_trans (by decide) h)) rfl)
  rw [e]
  show 1 < (List.toArray _).size
  rw [List.size_toArray, List.length_take, List.length_drop]
  have h' : 1 < cs.length - 4 := Nat.lt_sub_of_add_lt h
  exact Nat.lt_min.mpr ⟨(Int.toNat_sub cs.length 4).symm ▸ h', h'⟩
theorem five (x : Str) : (x.length ≠ 4 ∧ x.length ≠ 5 ∧ ∀ tn te : Str → Option Int, (∀ y, y.length ≠ 2 → tn y = none) → (∀ y, 1 < y.length → te y = none) → readT tn te x = none) ∨ (∃ a b c d, x = ⟨#[a, b, c, d]⟩) ∨ ∃ a b c d e, x = ⟨#[a, b, c, d, e]⟩ := by
  obtain ⟨⟨cs⟩⟩ := x
  rcases cs with _ | ⟨a, _ | ⟨b, _ | ⟨c, _ | ⟨d, _ | ⟨e, _ | ⟨g, rest⟩⟩⟩⟩⟩⟩
  · exact .inl ⟨by decide, by decide, fun tn te hn he => readT_none (.inr (.inl (congrArg Option.isSome (hn ⟨#[]⟩ (by decide)))))⟩
  · exact .inl ⟨(show (1 : Nat) ≠ 4 by decide), (show (1 : Nat) ≠ 5 by decide), fun tn te hn he => readT_none (.inr (.inl (congrArg Option.isSome (hn ⟨#[]⟩ (by decide)))))⟩
  · exact .inl ⟨(show (2 : Nat) ≠ 4 by decide), (show (2 : Nat) ≠ 5 by decide), fun tn te hn he => readT_none (.inr (.inl (congrArg Option.isSome (hn ⟨#[]⟩ (by decide)))))⟩
  · exact .inl ⟨(show (3 : Nat) ≠ 4 by decide), (show (3 : Nat) ≠ 5 by decide), fun tn te hn he => readT_none (.inr (.inl (by rw [mid3]; exact congrArg Option.isSome (hn ⟨#[c]⟩ (show (1 : Nat) ≠ 2 by decide)))))⟩
  · exact .inr (.inl ⟨a, b, c, d, rfl⟩)
  · exact .inr (.inr ⟨a, b, c, d, e, rfl⟩)
  · have h6 : 6 ≤ (a :: b :: c :: d :: e :: g :: rest).length := Nat.le_add_left 6 rest.length
    exact .inl ⟨Nat.ne_of_gt (Nat.lt_of_lt_of_le (by decide) h6), Nat.ne_of_gt (Nat.lt_of_lt_of_le (by decide) h6), fun tn te hn he => readT_none (.inr (.inr (congrArg Option.isSome (he _ (slice_from4 h6)))))⟩
section
variable {tn te : Str → Option Int} {a b c d e : Nat} {P Q : Prop} [Decidable P] [Decidable Q] {u v : Nat} {o : Option Int}
noncomputable def three (x y z : Option Int) : Option (Int × Int × Int) := x.bind fun x => y.bind fun y => z.map fun z => (x, y, z)
theorem readT_three (x : Str) : readT tn te x = three (tn (Txt.slice x none (some 2))) (tn (Txt.slice x (some 2) (some 4))) (te (Txt.slice x (some 4) none)) := by
  unfold readT
  cases tn (Txt.slice x none (some 2)) with
  | none => rfl
  | some x1 => cases tn (Txt.slice x (some 2) (some 4)) with
    | none => rfl
    | some x2 => cases te (Txt.slice x (some 4) none) <;> rfl
theorem readT4 : readT tn te ⟨#[a, b, c, d]⟩ = three (tn ⟨#[a, b]⟩) (tn ⟨#[c, d]⟩) (te ⟨#[]⟩) := readT_three _
theorem readT5 : readT tn te ⟨#[a, b, c, d, e]⟩ = three (tn ⟨#[a, b]⟩) (tn ⟨#[c, d]⟩) (te ⟨#[e]⟩) := (readT_three _).trans (by rw [tail5]; rfl)
theorem three_if : three (if P then some (u : Int) else none) (if Q then some (v : Int) else none) o = if P ∧ Q then o.map fun p => ((u : Int), (v : Int), p) else none := by
  by_cases h : P
  · by_cases h' : Q
    · rw [if_pos h, if_pos h', if_pos (show P ∧ Q from ⟨h, h'⟩)]; rfl
    · rw [if_pos h, if_neg h', if_neg (show ¬ (P ∧ Q) from fun q => h' q.2)]; rfl
  · rw [if_neg h, if_neg (show ¬ (P ∧ Q) from fun q => h q.1)]; rfl
theorem two_if {α : Type} {F : Int → Int → Option α} : (if (if P then (u : Int) else -1) < 0 ∨ (if Q then (v : Int) else -1) < 0 then none else F (if P then (u : Int) else -1) (if Q then (v : Int) else -1)) = if P ∧ Q then F u v else none := by
  by_cases h : P
  · by_cases h' : Q
    · rw [if_pos h, if_pos h', if_pos (show P ∧ Q from ⟨h, h'⟩)]; exact if_neg fun q => q.elim (Int.not_lt.mpr (Int.natCast_nonneg _)) (Int.not_lt.mpr (Int.natCast_nonneg _))
    · rw [if_neg h', if_neg (show ¬ (P ∧ Q) from fun q => h' q.2)]; exact if_pos (.inr (by decide))
  · rw [if_neg h, if_neg (show ¬ (P ∧ Q) from fun q => h q.1)]; exact if_pos (.inl (by decide))
end
theorem eqC {f r : Nat} (hf : f ≤ 8) (hr : r ≤ 8) (x : Str) : readC f r x = readT (fun y => (tabOf (keyL f) (r * f)).lookup y) lettersEnd x := by
  rcases five x with ⟨h4, h5, h⟩ | ⟨a, b, c, d, rfl⟩ | ⟨a, b, c, d, e, rfl⟩
  · rw [h (fun y => (tabOf (keyL f) (r * f)).lookup y) lettersEnd (fun y hy => tabOf_none fun i _ e => hy (by rw [← e]; rfl)) fun y hy => ends_none (ps := lettersEnds) (by decide +kernel) hy]
    exact if_pos ⟨h4, h5⟩
  · have l : readC f r ⟨#[a, b, c, d]⟩ = if squareOf f r ⟨#[a, b]⟩ < 0 ∨ squareOf f r ⟨#[c, d]⟩ < 0 then none else some (squareOf f r ⟨#[a, b]⟩, squareOf f r ⟨#[c, d]⟩, 0) := rfl
    have e0 : lettersEnd ⟨#[]⟩ = some 0 := by decide +kernel
    rw [l, readT4, e0, tabL, tabL, sq2 hf hr, sq2 hf hr, three_if]
    exact two_if (F := fun s t => some (s, t, 0))
  · have l : readC f r ⟨#[a, b, c, d, e]⟩ = if squareOf f r ⟨#[a, b]⟩ < 0 ∨ squareOf f r ⟨#[c, d]⟩ < 0 then none else if kindOf ⟨#[e]⟩ = 0 then none else some (squareOf f r ⟨#[a, b]⟩, squareOf f r ⟨#[c, d]⟩, kindOf ⟨#[e]⟩) := rfl
    rw [l, readT5, kind_end, tabL, tabL, sq2 hf hr, sq2 hf hr, three_if]
    refine (two_if (F := fun s t => if kindOf ⟨#[e]⟩ = 0 then none else some (s, t, kindOf ⟨#[e]⟩))).trans ?_
    by_cases hk : kindOf ⟨#[e]⟩ = 0
    · rw [if_pos hk, if_pos hk]; rfl
    · rw [if_neg hk, if_neg hk]; rfl
theorem eqI {f r : Nat} (hf : f ≤ 8) (hr : r ≤ 8) (x : Str) : readI f r x = readT (fun y => (tabOf (keyD f) (r * f)).lookup y) digitsEnd x := by
  have ok : ∀ a b, (0 ≤ dg a ∧ dg a < f ∧ 0 ≤ dg b ∧ dg b < r) ↔ On 49 f r a b := fun a b => by
    rw [show dg a = pos8 49 a from find_dig a, show dg b = pos8 49 b from find_dig b, ← and_assoc, pos8_in hf, pos8_in hr]
  have v : ∀ a b, On 49 f r a b → dg b * f + dg a = at8 49 f a b := fun a b h => by
    rw [show dg a = pos8 49 a from find_dig a, show dg b = pos8 49 b from find_dig b, pos8_at hf h.1, pos8_at hr h.2]
    push_cast
    rfl
  have both : ∀ {α : Type} {a b c d : Nat} (F : Int → Int → Option α), (if (0 ≤ dg a ∧ dg a < f ∧ 0 ≤ dg b ∧ dg b < r) ∧ (0 ≤ dg c ∧ dg c < f ∧ 0 ≤ dg d ∧ dg d < r) then F (dg b * f + dg a) (dg d * f + dg c) else none) = if On 49 f r a b ∧ On 49 f r c d then F (at8 49 f a b) (at8 49 f c d) else none := fun {α a b c d} F => by
    by_cases h : On 49 f r a b ∧ On 49 f r c d
    · rw [if_pos h, if_pos ⟨(ok a b).mpr h.1, (ok c d).mpr h.2⟩, v a b h.1, v c d h.2]
    · rw [if_neg h, if_neg fun q => h ⟨(ok a b).mp q.1, (ok c d).mp q.2⟩]
  rcases five x with ⟨h4, h5, h⟩ | ⟨a, b, c, d, rfl⟩ | ⟨a, b, c, d, e, rfl⟩
  · rw [h (fun y => (tabOf (keyD f) (r * f)).lookup y) digitsEnd (fun y hy => tabOf_none fun i _ e => hy (by rw [← e]; rfl)) fun y hy => ends_none (ps := digitsEnds) (by decide +kernel) hy]
    exact if_pos ⟨h4, h5⟩
  · have e0 : digitsEnd ⟨#[]⟩ = some 0 := by decide +kernel
    rw [readT4, e0, tabD, tabD, three_if]
    exact both (fun s t => some (s, t, 0))
  · rw [readT5, dig_end, tabD, tabD, three_if]
    refine (both (fun s t => if 0 ≤ dg e ∧ dg e < 4 then some (s, t, 5 - dg e) else none)).trans ?_
    by_cases hk : 0 ≤ dg e ∧ dg e < 4
    · rw [if_pos hk, if_pos hk]; rfl
    · rw [if_neg hk, if_neg hk]; rfl
end part_PL1
section part_PL2
noncomputable def pk (r : MvRow) : Int := packed r.1 r.2.1 r.2.2.1 r.2.2.2
theorem dm {b t q : Int} (h0 : 0 ≤ t) (h1 : t < b) : (t + b * q) % b = t ∧ (t + b * q) / b = q := by
  have hb : b ≠ 0 := Int.ne_of_gt (Int.lt_of_le_of_lt h0 h1)
  exact ⟨by rw [Int.add_mul_emod_self_left, Int.emod_eq_of_lt h0 h1], by rw [Int.add_mul_ediv_left _ _ hb, Int.ediv_eq_zero_of_lt h0 h1, Int.zero_add]⟩
theorem packed_parts {t o x s y : Int} (ht : 0 ≤ t ∧ t < 64) (ho : 0 ≤ o ∧ o < 64) (hx : 0 ≤ x ∧ x < 4) (hs : 0 ≤ s ∧ s < 4) (e : y = t + 64 * (o + 64 * (x + 4 * s))) : y / 64 % 64 = o ∧ y % 64 = t ∧ y / 4096 % 4 = x ∧ y / 16384 % 4 = s := by
  obtain ⟨a1, a2⟩ := dm (b := 64) (q := o + 64 * (x + 4 * s)) ht.1 ht.2
  obtain ⟨b1, b2⟩ := dm (b := 64) (q := x + 4 * s) ho.1 ho.2
  obtain ⟨c1, c2⟩ := dm (b := 4) (q := s) hx.1 hx.2
  rw [← e] at a1 a2
  have d1 : y / 4096 = x + 4 * s := by rw [show (4096 : Int) = 64 * 64 from rfl, ← Int.ediv_ediv_of_nonneg (by decide), a2, b2]
  have d2 : y / 16384 = s := by rw [show (16384 : Int) = 4096 * 4 from rfl, ← Int.ediv_ediv_of_nonneg (by decide), d1, c2]
  rw [a2, d1, d2]
  exact ⟨b1, a1, c1, Int.emod_eq_of_lt hs.1 hs.2⟩
theorem pk_parts {many : Int} (hm : many ≤ 64) {r : MvRow} (h : GoodRow many r) : pk r / 64 % 64 = r.1 ∧ pk r % 64 = r.2.1 ∧ promoOf (pk r) = r.2.2.2 := by
  obtain ⟨o, t, sp, pr⟩ := r
  obtain ⟨h1, h2, h3, h4, h5⟩ := h
  dsimp only at h1 h2 h3 h4 h5 ⊢
  have hx : (0 ≤ (if sp = 1 then pr - 2 else 0) ∧ (if sp = 1 then pr - 2 else 0) < 4) ∧ (0 ≤ sp ∧ sp < 4) ∧ (if sp = 1 then (if sp = 1 then pr - 2 else 0) + 2 else 0) = pr := by
    rcases h5 with ⟨rfl, h6, h7⟩ | ⟨rfl | rfl | rfl, rfl⟩
    · rw [if_pos rfl, if_pos rfl]; exact ⟨⟨Int.sub_nonneg_of_le h6, Int.sub_left_lt_of_lt_add (Int.lt_of_le_of_lt h7 (by decide))⟩, by decide, Int.sub_add_cancel _ _⟩
    · decide
    · decide
    · decide
  have e := packed_parts (y := pk (o, t, sp, pr)) ⟨h3, Int.lt_of_lt_of_le h4 hm⟩ ⟨h1, Int.lt_of_lt_of_le h2 hm⟩ hx.1 hx.2.1 (by unfold pk packed; dsimp only; generalize (if sp = 1 then pr - 2 else 0) = x; rw [Int.mul_add 64 o, Int.mul_add 64 x, Int.mul_add 64 (64 * x), ← Int.mul_assoc 64 64 x, ← Int.mul_assoc 64 4 sp, ← Int.mul_assoc 64 (64 * 4) sp, Int.mul_comm o, Int.mul_comm x, Int.mul_comm sp, Int.add_assoc, Int.add_assoc]; rfl)
  unfold promoOf
  rw [e.1, e.2.1, e.2.2.1, e.2.2.2]
  exact ⟨rfl, rfl, hx.2.2⟩
theorem pk_hits {many : Int} (hm : many ≤ 64) {r : MvRow} (h : GoodRow many r) (q : Int × Int × Int) : hits q (pk r) = decide ((r.1, r.2.1, r.2.2.2) = q) := by
  obtain ⟨e1, e2, e3⟩ := pk_parts hm h
  obtain ⟨a, b, c⟩ := q
  unfold hits
  rw [e1, e2, e3]
  simp [Prod.ext_iff]
theorem first_hit {many : Int} (hm : many ≤ 64) (q : Int × Int × Int) : ∀ {rs : List MvRow}, (∀ r ∈ rs, GoodRow many r) → (rs.map pk).find? (hits q) = (rowHits rs (rs.map pk) q).head?
  | [], _ => rfl
  | r :: rs, h => by
    have ih := first_hit hm q (rs := rs) fun r hr => h r (.tail _ hr)
    unfold rowHits pairHits at ih ⊢
    rw [List.map_cons, List.find?_cons, pk_hits hm (h r (.head _)), List.zip_cons_cons, List.filter_cons]
    by_cases e : (r.1, r.2.1, r.2.2.2) = q
    · simp [e]
    · simp only [e, decide_false, Bool.false_eq_true, if_false]; exact ih
theorem eqF {f r : Nat} {many : Int} (hf : f ≤ 8) (hr : r ≤ 8) (hm : many ≤ 64) (x : Str) {rs : List MvRow} (h : ∀ r ∈ rs, GoodRow many r) :
    findC f r (rs.map pk) x = firstOf (readT (fun y => (tabOf (keyL f) (r * f)).lookup y) lettersEnd x) rs (rs.map pk) := by
  unfold findC firstOf
  rw [eqC hf hr x]
  congr 1
  funext q
  exact first_hit hm q h
theorem eqP {f r : Nat} {many : Int} (hf : f ≤ 8) (hr : r ≤ 8) (hm : many ≤ 64) (x : Str) {rs : List MvRow} (h : ∀ r ∈ rs, GoodRow many r) :
    pickI f r (rs.map pk) x = firstOf (readT (fun y => (tabOf (keyD f) (r * f)).lookup y) digitsEnd x) rs (rs.map pk) := by
  unfold pickI firstOf
  rw [eqI hf hr x]
  congr 1
  funext q
  exact first_hit hm q h
noncomputable abbrev oneOf (f : Nat) (r : MvRow) : Str := keyL f r.1.toNat ++ keyL f r.2.1.toNat ++ endsL.getD r.2.2.2.toNat Str.empty
noncomputable abbrev otherOf (f : Nat) (r : MvRow) : Str := keyD f r.1.toNat ++ keyD f r.2.1.toNat ++ endsD.getD r.2.2.2.toNat Str.empty
theorem promo_cases {many : Int} {r : MvRow} (h : GoodRow many r) : r.2.2.2 = 0 ∨ r.2.2.2 = 2 ∨ r.2.2.2 = 3 ∨ r.2.2.2 = 4 ∨ r.2.2.2 = 5 :=
  h.2.2.2.2.elim (fun h => .inr ((Int.lt_or_eq_of_le h.2.1).elim (fun h2 => .inr ((Int.lt_or_eq_of_le (show 3 ≤ _ from h2)).elim (fun h3 => .inr ((Int.lt_or_eq_of_le (show 4 ≤ _ from h3)).elim (fun h4 => .inr (Int.le_antisymm h.2.2 (show 5 ≤ _ from h4))) fun e => .inl e.symm)) fun e => .inl e.symm)) fun e => .inl e.symm)) fun h => .inl h.2
theorem one_parts (f i j : Nat) {k : Int} (hk : k = 0 ∨ k = 2 ∨ k = 3 ∨ k = 4 ∨ k = 5) : Txt.slice (keyL f i ++ keyL f j ++ endsL.getD k.toNat Str.empty) none (some 2) = keyL f i ∧ Txt.slice (keyL f i ++ keyL f j ++ endsL.getD k.toNat Str.empty) (some 2) (some 4) = keyL f j ∧
    Txt.slice (keyL f i ++ keyL f j ++ endsL.getD k.toNat Str.empty) (some 4) none = letterOf k ∧ lettersEnd (letterOf k) = some k := by
  have lit_e' : Str.empty = ⟨#[]⟩ := rfl
  rcases hk with rfl | rfl | rfl | rfl | rfl
  · have e : endsL.getD (Int.toNat 0) Str.empty = ⟨#[]⟩ := by decide +kernel
    rw [e]; exact ⟨rfl, rfl, by rw [show letterOf 0 = ⟨#[]⟩ from lit_e]; rfl, by decide +kernel⟩
  · have e : endsL.getD (Int.toNat 2) Str.empty = ⟨#[110]⟩ := by decide +kernel
    rw [e]; exact ⟨rfl, rfl, by rw [show letterOf 2 = ⟨#[110]⟩ from lit_n]; exact tail5 _ _ _ _ _, by decide +kernel⟩
  · have e : endsL.getD (Int.toNat 3) Str.empty = ⟨#[98]⟩ := by decide +kernel
    rw [e]; exact ⟨rfl, rfl, by rw [show letterOf 3 = ⟨#[98]⟩ from lit_b]; exact tail5 _ _ _ _ _, by decide +kernel⟩
  · have e : endsL.getD (Int.toNat 4) Str.empty = ⟨#[114]⟩ := by decide +kernel
    rw [e]; exact ⟨rfl, rfl, by rw [show letterOf 4 = ⟨#[114]⟩ from lit_r]; exact tail5 _ _ _ _ _, by decide +kernel⟩
  · have e : endsL.getD (Int.toNat 5) Str.empty = ⟨#[113]⟩ := by decide +kernel
    rw [e]; exact ⟨rfl, rfl, by rw [show letterOf 5 = ⟨#[113]⟩ from lit_q]; exact tail5 _ _ _ _ _, by decide +kernel⟩
theorem one_end {many : Int} {f : Nat} {r : MvRow} (h : GoodRow many r) : letterOf r.2.2.2 = Txt.slice (oneOf f r) (some 4) none := ((one_parts f _ _ (promo_cases h)).2.2.1).symm
theorem one_read {f r : Nat} (hf : f ≤ 8) (hr : r ≤ 8) {w : MvRow} (h : GoodRow ((r * f : Nat) : Int) w) : readC f r (oneOf f w) = some (w.1, w.2.1, w.2.2.2) := by
  obtain ⟨p1, p2, p3, p4⟩ := one_parts f w.1.toNat w.2.1.toNat (promo_cases h)
  obtain ⟨h1, h2, h3, h4, -⟩ := h
  rw [eqC hf hr]
  have l1 := tabOf_lookup (key := keyL f) (fun _ _ => keyL_inj) (n := r * f) (i := w.1.toNat) ((Int.toNat_lt h1).mpr h2)
  have l2 := tabOf_lookup (key := keyL f) (fun _ _ => keyL_inj) (n := r * f) (i := w.2.1.toNat) ((Int.toNat_lt h3).mpr h4)
  unfold readT
  rw [p1, p2, p3, p4]
  dsimp only
  rw [l1, l2, Int.toNat_of_nonneg h1, Int.toNat_of_nonneg h3]
theorem sq_name {f r : Nat} (hf0 : 0 < f) (hf : f ≤ 8) (hr : r ≤ 8) {o : Int} (h0 : 0 ≤ o) (h1 : o < ((r * f : Nat) : Int)) : sqName f o = keyD f o.toNat := by
  obtain ⟨o, rfl⟩ := Int.eq_ofNat_of_zero_le h0
  have hlt : o < r * f := by exact_mod_cast h1
  have hm := Nat.mod_lt o hf0
  have hd : o / f < r := Nat.div_lt_of_lt_mul (by rw [Nat.mul_comm]; exact hlt)
  have := sgD (o % f) (by omega) (o / f) (by omega)
  rw [Int.zero_add, Int.zero_add] at this
  unfold sqName dec
  rw [show ((o : Int) % (f : Int)) = ((o % f : Nat) : Int) from rfl, show ((o : Int) / (f : Int)) = ((o / f : Nat) : Int) from rfl, this]
  rfl
theorem other_is {f r : Nat} (hf0 : 0 < f) (hf : f ≤ 8) (hr : r ≤ 8) {w : MvRow} (h : GoodRow ((r * f : Nat) : Int) w) : iccfOf f (pk w) = otherOf f w := by
  have hm : ((r * f : Nat) : Int) ≤ 64 := by
    exact Int.ofNat_le.mpr (Nat.mul_le_mul hr hf)
  obtain ⟨e1, e2, e3⟩ := pk_parts hm h
  have hk := promo_cases h
  obtain ⟨h1, h2, h3, h4, -⟩ := h
  unfold iccfOf otherOf
  rw [e1, e2, e3, sq_name hf0 hf hr h1 h2, sq_name hf0 hf hr h3 h4]
  congr 1
  rcases hk with e | e | e | e | e <;> rw [e] <;> decide +kernel
end part_PL2
section part_M20
noncomputable abbrev MvC := Obj × List Value × Nat × Led × List MvRow
noncomputable abbrev mvLed (lr d : Addr) (rest : Led) (c : MvC) : Led := (lr, listOf c.2.1.toArray c.2.2.1) :: (d, c.1) :: (c.2.2.2.1 ++ rest)
noncomputable def MvOk (prog : Program) (w : World) (l lr d : Addr) (rest : Led) (many : Int) (i : Nat) (c : MvC) : Prop :=
  DeckO prog w c.1 l ∧ (∀ p ∈ c.2.2.2.1, p.1 ≠ d ∧ p.1 ≠ lr) ∧ RowsIn (c.2.2.2.1 ++ rest) c.2.1 c.2.2.2.2 ∧ c.2.2.2.2.length = i ∧ ∀ r ∈ c.2.2.2.2, GoodRow many r
theorem mv_turn {C : Cx sc room} {prog : Program} {w : World} {l lr d D : Addr} {m' m₀ : Str → Option Value} {rest own n' : Led} {many a b sp pr : Int} {i : Nat} {c1 o' : Obj} {c2 : List Value} {c3 : Nat} {c4 : Led} {c5 : List MvRow} {t1 t2 t3 t4 : Tok} {x : Str} {stored : List Str} {Q : Flow → (Str → Option Value) → Led → Prop}
    (hm : ∀ p ∈ (D, tupOf [.int a t1, .int b t2, .int sp t3, .int pr t4]) :: (lr, listOf (c2.toArray.push (.ref D)) (c3 + 1)) :: (d, o') :: (c4 ++ rest ++ own), p ∈ n')
    (lD : @LT.lt Nat _ lr D) (ld : @LT.lt Nat _ d D) (al : ∀ p ∈ c4 ++ rest ++ own, @LT.lt Nat _ p.1 D) (hoff : OwnOff own ((mvLed lr d rest (c1, c2, c3, c4, c5)).map (·.1))) (D9 : DeckO prog w o' l)
    (p : MvOk prog w l lr d rest many i (c1, c2, c3, c4, c5)) (good : GoodRow many (a, b, sp, pr)) (hr : ∀ z, z ≠ x → stored.contains z = false → m' z = m₀ z) :
    C.turn x (mvLed lr d rest) (fun _ => []) stored m₀ (MvOk prog w l lr d rest many) own (i + 1) Q .next m' n' := by
  obtain ⟨p1, p2, p3, p4, p5⟩ := p
  have e : (c2 ++ [Value.ref D]).toArray = c2.toArray.push (.ref D) := by simp
  refine ⟨(o', c2 ++ [.ref D], c3 + 1, (D, tupOf [.int a t1, .int b t2, .int sp t3, .int pr t4]) :: c4, c5 ++ [(a, b, sp, pr)]), ?s1, ?s2, ?s0, (fun _ hp => nomatch hp), (fun z h1 _ h3 => hr z h1 h3), ⟨D9, ?q2, ?q3, ?q4, ?q5⟩⟩
  case s1 => exact List.forall_mem_cons.mpr ⟨by rw [e]; exact hm _ (.tail _ (.head _)), List.forall_mem_cons.mpr ⟨hm _ (.tail _ (.tail _ (.head _))), List.forall_mem_cons.mpr ⟨hm _ (.head _), fun p hp => hm _ (.tail _ (.tail _ (.tail _ (List.mem_append_left _ hp))))⟩⟩⟩
  case s2 => exact fun p hp => hm _ (.tail _ (.tail _ (.tail _ (List.mem_append_right _ hp))))
  case s0 => exact fun q hq => List.forall_mem_cons.mpr ⟨hoff q hq _ (.head _), List.forall_mem_cons.mpr ⟨hoff q hq _ (.tail _ (.head _)), List.forall_mem_cons.mpr ⟨Nat.ne_of_lt (al q (List.mem_append_right _ hq)), fun a ha => hoff q hq a (.tail _ (.tail _ ha))⟩⟩⟩
  case q2 => exact List.forall_mem_cons.mpr ⟨⟨Nat.ne_of_gt ld, Nat.ne_of_gt lD⟩, p2⟩
  case q3 => exact p3.snoc (fun p hp => .tail _ hp) (.head _)
  case q4 => show (c5 ++ [_]).length = i + 1; rw [List.length_append, show c5.length = i from p4]; rfl
  case q5 => exact List.forall_mem_append.mpr ⟨p5, List.forall_mem_singleton.mpr good⟩
noncomputable def MvRes (prog : Program) (w : World) (l d : Addr) (rest : Led) (many : Int) (v : Value) (nw : Led) : Prop :=
  ∃ lr vs n rs extra o', v = .ref lr ∧ DeckO prog w o' l ∧ (∀ p ∈ extra, p.1 ≠ d) ∧ RowsIn (extra ++ rest) vs rs ∧ 0 < rs.length ∧ rs.length < 10 ∧ (∀ r ∈ rs, GoodRow many r) ∧ lr ≠ d ∧ nw = (lr, listOf (List.toArray vs) n) :: (d, o') :: (extra ++ rest)
theorem castle_good {many : Int} {r r' : MvRow} (h : GoodRow many r) (h' : GoodRow many r') : GoodRow many (r.1, r'.2.1, 3, 0) := ⟨h.1, h.2.1, h'.2.2.1, h'.2.2.2.1, .inr ⟨.inr (.inr rfl), rfl⟩⟩
theorem mv_res {prog : Program} {w : World} {l lr d D : Addr} {rest n' : Led} {many a b sp pr : Int} {i : Nat} {c1 o' : Obj} {c2 : List Value} {c3 : Nat} {c4 : Led} {c5 : List MvRow} {t1 t2 t3 t4 : Tok}
    (N : ∀ p ∈ (D, tupOf [.int a t1, .int b t2, .int sp t3, .int pr t4]) :: (lr, listOf (c2.toArray.push (.ref D)) (c3 + 1)) :: (d, o') :: (c4 ++ rest), p ∈ n') (ld : @LT.lt Nat _ d D) (D9 : DeckO prog w o' l)
    (p : MvOk prog w l lr d rest many i (c1, c2, c3, c4, c5)) (hi : i < 8) (ne : lr ≠ d) (good : GoodRow many (a, b, sp, pr)) : ∃ nw, (∀ p ∈ nw, p ∈ n') ∧ MvRes prog w l d rest many (Value.ref lr) nw := by
  obtain ⟨p1, p2, p3, p4, p5⟩ := p
  have e : (c2 ++ [Value.ref D]).toArray = c2.toArray.push (.ref D) := by simp
  have p4' : c5.length = i := p4
  refine ⟨(lr, listOf (c2 ++ [Value.ref D]).toArray (c3 + 1)) :: (d, o') :: (((D, tupOf [.int a t1, .int b t2, .int sp t3, .int pr t4]) :: c4) ++ rest), ?nn, lr, c2 ++ [Value.ref D], c3 + 1, c5 ++ [(a, b, sp, pr)], (D, tupOf [.int a t1, .int b t2, .int sp t3, .int pr t4]) :: c4, o', rfl, D9, ?a, ?r, ?l1, ?l2, ?b, ne, rfl⟩
  case nn => exact List.forall_mem_cons.mpr ⟨by rw [e]; exact N _ (.tail _ (.head _)), List.forall_mem_cons.mpr ⟨N _ (.tail _ (.tail _ (.head _))), List.forall_mem_cons.mpr ⟨N _ (.head _), fun p hp => N _ (.tail _ (.tail _ (.tail _ hp)))⟩⟩⟩
  case a => exact List.forall_mem_cons.mpr ⟨Nat.ne_of_gt ld, fun p hp => (p2 p hp).1⟩
  case r => exact p3.snoc (fun p hp => .tail _ hp) (.head _)
  case l1 => rw [List.length_append]; exact Nat.succ_pos _
  case l2 => rw [List.length_append, p4']; exact Nat.lt_of_le_of_lt (Nat.succ_le_of_lt hi) (by decide)
  case b => exact List.forall_mem_append.mpr ⟨p5, List.forall_mem_singleton.mpr good⟩
theorem menu_good {many a b k : Int} (ha : 0 ≤ a ∧ a < many) (hb : 0 ≤ b ∧ b < many) (h0 : 0 ≤ k) (h4 : ¬ 4 < k) : GoodRow many (a, b, List.getD [0, 0, 2, 3, 0] k.toNat 0, 0) :=
  ⟨ha.1, ha.2, hb.1, hb.2, .inr ⟨(show ∀ i < 5, List.getD [(0 : Int), 0, 2, 3, 0] i 0 = 0 ∨ List.getD [(0 : Int), 0, 2, 3, 0] i 0 = 2 ∨ List.getD [(0 : Int), 0, 2, 3, 0] i 0 = 3 by decide +kernel) _ ((Int.toNat_lt h0).mpr (Int.lt_add_one_of_le (Int.not_lt.mp h4))), rfl⟩⟩
section
variable {C : Cx sc room} {m : Str → Option Value} {n : Led} {K : Value → Led → Prop} {u : Tok} {l : Addr} {vs : List Value} {k : Nat}
theorem v_tupI {value slice : PySem.Expr} {cs : List Int} {i : Int} (hm : (l, tupOf vs) ∈ n) (hi : IntsAre vs cs) (h0 : 0 ≤ i) (h1 : i < cs.length) (hz : cs.length < 2 ^ 62) (q : ∀ t, K (.int (cs.getD i.toNat 0) t) n)
    (hs : subscripted slice false (.ref l) (.int i u) = operate [.ref l, .int i u] (getItem (.ref l) (.int i u)) := by with_unfolding_all rfl) : C.R m n (subscriptTail value slice (.ref l) (.int i u)) K := by
  have hlt : i.toNat < cs.length := (Int.toNat_lt h0).mpr h1
  obtain ⟨t, ht⟩ := hi.get i.toNat (cs.getD i.toNat 0) (by rw [List.getD_eq_getElem?_getD, List.getElem?_eq_getElem hlt]; rfl)
  exact v_tupItem hm h0 (Int.lt_trans h1 (lt_of_eq62 hz)) ht (q t) hs
theorem v_rowLast {value slice : PySem.Expr} {rs : List MvRow} {news' : Led} (hm : (l, listOf vs.toArray k) ∈ n) (hr : RowsIn news' vs rs) (hk : 0 < rs.length)
    (q : ∀ a r t1 t2 t3 t4, r ∈ rs → (a, tupOf [.int r.1 t1, .int r.2.1 t2, .int r.2.2.1 t3, .int r.2.2.2 t4]) ∈ news' → K (.ref a) n)
    (hs : subscripted slice false (.ref l) (.int (-1) u) = operate [.ref l, .int (-1) u] (getItem (.ref l) (.int (-1) u)) := by with_unfolding_all rfl) : C.R m n (subscriptTail value slice (.ref l) (.int (-1) u)) K := fun h tk F N =>
  r_rowLast N hm hr hk (fun a r t1 t2 t3 t4 h1 h2 => ⟨h, tk, n, rfl, F, N, q a r t1 t2 t3 t4 h1 h2⟩) hs
end
theorem ret_of {Q : Flow → (Str → Option Value) → Led → Prop} {R : Value → Led → Prop} {v : Value} {m : Str → Option Value} {n' : Led} (hQ : ∀ v m n n', R v n → (∀ p ∈ n, p ∈ n') → Q (.ret v) m n') (h : ∃ nw, (∀ p ∈ nw, p ∈ n') ∧ R v nw) : Q (.ret v) m n' := let ⟨nw, nn, rr⟩ := h; hQ v m nw n' rr nn
section
theorem c_moves (prog : Program) (w : World) (rest : Led) (d l : Addr) (o : Obj) (vs : List Value) (n : Nat) (cells : List Int) (many : Int) (tb : Tok) (hm : 0 < many ∧ many ≤ 64) (hc : (l, listOf vs.toArray n) ∈ rest) (hne : ∀ p ∈ rest, p.1 ≠ d) (K : DeckK d l vs cells) (D : DeckO prog w o l) :
    Con prog w 179 3 ((d, o) :: rest) [.ref d, .int many tb] (MvRes prog w l d rest many) := by
  refine' ConX.never (runs_conX (P := False) ?ho ?hcd ?hbm ?hk4 (fun z => z.elim) ?run ?hbind ?hloc ?hco ?hgen ?hk ?hcell)
  (case ho => k_is)
  (case hcd => k_is)
  (case hbm => k_is)
  (case hk4 => k_is)
  (case hbind => exact fun _ => BindsTo.of_eq rfl)
  (case hloc => exact locs rfl)
  (case hco => exact rfl)
  (case hgen => exact rfl)
  (case hk => exact rfl)
  (case hcell => decide)
  rintro C Q rfl rfl hn0 hP hQ
  refine s_let ?_
  intro m0
  (repeat' (first | with_reducible intro _ | ((with_reducible refine' e_callP ?kf_65 ?kv_65 ?kx_65 ?kb_65 ?ke_65 ?kp_65 fun _ => ?_); (case kf_65 => k_is); (case kv_65 => k_is); (case kx_65 => exact rfl); (case kb_65 => exact rfl); (case ke_65 => exact rfl); (case kp_65 => exact rfl); (with_unfolding_all change Cx.R _ _ _ _ _)) | ((with_reducible refine' t_cmpP ?_ ?km_65); (case km_65 => exact rfl); (first | (with_unfolding_all change Cx.R _ _ _ _ _) | (intro _; (with_unfolding_all change Cx.R _ _ _ _ _)) | (intro _; intro _; (with_unfolding_all change Cx.R _ _ _ _ _)))) | ((with_reducible refine' l_plain fun _ => ?_); (with_unfolding_all change Cx.R _ _ _ _ _)) | ((with_reducible refine' s_assign ?_ ?kx_65 ?ks_65); (case kx_65 => exact rfl); (case ks_65 => exact rfl); intro ka) | ((with_reducible refine s_go ?_); (try clear ka); intro _) | (with_reducible refine s_return ?_) | ((with_reducible refine s_if ?_); intro kc) | (with_reducible refine s_skip ?_) | ((with_reducible refine at_true ?_); (try clear kc)) | ((with_reducible refine at_false ?_); (try clear kc)) | (with_reducible refine e_int fun _ => ?_) | (with_reducible refine e_bin ?_) | (with_reducible refine v_add fun _ => ?_) | (with_reducible refine b_eq (fun _ => ?_) (fun _ => ?_)) | (with_reducible refine b_gt (fun _ => ?_) (fun _ => ?_)) | (with_reducible refine l_nil ?_) | ((with_reducible refine' e_local ?kv_65 ?_); (case kv_65 => exact rfl)) | ((with_reducible refine' t_cmp ?_ ?km_65); (case km_65 => exact rfl)) | ((with_reducible refine' l_cons ?_ ?ke_65); (case ke_65 => exact rfl)) | (with_reducible refine e_sub ?_) | (with_reducible refine e_neg fun _ => ?_) | (with_reducible refine ⟨_, _, rfl, ?_⟩) | ((with_reducible refine' r_k ?kc_65 ?kr_65 ?_); (case kc_65 => first | (refine' k_number _ _ _ _ _ _ _ _ _ _ _ _ ?x0_65 ?xU_65 ?xc_65 ?xK_65 ?xD_65; (case xK_65 => assumption); (case xD_65 => assumption); (case xU_65 => k_updF); (case xc_65 => k_mem); (case x0_65 => first | decide | omega))); (case kr_65 => decide)) | ((with_reducible refine' s_pair ?_ ?k1_65 ?k2_65 ?ks_65 ?kw_65); (case k1_65 => exact rfl); (case k2_65 => exact rfl); (case ks_65 => exact rfl); (case kw_65 => exact rfl)) | ((with_reducible refine' s_append ?kv_65 ?km_65 ?_ ?ks_65 ?kc_65 ?kh_65); (case kv_65 => exact rfl); (case km_65 => k_mem); (case ks_65 => exact rfl); (case kc_65 => exact rfl); (case kh_65 => exact rfl)) | ((with_reducible refine' v_tupI (cs := [0, 0, 2, 3, 0]) ?km_65 ?ki_65 ?k0_65 ?k1_65 ?k2_65 (fun _ => ?_) ?kd_65); (case kd_65 => with_unfolding_all rfl); (case km_65 => k_mem); (case ki_65 => exact .cons _ _ (.cons _ _ (.cons _ _ (.cons _ _ (.cons _ _ .nil))))); (case k0_65 => assumption); (case k1_65 => (show _ < (5 : Int); omega)); (case k2_65 => decide)) | ((with_reducible refine' v_tupItem ?km_65 ?k0_65 ?k1_65 ?kx_65 ?_ ?kd_65); (case kd_65 => with_unfolding_all rfl); (case km_65 => k_mem); (case k0_65 => decide); (case k1_65 => decide); (case kx_65 => exact rfl)) | ((with_reducible refine' v_rowLast ?km_65 ?kr_65 ?kk_65 (fun _ _ _ _ _ _ _ _ => ?_) ?kd_65); (case kd_65 => with_unfolding_all rfl); (case km_65 => k_mem); (case kr_65 => assumption); (case kk_65 => assumption)) | (with_reducible refine e_tuple ?_) | ((with_reducible refine' v_tuple ?kz_65 fun _ _ => ?_); (case kz_65 => exact Nat.le_of_ble_eq_true rfl)) | (with_reducible refine e_list ?_) | ((with_reducible refine' v_list ?kz_65 fun _ _ => ?_); (case kz_65 => exact Nat.le_of_ble_eq_true rfl)) | fail))
  rename_i lr l1 mm
  have l12 : @LT.lt Nat _ d lr := l1 _ (.head _)
  have hlr : lr ≠ d := Nat.ne_of_gt l12
  have hnl : ∀ p ∈ rest, p.1 ≠ lr := fun p hp => Nat.ne_of_lt (l1 p (.tail _ hp))
  refine s_seq (forR1 (σ := MvC) (fun _ => []) [Str.ofString "origin", Str.ofString "goal", Str.ofString "sort"] rfl ?kf ?kb rfl (fun _ => rfl) rfl ?_)
  (case kf => k_is)
  (case kb => boot_fast)
  (repeat' (first | with_reducible intro _ | ((with_reducible refine' e_callP ?kf_66 ?kv_66 ?kx_66 ?kb_66 ?ke_66 ?kp_66 fun _ => ?_); (case kf_66 => k_is); (case kv_66 => k_is); (case kx_66 => exact rfl); (case kb_66 => exact rfl); (case ke_66 => exact rfl); (case kp_66 => exact rfl); (with_unfolding_all change Cx.R _ _ _ _ _)) | ((with_reducible refine' t_cmpP ?_ ?km_66); (case km_66 => exact rfl); (first | (with_unfolding_all change Cx.R _ _ _ _ _) | (intro _; (with_unfolding_all change Cx.R _ _ _ _ _)) | (intro _; intro _; (with_unfolding_all change Cx.R _ _ _ _ _)))) | ((with_reducible refine' l_plain fun _ => ?_); (with_unfolding_all change Cx.R _ _ _ _ _)) | ((with_reducible refine' s_assign ?_ ?kx_66 ?ks_66); (case kx_66 => exact rfl); (case ks_66 => exact rfl); intro ka) | ((with_reducible refine s_go ?_); (try clear ka); intro _) | (with_reducible refine s_return ?_) | ((with_reducible refine s_if ?_); intro kc) | (with_reducible refine s_skip ?_) | ((with_reducible refine at_true ?_); (try clear kc)) | ((with_reducible refine at_false ?_); (try clear kc)) | (with_reducible refine e_int fun _ => ?_) | (with_reducible refine e_bin ?_) | (with_reducible refine v_add fun _ => ?_) | (with_reducible refine b_eq (fun _ => ?_) (fun _ => ?_)) | (with_reducible refine b_gt (fun _ => ?_) (fun _ => ?_)) | (with_reducible refine l_nil ?_) | ((with_reducible refine' e_local ?kv_66 ?_); (case kv_66 => exact rfl)) | ((with_reducible refine' t_cmp ?_ ?km_66); (case km_66 => exact rfl)) | ((with_reducible refine' l_cons ?_ ?ke_66); (case ke_66 => exact rfl)) | (with_reducible refine e_sub ?_) | (with_reducible refine e_neg fun _ => ?_) | (with_reducible refine ⟨_, _, rfl, ?_⟩) | ((with_reducible refine' r_k ?kc_66 ?kr_66 ?_); (case kc_66 => first | (refine' k_number _ _ _ _ _ _ _ _ _ _ _ _ ?x0_66 ?xU_66 ?xc_66 ?xK_66 ?xD_66; (case xK_66 => assumption); (case xD_66 => assumption); (case xU_66 => k_updF); (case xc_66 => k_mem); (case x0_66 => first | decide | omega))); (case kr_66 => decide)) | ((with_reducible refine' s_pair ?_ ?k1_66 ?k2_66 ?ks_66 ?kw_66); (case k1_66 => exact rfl); (case k2_66 => exact rfl); (case ks_66 => exact rfl); (case kw_66 => exact rfl)) | ((with_reducible refine' s_append ?kv_66 ?km_66 ?_ ?ks_66 ?kc_66 ?kh_66); (case kv_66 => exact rfl); (case km_66 => k_mem); (case ks_66 => exact rfl); (case kc_66 => exact rfl); (case kh_66 => exact rfl)) | ((with_reducible refine' v_tupI (cs := [0, 0, 2, 3, 0]) ?km_66 ?ki_66 ?k0_66 ?k1_66 ?k2_66 (fun _ => ?_) ?kd_66); (case kd_66 => with_unfolding_all rfl); (case km_66 => k_mem); (case ki_66 => exact .cons _ _ (.cons _ _ (.cons _ _ (.cons _ _ (.cons _ _ .nil))))); (case k0_66 => assumption); (case k1_66 => (show _ < (5 : Int); omega)); (case k2_66 => decide)) | ((with_reducible refine' v_tupItem ?km_66 ?k0_66 ?k1_66 ?kx_66 ?_ ?kd_66); (case kd_66 => with_unfolding_all rfl); (case km_66 => k_mem); (case k0_66 => decide); (case k1_66 => decide); (case kx_66 => exact rfl)) | ((with_reducible refine' v_rowLast ?km_66 ?kr_66 ?kk_66 (fun _ _ _ _ _ _ _ _ => ?_) ?kd_66); (case kd_66 => with_unfolding_all rfl); (case km_66 => k_mem); (case kr_66 => assumption); (case kk_66 => assumption)) | (with_reducible refine e_tuple ?_) | ((with_reducible refine' v_tuple ?kz_66 fun _ _ => ?_); (case kz_66 => exact Nat.le_of_ble_eq_true rfl)) | (with_reducible refine e_list ?_) | ((with_reducible refine' v_list ?kz_66 fun _ _ => ?_); (case kz_66 => exact Nat.le_of_ble_eq_true rfl)) | fail))
  rename_i k9 tkk o9 lo9 hi9 D9 t9
  have hk0 : 0 ≤ 1 + k9 := Int.le_trans lo9 (Int.le_add_of_nonneg_left (by decide))
  have hk8 : (1 + k9).toNat < 7 := (Int.toNat_lt hk0).mpr (Int.add_lt_add_left hi9 1)
  refine ⟨(1 + k9).toNat, 1 + k9, _, mvLed lr d rest, MvOk _ _ l lr d rest many, (o9, [], 0, [], []), rfl, (Int.toNat_of_nonneg hk0).symm, Nat.lt_trans hk8 (by decide), rfl, (fun _ hp => nomatch hp), ⟨D9, (fun _ hp => nomatch hp), ⟨rfl, fun i r h => nomatch h⟩, rfl, (fun _ hp => nomatch hp)⟩, ?_, ?_⟩
  · rintro ⟨c1, c2, c3, c4, c5⟩ i ti u9 own hi9' hoff9 p0
    obtain ⟨p1, p2, p3, p4, p5⟩ := id p0
    dsimp only at p1 p2 p3 p4 p5
    dsimp -zeta only [within, kstB]
    intro m9
    show C.S m9 ((lr, listOf c2.toArray c3) :: (d, c1) :: (c4 ++ rest ++ own)) _ _
    have m1 : ∀ p ∈ c4 ++ rest ++ own, p.1 ≠ d := List.forall_mem_append.mpr ⟨List.forall_mem_append.mpr ⟨fun p hp => (p2 p hp).1, hne⟩, hoff9.ne (.tail _ (.head _))⟩
    have m2 : ∀ p ∈ c4 ++ rest ++ own, p.1 ≠ lr := List.forall_mem_append.mpr ⟨List.forall_mem_append.mpr ⟨fun p hp => (p2 p hp).2, hnl⟩, hoff9.ne (.head _)⟩
    have hul : c2.length ≤ 100 := p3.1 ▸ p4 ▸ Nat.le_of_lt (Nat.lt_trans hi9' (Nat.lt_trans hk8 (by decide)))
    have hul' : c2.length ≤ sizeLine := Nat.le_trans hul (by decide)
    have uh : ∀ (o' : Obj), ∀ p ∈ (d, o') :: (c4 ++ rest ++ own), p.1 ≠ lr := fun o' p hp => (List.mem_cons.mp hp).elim (fun e => e ▸ Nat.ne_of_lt l12) (m2 p)
    have fr : ∀ (z : Str) (v1 v2 v3 : Option Value), z ≠ Str.ofString "turn" → [Str.ofString "origin", Str.ofString "goal", Str.ofString "sort"].contains z = false →
        (if z = Str.ofString "sort" then v1 else if z = Str.ofString "origin" then v2 else if z = Str.ofString "goal" then v3 else m9 z) = mm z := fun z v1 v2 v3 h1 h3 => by
      have h4 : z ≠ Str.ofString "origin" ∧ z ≠ Str.ofString "goal" ∧ z ≠ Str.ofString "sort" := (by simpa using h3)
      rw [if_neg h4.2.2, if_neg h4.1, if_neg h4.2.1]
      exact (if_neg h1).trans (if_neg (fun h => by rw [h3] at h; cases h))
    refine s_letQ ?_
    intro Q9
    (repeat' (first | with_reducible intro _ | ((with_reducible refine' e_callP ?kf_67 ?kv_67 ?kx_67 ?kb_67 ?ke_67 ?kp_67 fun _ => ?_); (case kf_67 => k_is); (case kv_67 => k_is); (case kx_67 => exact rfl); (case kb_67 => exact rfl); (case ke_67 => exact rfl); (case kp_67 => exact rfl); (with_unfolding_all change Cx.R _ _ _ _ _)) | ((with_reducible refine' t_cmpP ?_ ?km_67); (case km_67 => exact rfl); (first | (with_unfolding_all change Cx.R _ _ _ _ _) | (intro _; (with_unfolding_all change Cx.R _ _ _ _ _)) | (intro _; intro _; (with_unfolding_all change Cx.R _ _ _ _ _)))) | ((with_reducible refine' l_plain fun _ => ?_); (with_unfolding_all change Cx.R _ _ _ _ _)) | ((with_reducible refine' s_assign ?_ ?kx_67 ?ks_67); (case kx_67 => exact rfl); (case ks_67 => exact rfl); intro ka) | ((with_reducible refine s_go ?_); (try clear ka); intro _) | (with_reducible refine s_return ?_) | ((with_reducible refine s_if ?_); intro kc) | (with_reducible refine s_skip ?_) | ((with_reducible refine at_true ?_); (try clear kc)) | ((with_reducible refine at_false ?_); (try clear kc)) | (with_reducible refine e_int fun _ => ?_) | (with_reducible refine e_bin ?_) | (with_reducible refine v_add fun _ => ?_) | (with_reducible refine b_eq (fun _ => ?_) (fun _ => ?_)) | (with_reducible refine b_gt (fun _ => ?_) (fun _ => ?_)) | (with_reducible refine l_nil ?_) | ((with_reducible refine' e_local ?kv_67 ?_); (case kv_67 => exact rfl)) | ((with_reducible refine' t_cmp ?_ ?km_67); (case km_67 => exact rfl)) | ((with_reducible refine' l_cons ?_ ?ke_67); (case ke_67 => exact rfl)) | (with_reducible refine e_sub ?_) | (with_reducible refine e_neg fun _ => ?_) | (with_reducible refine ⟨_, _, rfl, ?_⟩) | ((with_reducible refine' r_k ?kc_67 ?kr_67 ?_); (case kc_67 => first | (refine' k_number _ _ _ _ _ _ _ _ _ _ _ _ ?x0_67 ?xU_67 ?xc_67 ?xK_67 ?xD_67; (case xK_67 => assumption); (case xD_67 => assumption); (case xU_67 => k_updF); (case xc_67 => k_mem); (case x0_67 => first | decide | omega))); (case kr_67 => decide)) | ((with_reducible refine' s_pair ?_ ?k1_67 ?k2_67 ?ks_67 ?kw_67); (case k1_67 => exact rfl); (case k2_67 => exact rfl); (case ks_67 => exact rfl); (case kw_67 => exact rfl)) | ((with_reducible refine' s_append ?kv_67 ?km_67 ?_ ?ks_67 ?kc_67 ?kh_67); (case kv_67 => exact rfl); (case km_67 => k_mem); (case ks_67 => exact rfl); (case kc_67 => exact rfl); (case kh_67 => exact rfl)) | ((with_reducible refine' v_tupI (cs := [0, 0, 2, 3, 0]) ?km_67 ?ki_67 ?k0_67 ?k1_67 ?k2_67 (fun _ => ?_) ?kd_67); (case kd_67 => with_unfolding_all rfl); (case km_67 => k_mem); (case ki_67 => exact .cons _ _ (.cons _ _ (.cons _ _ (.cons _ _ (.cons _ _ .nil))))); (case k0_67 => assumption); (case k1_67 => (show _ < (5 : Int); omega)); (case k2_67 => decide)) | ((with_reducible refine' v_tupItem ?km_67 ?k0_67 ?k1_67 ?kx_67 ?_ ?kd_67); (case kd_67 => with_unfolding_all rfl); (case km_67 => k_mem); (case k0_67 => decide); (case k1_67 => decide); (case kx_67 => exact rfl)) | ((with_reducible refine' v_rowLast ?km_67 ?kr_67 ?kk_67 (fun _ _ _ _ _ _ _ _ => ?_) ?kd_67); (case kd_67 => with_unfolding_all rfl); (case km_67 => k_mem); (case kr_67 => assumption); (case kk_67 => assumption)) | (with_reducible refine e_tuple ?_) | ((with_reducible refine' v_tuple ?kz_67 fun _ _ => ?_); (case kz_67 => exact Nat.le_of_ble_eq_true rfl)) | (with_reducible refine e_list ?_) | ((with_reducible refine' v_list ?kz_67 fun _ _ => ?_); (case kz_67 => exact Nat.le_of_ble_eq_true rfl)) | fail))
    · rename_i D lD
      refine ⟨c2, c3, _, .tail (Nat.ne_of_gt (lD _ (.head _))) (.head (uh _)), hul', ?_⟩
      (repeat' (first | with_reducible intro _ | ((with_reducible refine' e_callP ?kf_68 ?kv_68 ?kx_68 ?kb_68 ?ke_68 ?kp_68 fun _ => ?_); (case kf_68 => k_is); (case kv_68 => k_is); (case kx_68 => exact rfl); (case kb_68 => exact rfl); (case ke_68 => exact rfl); (case kp_68 => exact rfl); (with_unfolding_all change Cx.R _ _ _ _ _)) | ((with_reducible refine' t_cmpP ?_ ?km_68); (case km_68 => exact rfl); (first | (with_unfolding_all change Cx.R _ _ _ _ _) | (intro _; (with_unfolding_all change Cx.R _ _ _ _ _)) | (intro _; intro _; (with_unfolding_all change Cx.R _ _ _ _ _)))) | ((with_reducible refine' l_plain fun _ => ?_); (with_unfolding_all change Cx.R _ _ _ _ _)) | ((with_reducible refine' s_assign ?_ ?kx_68 ?ks_68); (case kx_68 => exact rfl); (case ks_68 => exact rfl); intro ka) | ((with_reducible refine s_go ?_); (try clear ka); intro _) | (with_reducible refine s_return ?_) | ((with_reducible refine s_if ?_); intro kc) | (with_reducible refine s_skip ?_) | ((with_reducible refine at_true ?_); (try clear kc)) | ((with_reducible refine at_false ?_); (try clear kc)) | (with_reducible refine e_int fun _ => ?_) | (with_reducible refine e_bin ?_) | (with_reducible refine v_add fun _ => ?_) | (with_reducible refine b_eq (fun _ => ?_) (fun _ => ?_)) | (with_reducible refine b_gt (fun _ => ?_) (fun _ => ?_)) | (with_reducible refine l_nil ?_) | ((with_reducible refine' e_local ?kv_68 ?_); (case kv_68 => exact rfl)) | ((with_reducible refine' t_cmp ?_ ?km_68); (case km_68 => exact rfl)) | ((with_reducible refine' l_cons ?_ ?ke_68); (case ke_68 => exact rfl)) | (with_reducible refine e_sub ?_) | (with_reducible refine e_neg fun _ => ?_) | (with_reducible refine ⟨_, _, rfl, ?_⟩) | ((with_reducible refine' r_k ?kc_68 ?kr_68 ?_); (case kc_68 => first | (refine' k_number _ _ _ _ _ _ _ _ _ _ _ _ ?x0_68 ?xU_68 ?xc_68 ?xK_68 ?xD_68; (case xK_68 => assumption); (case xD_68 => assumption); (case xU_68 => k_updF); (case xc_68 => k_mem); (case x0_68 => first | decide | omega))); (case kr_68 => decide)) | ((with_reducible refine' s_pair ?_ ?k1_68 ?k2_68 ?ks_68 ?kw_68); (case k1_68 => exact rfl); (case k2_68 => exact rfl); (case ks_68 => exact rfl); (case kw_68 => exact rfl)) | ((with_reducible refine' s_append ?kv_68 ?km_68 ?_ ?ks_68 ?kc_68 ?kh_68); (case kv_68 => exact rfl); (case km_68 => k_mem); (case ks_68 => exact rfl); (case kc_68 => exact rfl); (case kh_68 => exact rfl)) | ((with_reducible refine' v_tupI (cs := [0, 0, 2, 3, 0]) ?km_68 ?ki_68 ?k0_68 ?k1_68 ?k2_68 (fun _ => ?_) ?kd_68); (case kd_68 => with_unfolding_all rfl); (case km_68 => k_mem); (case ki_68 => exact .cons _ _ (.cons _ _ (.cons _ _ (.cons _ _ (.cons _ _ .nil))))); (case k0_68 => assumption); (case k1_68 => (show _ < (5 : Int); omega)); (case k2_68 => decide)) | ((with_reducible refine' v_tupItem ?km_68 ?k0_68 ?k1_68 ?kx_68 ?_ ?kd_68); (case kd_68 => with_unfolding_all rfl); (case km_68 => k_mem); (case k0_68 => decide); (case k1_68 => decide); (case kx_68 => exact rfl)) | ((with_reducible refine' v_rowLast ?km_68 ?kr_68 ?kk_68 (fun _ _ _ _ _ _ _ _ => ?_) ?kd_68); (case kd_68 => with_unfolding_all rfl); (case km_68 => k_mem); (case kr_68 => assumption); (case kk_68 => assumption)) | (with_reducible refine e_tuple ?_) | ((with_reducible refine' v_tuple ?kz_68 fun _ _ => ?_); (case kz_68 => exact Nat.le_of_ble_eq_true rfl)) | (with_reducible refine e_list ?_) | ((with_reducible refine' v_list ?kz_68 fun _ _ => ?_); (case kz_68 => exact Nat.le_of_ble_eq_true rfl)) | fail))
      exact s_nil (mv_turn (fun p hp => hp) (lD _ (.head _)) (lD _ (.tail _ (.head _))) (fun p hp => lD p (.tail _ (.tail _ hp))) hoff9 (by assumption) p0 ⟨by assumption, by assumption, by assumption, by assumption, .inl ⟨rfl, Int.le_add_of_nonneg_right (by assumption), Int.add_le_add_left (show _ ≤ (3 : Int) from Int.le_of_lt_add_one (by assumption)) 2⟩⟩ (fun z h1 h3 => fr z _ _ _ h1 h3))
    · rename_i T lT ta tb D lD
      refine ⟨c2, c3, _, .tail (Nat.ne_of_gt (lD _ (.tail _ (.head _)))) (.tail (Nat.ne_of_gt (lT _ (.head _))) (.head (uh _))), hul', ?_⟩
      (repeat' (first | with_reducible intro _ | ((with_reducible refine' e_callP ?kf_69 ?kv_69 ?kx_69 ?kb_69 ?ke_69 ?kp_69 fun _ => ?_); (case kf_69 => k_is); (case kv_69 => k_is); (case kx_69 => exact rfl); (case kb_69 => exact rfl); (case ke_69 => exact rfl); (case kp_69 => exact rfl); (with_unfolding_all change Cx.R _ _ _ _ _)) | ((with_reducible refine' t_cmpP ?_ ?km_69); (case km_69 => exact rfl); (first | (with_unfolding_all change Cx.R _ _ _ _ _) | (intro _; (with_unfolding_all change Cx.R _ _ _ _ _)) | (intro _; intro _; (with_unfolding_all change Cx.R _ _ _ _ _)))) | ((with_reducible refine' l_plain fun _ => ?_); (with_unfolding_all change Cx.R _ _ _ _ _)) | ((with_reducible refine' s_assign ?_ ?kx_69 ?ks_69); (case kx_69 => exact rfl); (case ks_69 => exact rfl); intro ka) | ((with_reducible refine s_go ?_); (try clear ka); intro _) | (with_reducible refine s_return ?_) | ((with_reducible refine s_if ?_); intro kc) | (with_reducible refine s_skip ?_) | ((with_reducible refine at_true ?_); (try clear kc)) | ((with_reducible refine at_false ?_); (try clear kc)) | (with_reducible refine e_int fun _ => ?_) | (with_reducible refine e_bin ?_) | (with_reducible refine v_add fun _ => ?_) | (with_reducible refine b_eq (fun _ => ?_) (fun _ => ?_)) | (with_reducible refine b_gt (fun _ => ?_) (fun _ => ?_)) | (with_reducible refine l_nil ?_) | ((with_reducible refine' e_local ?kv_69 ?_); (case kv_69 => exact rfl)) | ((with_reducible refine' t_cmp ?_ ?km_69); (case km_69 => exact rfl)) | ((with_reducible refine' l_cons ?_ ?ke_69); (case ke_69 => exact rfl)) | (with_reducible refine e_sub ?_) | (with_reducible refine e_neg fun _ => ?_) | (with_reducible refine ⟨_, _, rfl, ?_⟩) | ((with_reducible refine' r_k ?kc_69 ?kr_69 ?_); (case kc_69 => first | (refine' k_number _ _ _ _ _ _ _ _ _ _ _ _ ?x0_69 ?xU_69 ?xc_69 ?xK_69 ?xD_69; (case xK_69 => assumption); (case xD_69 => assumption); (case xU_69 => k_updF); (case xc_69 => k_mem); (case x0_69 => first | decide | omega))); (case kr_69 => decide)) | ((with_reducible refine' s_pair ?_ ?k1_69 ?k2_69 ?ks_69 ?kw_69); (case k1_69 => exact rfl); (case k2_69 => exact rfl); (case ks_69 => exact rfl); (case kw_69 => exact rfl)) | ((with_reducible refine' s_append ?kv_69 ?km_69 ?_ ?ks_69 ?kc_69 ?kh_69); (case kv_69 => exact rfl); (case km_69 => k_mem); (case ks_69 => exact rfl); (case kc_69 => exact rfl); (case kh_69 => exact rfl)) | ((with_reducible refine' v_tupI (cs := [0, 0, 2, 3, 0]) ?km_69 ?ki_69 ?k0_69 ?k1_69 ?k2_69 (fun _ => ?_) ?kd_69); (case kd_69 => with_unfolding_all rfl); (case km_69 => k_mem); (case ki_69 => exact .cons _ _ (.cons _ _ (.cons _ _ (.cons _ _ (.cons _ _ .nil))))); (case k0_69 => assumption); (case k1_69 => (show _ < (5 : Int); omega)); (case k2_69 => decide)) | ((with_reducible refine' v_tupItem ?km_69 ?k0_69 ?k1_69 ?kx_69 ?_ ?kd_69); (case kd_69 => with_unfolding_all rfl); (case km_69 => k_mem); (case k0_69 => decide); (case k1_69 => decide); (case kx_69 => exact rfl)) | ((with_reducible refine' v_rowLast ?km_69 ?kr_69 ?kk_69 (fun _ _ _ _ _ _ _ _ => ?_) ?kd_69); (case kd_69 => with_unfolding_all rfl); (case km_69 => k_mem); (case kr_69 => assumption); (case kk_69 => assumption)) | (with_reducible refine e_tuple ?_) | ((with_reducible refine' v_tuple ?kz_69 fun _ _ => ?_); (case kz_69 => exact Nat.le_of_ble_eq_true rfl)) | (with_reducible refine e_list ?_) | ((with_reducible refine' v_list ?kz_69 fun _ _ => ?_); (case kz_69 => exact Nat.le_of_ble_eq_true rfl)) | fail))
      exact s_nil (mv_turn sub_drop (lD _ (.tail _ (.head _))) (lD _ (.tail _ (.tail _ (.head _)))) (fun p hp => lD p (.tail _ (.tail _ (.tail _ hp)))) hoff9 (by assumption) p0 (menu_good ⟨by assumption, by assumption⟩ ⟨by assumption, by assumption⟩ (by assumption) (by assumption)) (fun z h1 h3 => fr z _ _ _ h1 h3))
  · rintro ⟨c1, c2, c3, c4, c5⟩ u9 p0
    obtain ⟨p1, p2, p3, p4, p5⟩ := id p0
    dsimp only at p1 p2 p3 p4 p5
    dsimp -zeta only [within, kstB]
    intro m9
    show C.S m9 ((lr, listOf c2.toArray c3) :: (d, c1) :: (c4 ++ rest)) _ _
    have m1 : ∀ p ∈ c4 ++ rest, p.1 ≠ d := List.forall_mem_append.mpr ⟨fun p hp => (p2 p hp).1, hne⟩
    have m2 : ∀ p ∈ c4 ++ rest, p.1 ≠ lr := List.forall_mem_append.mpr ⟨fun p hp => (p2 p hp).2, hnl⟩
    have hul : c2.length ≤ 100 := p3.1 ▸ p4 ▸ Nat.le_of_lt (Nat.lt_trans hk8 (by decide))
    have hul5 : 0 < c5.length := p4 ▸ (Int.lt_toNat.mpr (Int.lt_of_lt_of_le (by decide) (Int.add_le_add_left lo9 1)))
    have hul' : c2.length ≤ sizeLine := Nat.le_trans hul (by decide)
    (repeat' (first | with_reducible intro _ | ((with_reducible refine' e_callP ?kf_70 ?kv_70 ?kx_70 ?kb_70 ?ke_70 ?kp_70 fun _ => ?_); (case kf_70 => k_is); (case kv_70 => k_is); (case kx_70 => exact rfl); (case kb_70 => exact rfl); (case ke_70 => exact rfl); (case kp_70 => exact rfl); (with_unfolding_all change Cx.R _ _ _ _ _)) | ((with_reducible refine' t_cmpP ?_ ?km_70); (case km_70 => exact rfl); (first | (with_unfolding_all change Cx.R _ _ _ _ _) | (intro _; (with_unfolding_all change Cx.R _ _ _ _ _)) | (intro _; intro _; (with_unfolding_all change Cx.R _ _ _ _ _)))) | ((with_reducible refine' l_plain fun _ => ?_); (with_unfolding_all change Cx.R _ _ _ _ _)) | ((with_reducible refine' s_assign ?_ ?kx_70 ?ks_70); (case kx_70 => exact rfl); (case ks_70 => exact rfl); intro ka) | ((with_reducible refine s_go ?_); (try clear ka); intro _) | (with_reducible refine s_return ?_) | ((with_reducible refine s_if ?_); intro kc) | (with_reducible refine s_skip ?_) | ((with_reducible refine at_true ?_); (try clear kc)) | ((with_reducible refine at_false ?_); (try clear kc)) | (with_reducible refine e_int fun _ => ?_) | (with_reducible refine e_bin ?_) | (with_reducible refine v_add fun _ => ?_) | (with_reducible refine b_eq (fun _ => ?_) (fun _ => ?_)) | (with_reducible refine b_gt (fun _ => ?_) (fun _ => ?_)) | (with_reducible refine l_nil ?_) | ((with_reducible refine' e_local ?kv_70 ?_); (case kv_70 => exact rfl)) | ((with_reducible refine' t_cmp ?_ ?km_70); (case km_70 => exact rfl)) | ((with_reducible refine' l_cons ?_ ?ke_70); (case ke_70 => exact rfl)) | (with_reducible refine e_sub ?_) | (with_reducible refine e_neg fun _ => ?_) | (with_reducible refine ⟨_, _, rfl, ?_⟩) | ((with_reducible refine' r_k ?kc_70 ?kr_70 ?_); (case kc_70 => first | (refine' k_number _ _ _ _ _ _ _ _ _ _ _ _ ?x0_70 ?xU_70 ?xc_70 ?xK_70 ?xD_70; (case xK_70 => assumption); (case xD_70 => assumption); (case xU_70 => k_updF); (case xc_70 => k_mem); (case x0_70 => first | decide | omega))); (case kr_70 => decide)) | ((with_reducible refine' s_pair ?_ ?k1_70 ?k2_70 ?ks_70 ?kw_70); (case k1_70 => exact rfl); (case k2_70 => exact rfl); (case ks_70 => exact rfl); (case kw_70 => exact rfl)) | ((with_reducible refine' s_append ?kv_70 ?km_70 ?_ ?ks_70 ?kc_70 ?kh_70); (case kv_70 => exact rfl); (case km_70 => k_mem); (case ks_70 => exact rfl); (case kc_70 => exact rfl); (case kh_70 => exact rfl)) | ((with_reducible refine' v_tupI (cs := [0, 0, 2, 3, 0]) ?km_70 ?ki_70 ?k0_70 ?k1_70 ?k2_70 (fun _ => ?_) ?kd_70); (case kd_70 => with_unfolding_all rfl); (case km_70 => k_mem); (case ki_70 => exact .cons _ _ (.cons _ _ (.cons _ _ (.cons _ _ (.cons _ _ .nil))))); (case k0_70 => assumption); (case k1_70 => (show _ < (5 : Int); omega)); (case k2_70 => decide)) | ((with_reducible refine' v_tupItem ?km_70 ?k0_70 ?k1_70 ?kx_70 ?_ ?kd_70); (case kd_70 => with_unfolding_all rfl); (case km_70 => k_mem); (case k0_70 => decide); (case k1_70 => decide); (case kx_70 => exact rfl)) | ((with_reducible refine' v_rowLast ?km_70 ?kr_70 ?kk_70 (fun _ _ _ _ _ _ _ _ => ?_) ?kd_70); (case kd_70 => with_unfolding_all rfl); (case km_70 => k_mem); (case kr_70 => assumption); (case kk_70 => assumption)) | (with_reducible refine e_tuple ?_) | ((with_reducible refine' v_tuple ?kz_70 fun _ _ => ?_); (case kz_70 => exact Nat.le_of_ble_eq_true rfl)) | (with_reducible refine e_list ?_) | ((with_reducible refine' v_list ?kz_70 fun _ _ => ?_); (case kz_70 => exact Nat.le_of_ble_eq_true rfl)) | fail))
    · rename_i D lD
      refine ⟨c2, c3, _, .tail (Nat.ne_of_gt (lD _ (.head _))) (.head fun p hp => (List.mem_cons.mp hp).elim (fun e => e ▸ Nat.ne_of_lt l12) (m2 p)), hul', ?_⟩
      (repeat' (first | with_reducible intro _ | ((with_reducible refine' e_callP ?kf_71 ?kv_71 ?kx_71 ?kb_71 ?ke_71 ?kp_71 fun _ => ?_); (case kf_71 => k_is); (case kv_71 => k_is); (case kx_71 => exact rfl); (case kb_71 => exact rfl); (case ke_71 => exact rfl); (case kp_71 => exact rfl); (with_unfolding_all change Cx.R _ _ _ _ _)) | ((with_reducible refine' t_cmpP ?_ ?km_71); (case km_71 => exact rfl); (first | (with_unfolding_all change Cx.R _ _ _ _ _) | (intro _; (with_unfolding_all change Cx.R _ _ _ _ _)) | (intro _; intro _; (with_unfolding_all change Cx.R _ _ _ _ _)))) | ((with_reducible refine' l_plain fun _ => ?_); (with_unfolding_all change Cx.R _ _ _ _ _)) | ((with_reducible refine' s_assign ?_ ?kx_71 ?ks_71); (case kx_71 => exact rfl); (case ks_71 => exact rfl); intro ka) | ((with_reducible refine s_go ?_); (try clear ka); intro _) | (with_reducible refine s_return ?_) | ((with_reducible refine s_if ?_); intro kc) | (with_reducible refine s_skip ?_) | ((with_reducible refine at_true ?_); (try clear kc)) | ((with_reducible refine at_false ?_); (try clear kc)) | (with_reducible refine e_int fun _ => ?_) | (with_reducible refine e_bin ?_) | (with_reducible refine v_add fun _ => ?_) | (with_reducible refine b_eq (fun _ => ?_) (fun _ => ?_)) | (with_reducible refine b_gt (fun _ => ?_) (fun _ => ?_)) | (with_reducible refine l_nil ?_) | ((with_reducible refine' e_local ?kv_71 ?_); (case kv_71 => exact rfl)) | ((with_reducible refine' t_cmp ?_ ?km_71); (case km_71 => exact rfl)) | ((with_reducible refine' l_cons ?_ ?ke_71); (case ke_71 => exact rfl)) | (with_reducible refine e_sub ?_) | (with_reducible refine e_neg fun _ => ?_) | (with_reducible refine ⟨_, _, rfl, ?_⟩) | ((with_reducible refine' r_k ?kc_71 ?kr_71 ?_); (case kc_71 => first | (refine' k_number _ _ _ _ _ _ _ _ _ _ _ _ ?x0_71 ?xU_71 ?xc_71 ?xK_71 ?xD_71; (case xK_71 => assumption); (case xD_71 => assumption); (case xU_71 => k_updF); (case xc_71 => k_mem); (case x0_71 => first | decide | omega))); (case kr_71 => decide)) | ((with_reducible refine' s_pair ?_ ?k1_71 ?k2_71 ?ks_71 ?kw_71); (case k1_71 => exact rfl); (case k2_71 => exact rfl); (case ks_71 => exact rfl); (case kw_71 => exact rfl)) | ((with_reducible refine' s_append ?kv_71 ?km_71 ?_ ?ks_71 ?kc_71 ?kh_71); (case kv_71 => exact rfl); (case km_71 => k_mem); (case ks_71 => exact rfl); (case kc_71 => exact rfl); (case kh_71 => exact rfl)) | ((with_reducible refine' v_tupI (cs := [0, 0, 2, 3, 0]) ?km_71 ?ki_71 ?k0_71 ?k1_71 ?k2_71 (fun _ => ?_) ?kd_71); (case kd_71 => with_unfolding_all rfl); (case km_71 => k_mem); (case ki_71 => exact .cons _ _ (.cons _ _ (.cons _ _ (.cons _ _ (.cons _ _ .nil))))); (case k0_71 => assumption); (case k1_71 => (show _ < (5 : Int); omega)); (case k2_71 => decide)) | ((with_reducible refine' v_tupItem ?km_71 ?k0_71 ?k1_71 ?kx_71 ?_ ?kd_71); (case kd_71 => with_unfolding_all rfl); (case km_71 => k_mem); (case k0_71 => decide); (case k1_71 => decide); (case kx_71 => exact rfl)) | ((with_reducible refine' v_rowLast ?km_71 ?kr_71 ?kk_71 (fun _ _ _ _ _ _ _ _ => ?_) ?kd_71); (case kd_71 => with_unfolding_all rfl); (case km_71 => k_mem); (case kr_71 => assumption); (case kk_71 => assumption)) | (with_reducible refine e_tuple ?_) | ((with_reducible refine' v_tuple ?kz_71 fun _ _ => ?_); (case kz_71 => exact Nat.le_of_ble_eq_true rfl)) | (with_reducible refine e_list ?_) | ((with_reducible refine' v_list ?kz_71 fun _ _ => ?_); (case kz_71 => exact Nat.le_of_ble_eq_true rfl)) | fail))
      exact ret_of hQ (mv_res (fun p hp => hp) (lD _ (.tail _ (.head _))) (by assumption) p0 (by omega) hlr (castle_good (p5 _ (by assumption)) (p5 _ (by assumption))))
    · exact hQ _ _ _ _ ⟨lr, c2, c3, c5, c4, _, rfl, by assumption, fun p hp => (p2 p hp).1, p3, hul5, by omega, p5, hlr, rfl⟩ fun _ h => h
theorem k_moves (prog : Program) (w : World) (rest : Led) (d l : Addr) (o : Obj) (vs : List Value) (n : Nat) (cells : List Int) (many : Int) (tb : Tok) (hm : 0 < many ∧ many ≤ 64) (hc : (l, listOf vs.toArray n) ∈ rest) (hne : ∀ p ∈ rest, p.1 ≠ d) (K : DeckK d l vs cells) (D : DeckO prog w o l) :
    ConC prog w 179 3 ((d, o) :: rest) [.ref d, .int many tb] (fun kk => ∀ lr vs n rs extra o', DeckO prog w o' l → (∀ p ∈ extra, p.1 ≠ d) → RowsIn (extra ++ rest) vs rs → 0 < rs.length → rs.length < 10 → (∀ r ∈ rs, GoodRow many r) → lr ≠ d → kk (.ref lr) ((lr, listOf (List.toArray vs) n) :: (d, o') :: (extra ++ rest))) :=
  (c_moves prog w rest d l o vs n cells many tb hm hc hne K D).cps (by rintro k h v nw ⟨lr, vs, n, rs, extra, o', rfl, h1, h2, h3, h4, h5, h6, h7, rfl⟩; exact h lr vs n rs extra o' h1 h2 h3 h4 h5 h6 h7)
end
end part_M20
section part_M21
noncomputable abbrev signs : Str := Str.ofString "abcdefghi0123456789nbrqkNQ- x"
noncomputable def BentOk (prog : Program) (w : World) (l : Addr) (i : Nat) (c : Obj × Str × Tok) : Prop := DeckO prog w c.1 l ∧ (i = 0 → c.2.1.length ≤ 6) ∧ (i = 1 → c.2.1.length ≤ 13) ∧ (i = 2 → c.2.1.length ≤ 27)
theorem item_len1 (x : Str) (i : Int) : (Txt.item x i).length = 1 := rfl
theorem cat_si {c y : Str} {a b : Option Int} {i : Int} (h : c.length ≤ 13) : (Txt.slice c a b).length + (Txt.item y i).length ≤ sizeLine := Nat.le_trans (Nat.add_le_add (Nat.le_trans (Txt.slice_le _ _ _) h) (Nat.le_refl 1)) (by decide)
theorem cat_ss {c : Str} {a b a' b' : Option Int} (h : c.length ≤ 13) : (Txt.slice c a b).length + (Txt.slice c a' b').length ≤ sizeLine := Nat.le_trans (Nat.add_le_add (Nat.le_trans (Txt.slice_le _ _ _) h) (Nat.le_trans (Txt.slice_le _ _ _) h)) (by decide)
theorem cat_sis {c y : Str} {a b a' b' : Option Int} {i : Int} (h : c.length ≤ 13) : (Txt.slice c a b ++ Txt.item y i).length + (Txt.slice c a' b').length ≤ sizeLine := by
  rw [Str.length_append]
  exact Nat.le_trans (Nat.add_le_add (Nat.add_le_add (Nat.le_trans (Txt.slice_le _ _ _) h) (Nat.le_refl 1)) (Nat.le_trans (Txt.slice_le _ _ _) h)) (by decide)
theorem bent_len {c y : Str} {a b : Option Int} {i : Int} {a' b' : Option Int} : (Txt.slice c a b ++ Txt.item y i ++ Txt.slice c a' b').length ≤ 2 * c.length + 1 := by
  have q1 := Txt.slice_le c a b
  have q2 := Txt.slice_le c a' b'
  have q3 : (Txt.item y i).length = 1 := rfl
  rw [Str.length_append, Str.length_append, q3, Nat.two_mul, Nat.add_right_comm]; exact Nat.add_le_add_right (Nat.add_le_add q1 q2) 1
theorem bent_len' {c : Str} {a b a' b' : Option Int} : (Txt.slice c a b ++ Txt.slice c a' b').length ≤ 2 * c.length + 1 := by
  have q1 := Txt.slice_le c a b
  have q2 := Txt.slice_le c a' b'
  rw [Str.length_append, Nat.two_mul]; exact Nat.le_succ_of_le (Nat.add_le_add q1 q2)
theorem bent_le {i c : Nat} (hi : i < 2) (p2 : i = 0 → c ≤ 6) (p3 : i = 1 → c ≤ 13) : c ≤ 13 :=
  (Nat.lt_or_ge i 1).elim (fun h => Nat.le_trans (p2 (Nat.lt_one_iff.mp h)) (by decide)) fun h => p3 (Nat.le_antisymm (Nat.le_of_lt_succ hi) h)
theorem bent_end {i c : Nat} (hi : i < 3) (p2 : i = 0 → c ≤ 6) (p3 : i = 1 → c ≤ 13) (p4 : i = 2 → c ≤ 27) : c < 100 :=
  (Nat.lt_or_ge i 2).elim (fun h => Nat.lt_of_le_of_lt (bent_le h p2 p3) (by decide)) fun h => Nat.lt_of_le_of_lt (p4 (Nat.le_antisymm (Nat.le_of_lt_succ hi) h)) (by decide)
theorem skip1 {x z : Str} {v w : Option Value} {m : Str → Option Value} (h : z ≠ x) (r : m z = w) : (if z = x then v else m z) = w := (if_neg h).trans r
theorem bent_turn {C : Cx sc room} {prog : Program} {w : World} {l d : Addr} {m' m₀ : Str → Option Value} {rest own : Led} {i : Nat} {c1 o' : Obj} {c2 y : Str} {c3 t : Tok} {x : Str} {stored : List Str} {Q : Flow → (Str → Option Value) → Led → Prop} {n' : Led}
    (hn : ∀ p ∈ (d, o') :: (rest ++ own), p ∈ n') (hoff : OwnOff own (((d, c1) :: rest).map (·.1))) (D9 : DeckO prog w o' l) (p : BentOk prog w l i (c1, c2, c3)) (hk : m' (Str.ofString "text") = some (.str y t)) (hy : y.length ≤ 2 * c2.length + 1)
    (hr : ∀ z, z ≠ x → z ≠ Str.ofString "text" → stored.contains z = false → m' z = m₀ z) :
    C.turn x (fun c : Obj × Str × Tok => (d, c.1) :: rest) (fun c => [(Str.ofString "text", .str c.2.1 c.2.2)]) stored m₀ (BentOk prog w l) own (i + 1) Q .next m' n' := by
  obtain ⟨p1, p2, p3, p4⟩ := p
  dsimp only at p1 p2 p3 p4
  refine ⟨(o', y, t), fun p hp => hn p ?_, fun p hp => hn p (.tail _ (List.mem_append_right _ hp)), hoff, ?_, fun z h1 h2 h3 => hr z h1 (h2 _ (List.mem_singleton.mpr rfl)) h3, ⟨D9, fun h => absurd h (Nat.succ_ne_zero i), fun h => Nat.le_trans hy (Nat.add_le_add_right (Nat.mul_le_mul_left 2 (p2 (Nat.succ.inj h))) 1), fun h => Nat.le_trans hy (Nat.add_le_add_right (Nat.mul_le_mul_left 2 (p3 (Nat.succ.inj h))) 1)⟩⟩
  · exact (List.mem_cons.mp hp).elim (fun e => e ▸ .head _) fun hp => .tail _ (List.mem_append_left _ hp)
  · intro p hp; cases List.mem_singleton.mp hp; exact hk
section
theorem c_bent (prog : Program) (w : World) (rest : Led) (d l : Addr) (o : Obj) (vs : List Value) (n : Nat) (cells : List Int) (x : Str) (tx : Tok) (hx : x.length ≤ 6) (hc : (l, listOf vs.toArray n) ∈ rest) (hne : ∀ p ∈ rest, p.1 ≠ d) (K : DeckK d l vs cells) (D : DeckO prog w o l) :
    Con prog w 198 3 ((d, o) :: rest) [.ref d, .str x tx] (fun v nw => ∃ o' y u, v = .str y u ∧ y.length < 100 ∧ DeckO prog w o' l ∧ nw = (d, o') :: rest) := by
  refine' ConX.never (runs_conX (P := False) ?ho ?hcd ?hbm ?hk4 (fun z => z.elim) ?run ?hbind ?hloc ?hco ?hgen ?hk ?hcell)
  (case ho => k_is)
  (case hcd => k_is)
  (case hbm => k_is)
  (case hk4 => k_is)
  (case hbind => exact fun _ => BindsTo.of_eq rfl)
  (case hloc => exact locs rfl)
  (case hco => exact rfl)
  (case hgen => exact rfl)
  (case hk => exact rfl)
  (case hcell => decide)
  rintro C Q rfl rfl hn0 hP hQ
  refine s_let ?_
  intro m0
  refine s_seq (forR1 (σ := Obj × Str × Tok) (fun c => [(Str.ofString "text", .str c.2.1 c.2.2)]) [Str.ofString "at", Str.ofString "sign", Str.ofString "way"] rfl ?kf ?kb rfl (fun _ => rfl) rfl ?_)
  (case kf => k_is)
  (case kb => boot_fast)
  (repeat' (first | with_reducible intro _ | ((with_reducible refine' e_callP ?kf_72 ?kv_72 ?kx_72 ?kb_72 ?ke_72 ?kp_72 fun _ => ?_); (case kf_72 => k_is); (case kv_72 => k_is); (case kx_72 => exact rfl); (case kb_72 => exact rfl); (case ke_72 => exact rfl); (case kp_72 => exact rfl); (with_unfolding_all change Cx.R _ _ _ _ _)) | ((with_reducible refine' t_cmpP ?_ ?km_72); (case km_72 => exact rfl); (first | (with_unfolding_all change Cx.R _ _ _ _ _) | (intro _; (with_unfolding_all change Cx.R _ _ _ _ _)) | (intro _; intro _; (with_unfolding_all change Cx.R _ _ _ _ _)))) | ((with_reducible refine e_binP ?_); (first | (with_unfolding_all change Cx.R _ _ _ _ _) | (intro _; (with_unfolding_all change Cx.R _ _ _ _ _)) | (intro _; intro _; (with_unfolding_all change Cx.R _ _ _ _ _)))) | ((with_reducible refine' l_plain fun _ => ?_); (with_unfolding_all change Cx.R _ _ _ _ _)) | ((with_reducible refine' s_assign ?_ ?kx_72 ?ks_72); (case kx_72 => exact rfl); (case ks_72 => exact rfl); intro ka) | ((with_reducible refine s_go ?_); (try clear ka); intro _) | (with_reducible refine s_return ?_) | ((with_reducible refine s_if ?_); intro kc) | (with_reducible refine s_skip ?_) | (with_reducible refine on_next ?_) | ((with_reducible refine at_true ?_); (try clear kc)) | ((with_reducible refine at_false ?_); (try clear kc)) | (with_reducible refine e_int fun _ => ?_) | (with_reducible refine e_str fun _ => ?_) | (with_reducible refine e_bin ?_) | (with_reducible refine v_add fun _ => ?_) | (with_reducible refine b_eq (fun _ => ?_) (fun _ => ?_)) | (with_reducible refine l_nil ?_) | ((with_reducible refine' e_local ?kv_72 ?_); (case kv_72 => exact rfl)) | ((with_reducible refine' e_call ?kf_72 ?kv_72 ?kx_72 ?kb_72 ?ke_72 ?kp_72 ?_); (case kf_72 => k_is); (case kv_72 => k_is); (case kx_72 => exact rfl); (case kb_72 => exact rfl); (case ke_72 => exact rfl); (case kp_72 => exact rfl); intro kb) | ((with_reducible refine' l_cons ?_ ?ke_72); (case ke_72 => exact rfl)) | ((with_reducible refine' e_to ?kv_72 ?kz_72 ?_); (case kv_72 => exact rfl); (case kz_72 => (rw [sizeLine_eq]; omega))) | ((with_reducible refine' e_from ?kv_72 ?kz_72 ?_); (case kv_72 => exact rfl); (case kz_72 => (rw [sizeLine_eq]; omega))) | (with_reducible refine e_sub ?_) | ((with_reducible refine' v_item ?k0_72 ?k1_72 ?k2_72 (fun _ => ?_) ?kd_72 ?ke_72); (case kd_72 => with_unfolding_all rfl); (case ke_72 => (intro _; with_unfolding_all rfl)); (case k0_72 => first | (with_reducible assumption) | decide | assumption); (case k1_72 => first | omega | exact Int.lt_of_lt_of_le (by with_reducible assumption) (by decide)); (case k2_72 => first | omega | decide)) | ((with_reducible refine' e_builtin1 ?kf_72 ?kx_72 ?kb_72 ?kv_72 ?kn_72 ?_ ?kh_72); (case kf_72 => k_is); (case kx_72 => exact rfl); (case kb_72 => exact rfl); (case kv_72 => boot_fast); (case kn_72 => decide); (case kh_72 => exact rfl)) | ((with_reducible refine' v_lenS ?kz_72 fun _ => ?_); (case kz_72 => omega)) | (with_reducible refine ⟨_, _, rfl, ?_⟩) | ((with_reducible refine' r_k ?kc_72 ?kr_72 ?_); (case kc_72 => first | (refine' k_number _ _ _ _ _ _ _ _ _ _ _ _ ?x0_72 ?xU_72 ?xc_72 ?xK_72 ?xD_72; (case xK_72 => assumption); (case xD_72 => assumption); (case xU_72 => k_updF); (case xc_72 => k_mem); (case x0_72 => first | decide | omega))); (case kr_72 => decide)) | ((with_reducible refine' s_pair ?_ ?k1_72 ?k2_72 ?ks_72 ?kw_72); (case k1_72 => exact rfl); (case k2_72 => exact rfl); (case ks_72 => exact rfl); (case kw_72 => exact rfl)) | ((with_reducible refine' v_cat ?kz_72 (fun _ => ?_)); (case kz_72 => first | (with_reducible exact cat_si (by assumption)) | (with_reducible exact cat_ss (by assumption)) | (with_reducible exact cat_sis (by assumption)))) | fail))
  rename_i k9 tk9 o9 lo9 hi9 D9
  refine ⟨k9.toNat, k9, _, fun c => (d, c.1) :: rest, BentOk _ _ l, (o9, x, tx), rfl, by omega, by omega, rfl, ?_, ⟨D9, fun _ => hx, fun h => by omega, fun h => by omega⟩, ?_, ?_⟩
  · intro p hp; cases List.mem_singleton.mp hp; rfl
  · rintro ⟨c1, c2, c3⟩ i ti u9 own hi9' hoff p0
    dsimp -zeta only [within, kstB]
    intro m9
    obtain ⟨p1, p2, p3, p4⟩ := id p0
    dsimp only at p1 p2 p3 p4
    have m1 : ∀ p ∈ rest ++ own, p.1 ≠ d := fun p hp => (List.mem_append.mp hp).elim (hne p) (hoff.ne (.head _) p)
    have hc2 : c2.length ≤ 13 := bent_le (Nat.lt_of_lt_of_le hi9' (Nat.le_of_lt_succ ((Int.toNat_lt lo9).mpr hi9))) p2 p3
    refine s_letQ ?_
    intro Q9
    (repeat' (first | with_reducible intro _ | ((with_reducible refine' e_callP ?kf_73 ?kv_73 ?kx_73 ?kb_73 ?ke_73 ?kp_73 fun _ => ?_); (case kf_73 => k_is); (case kv_73 => k_is); (case kx_73 => exact rfl); (case kb_73 => exact rfl); (case ke_73 => exact rfl); (case kp_73 => exact rfl); (with_unfolding_all change Cx.R _ _ _ _ _)) | ((with_reducible refine' t_cmpP ?_ ?km_73); (case km_73 => exact rfl); (first | (with_unfolding_all change Cx.R _ _ _ _ _) | (intro _; (with_unfolding_all change Cx.R _ _ _ _ _)) | (intro _; intro _; (with_unfolding_all change Cx.R _ _ _ _ _)))) | ((with_reducible refine e_binP ?_); (first | (with_unfolding_all change Cx.R _ _ _ _ _) | (intro _; (with_unfolding_all change Cx.R _ _ _ _ _)) | (intro _; intro _; (with_unfolding_all change Cx.R _ _ _ _ _)))) | ((with_reducible refine' l_plain fun _ => ?_); (with_unfolding_all change Cx.R _ _ _ _ _)) | ((with_reducible refine' s_assign ?_ ?kx_73 ?ks_73); (case kx_73 => exact rfl); (case ks_73 => exact rfl); intro ka) | ((with_reducible refine s_go ?_); (try clear ka); intro _) | (with_reducible refine s_return ?_) | ((with_reducible refine s_if ?_); intro kc) | (with_reducible refine s_skip ?_) | (with_reducible refine on_next ?_) | ((with_reducible refine at_true ?_); (try clear kc)) | ((with_reducible refine at_false ?_); (try clear kc)) | (with_reducible refine e_int fun _ => ?_) | (with_reducible refine e_str fun _ => ?_) | (with_reducible refine e_bin ?_) | (with_reducible refine v_add fun _ => ?_) | (with_reducible refine b_eq (fun _ => ?_) (fun _ => ?_)) | (with_reducible refine l_nil ?_) | ((with_reducible refine' e_local ?kv_73 ?_); (case kv_73 => exact rfl)) | ((with_reducible refine' e_call ?kf_73 ?kv_73 ?kx_73 ?kb_73 ?ke_73 ?kp_73 ?_); (case kf_73 => k_is); (case kv_73 => k_is); (case kx_73 => exact rfl); (case kb_73 => exact rfl); (case ke_73 => exact rfl); (case kp_73 => exact rfl); intro kb) | ((with_reducible refine' l_cons ?_ ?ke_73); (case ke_73 => exact rfl)) | ((with_reducible refine' e_to ?kv_73 ?kz_73 ?_); (case kv_73 => exact rfl); (case kz_73 => (rw [sizeLine_eq]; omega))) | ((with_reducible refine' e_from ?kv_73 ?kz_73 ?_); (case kv_73 => exact rfl); (case kz_73 => (rw [sizeLine_eq]; omega))) | (with_reducible refine e_sub ?_) | ((with_reducible refine' v_item ?k0_73 ?k1_73 ?k2_73 (fun _ => ?_) ?kd_73 ?ke_73); (case kd_73 => with_unfolding_all rfl); (case ke_73 => (intro _; with_unfolding_all rfl)); (case k0_73 => first | (with_reducible assumption) | decide | assumption); (case k1_73 => first | omega | exact Int.lt_of_lt_of_le (by with_reducible assumption) (by decide)); (case k2_73 => first | omega | decide)) | ((with_reducible refine' e_builtin1 ?kf_73 ?kx_73 ?kb_73 ?kv_73 ?kn_73 ?_ ?kh_73); (case kf_73 => k_is); (case kx_73 => exact rfl); (case kb_73 => exact rfl); (case kv_73 => boot_fast); (case kn_73 => decide); (case kh_73 => exact rfl)) | ((with_reducible refine' v_lenS ?kz_73 fun _ => ?_); (case kz_73 => omega)) | (with_reducible refine ⟨_, _, rfl, ?_⟩) | ((with_reducible refine' r_k ?kc_73 ?kr_73 ?_); (case kc_73 => first | (refine' k_number _ _ _ _ _ _ _ _ _ _ _ _ ?x0_73 ?xU_73 ?xc_73 ?xK_73 ?xD_73; (case xK_73 => assumption); (case xD_73 => assumption); (case xU_73 => k_updF); (case xc_73 => k_mem); (case x0_73 => first | decide | omega))); (case kr_73 => decide)) | ((with_reducible refine' s_pair ?_ ?k1_73 ?k2_73 ?ks_73 ?kw_73); (case k1_73 => exact rfl); (case k2_73 => exact rfl); (case ks_73 => exact rfl); (case kw_73 => exact rfl)) | ((with_reducible refine' v_cat ?kz_73 (fun _ => ?_)); (case kz_73 => first | (with_reducible exact cat_si (by assumption)) | (with_reducible exact cat_ss (by assumption)) | (with_reducible exact cat_sis (by assumption)))) | fail))
    all_goals (
      refine s_nil (bent_turn (fun p hp => hp) hoff (by assumption) p0 rfl ?_ ?_)
      · first | (with_reducible exact bent_len) | (with_reducible exact bent_len')
      · intro z h1 h2 h3
        have h4 : z ≠ Str.ofString "at" ∧ z ≠ Str.ofString "sign" ∧ z ≠ Str.ofString "way" := (by simpa using h3)
        refine skip1 h2 (skip1 h4.2.2 (skip1 h4.1 (skip1 h4.2.1 ?_)))
        show (if z = _ then _ else _) = _
        exact (if_neg h1).trans ((if_neg h2).trans (if_neg (fun h => by rw [h3] at h; cases h))))
  · rintro ⟨c1, c2, c3⟩ u9 ⟨p1, p2, p3, p4⟩
    dsimp -zeta only [within, kstB]
    intro m9
    dsimp only at p1 p2 p3 p4
    (repeat' (first | with_reducible intro _ | ((with_reducible refine' e_callP ?kf_74 ?kv_74 ?kx_74 ?kb_74 ?ke_74 ?kp_74 fun _ => ?_); (case kf_74 => k_is); (case kv_74 => k_is); (case kx_74 => exact rfl); (case kb_74 => exact rfl); (case ke_74 => exact rfl); (case kp_74 => exact rfl); (with_unfolding_all change Cx.R _ _ _ _ _)) | ((with_reducible refine' t_cmpP ?_ ?km_74); (case km_74 => exact rfl); (first | (with_unfolding_all change Cx.R _ _ _ _ _) | (intro _; (with_unfolding_all change Cx.R _ _ _ _ _)) | (intro _; intro _; (with_unfolding_all change Cx.R _ _ _ _ _)))) | ((with_reducible refine e_binP ?_); (first | (with_unfolding_all change Cx.R _ _ _ _ _) | (intro _; (with_unfolding_all change Cx.R _ _ _ _ _)) | (intro _; intro _; (with_unfolding_all change Cx.R _ _ _ _ _)))) | ((with_reducible refine' l_plain fun _ => ?_); (with_unfolding_all change Cx.R _ _ _ _ _)) | ((with_reducible refine' s_assign ?_ ?kx_74 ?ks_74); (case kx_74 => exact rfl); (case ks_74 => exact rfl); intro ka) | ((with_reducible refine s_go ?_); (try clear ka); intro _) | (with_reducible refine s_return ?_) | ((with_reducible refine s_if ?_); intro kc) | (with_reducible refine s_skip ?_) | (with_reducible refine on_next ?_) | ((with_reducible refine at_true ?_); (try clear kc)) | ((with_reducible refine at_false ?_); (try clear kc)) | (with_reducible refine e_int fun _ => ?_) | (with_reducible refine e_str fun _ => ?_) | (with_reducible refine e_bin ?_) | (with_reducible refine v_add fun _ => ?_) | (with_reducible refine b_eq (fun _ => ?_) (fun _ => ?_)) | (with_reducible refine l_nil ?_) | ((with_reducible refine' e_local ?kv_74 ?_); (case kv_74 => exact rfl)) | ((with_reducible refine' e_call ?kf_74 ?kv_74 ?kx_74 ?kb_74 ?ke_74 ?kp_74 ?_); (case kf_74 => k_is); (case kv_74 => k_is); (case kx_74 => exact rfl); (case kb_74 => exact rfl); (case ke_74 => exact rfl); (case kp_74 => exact rfl); intro kb) | ((with_reducible refine' l_cons ?_ ?ke_74); (case ke_74 => exact rfl)) | ((with_reducible refine' e_to ?kv_74 ?kz_74 ?_); (case kv_74 => exact rfl); (case kz_74 => (rw [sizeLine_eq]; omega))) | ((with_reducible refine' e_from ?kv_74 ?kz_74 ?_); (case kv_74 => exact rfl); (case kz_74 => (rw [sizeLine_eq]; omega))) | (with_reducible refine e_sub ?_) | ((with_reducible refine' v_item ?k0_74 ?k1_74 ?k2_74 (fun _ => ?_) ?kd_74 ?ke_74); (case kd_74 => with_unfolding_all rfl); (case ke_74 => (intro _; with_unfolding_all rfl)); (case k0_74 => first | (with_reducible assumption) | decide | assumption); (case k1_74 => first | omega | exact Int.lt_of_lt_of_le (by with_reducible assumption) (by decide)); (case k2_74 => first | omega | decide)) | ((with_reducible refine' e_builtin1 ?kf_74 ?kx_74 ?kb_74 ?kv_74 ?kn_74 ?_ ?kh_74); (case kf_74 => k_is); (case kx_74 => exact rfl); (case kb_74 => exact rfl); (case kv_74 => boot_fast); (case kn_74 => decide); (case kh_74 => exact rfl)) | ((with_reducible refine' v_lenS ?kz_74 fun _ => ?_); (case kz_74 => omega)) | (with_reducible refine ⟨_, _, rfl, ?_⟩) | ((with_reducible refine' r_k ?kc_74 ?kr_74 ?_); (case kc_74 => first | (refine' k_number _ _ _ _ _ _ _ _ _ _ _ _ ?x0_74 ?xU_74 ?xc_74 ?xK_74 ?xD_74; (case xK_74 => assumption); (case xD_74 => assumption); (case xU_74 => k_updF); (case xc_74 => k_mem); (case x0_74 => first | decide | omega))); (case kr_74 => decide)) | ((with_reducible refine' s_pair ?_ ?k1_74 ?k2_74 ?ks_74 ?kw_74); (case k1_74 => exact rfl); (case k2_74 => exact rfl); (case ks_74 => exact rfl); (case kw_74 => exact rfl)) | ((with_reducible refine' v_cat ?kz_74 (fun _ => ?_)); (case kz_74 => first | (with_reducible exact cat_si (by assumption)) | (with_reducible exact cat_ss (by assumption)) | (with_reducible exact cat_sis (by assumption)))) | fail))
    exact hQ _ _ _ _ ⟨_, _, _, rfl, bent_end ((Int.toNat_lt lo9).mpr hi9) p2 p3 p4, p1, rfl⟩ fun _ h => h
theorem k_bent (prog : Program) (w : World) (rest : Led) (d l : Addr) (o : Obj) (vs : List Value) (n : Nat) (cells : List Int) (x : Str) (tx : Tok) (hx : x.length ≤ 6) (hc : (l, listOf vs.toArray n) ∈ rest) (hne : ∀ p ∈ rest, p.1 ≠ d) (K : DeckK d l vs cells) (D : DeckO prog w o l) : ConC prog w 198 3 ((d, o) :: rest) [.ref d, .str x tx] (fun kk => ∀ o' y u, y.length < 100 → DeckO prog w o' l → kk (.str y u) ((d, o') :: rest)) := (c_bent prog w rest d l o vs n cells x tx hx hc hne K D).cps (by rintro k h v nw ⟨o', y, u, rfl, h1, h2, rfl⟩; exact h o' y u h1 h2)
end
end part_M21
section part_M22
theorem fr_back {g₀ g h' : Heap} {L : Addr} {m : Str → Option Value} (t : KtsTurn [] g₀ g) (F : Fr g L h' m) : Fr g₀ L h' m :=
  ⟨F.ns, fun b o e => F.keep b o (t.other b o e (fun h => nomatch h)), by rw [← t.size]; exact F.above⟩
theorem news_back {g₀ g h' : Heap} {L : Addr} {nw : Led} (t : KtsTurn [] g₀ g) (N : News g L h' nw) : News g₀ L h' nw := fun p hp => by
  refine ⟨(N p hp).1, (N p hp).2.1, ?_⟩
  cases q : g₀.get? p.1 with
  | none => rfl
  | some o =>
    have := (N p hp).2.2
    rw [t.other _ _ q (fun h => nomatch h)] at this
    cases this
theorem con_useS0 {prog : Program} {w : World} {f : Addr} {need : Nat} {news : Led} {vs : List Value} {R : Value → Led → Prop}
    {p : Program} {loose : List Str} {mean : ExcName → Option Value} {mg mb : Str → Option Value}
    {dp un : Nat} {gd : Option (List Code)} {cn : Str} {cs : Scope} {a : Addr} {ccd : Value} {cl : List (Str × Addr)} {A₀ : Around} {h₀ : Heap} {L : Addr} {m : Str → Option Value} {s : Shared} {Q E : Value → Shared → Prop}
    (C : ConS prog w f need news vs R) (B : Below A₀ h₀ [] h₀) (F : Fr h₀ L s.heap m) (X : (hd.heap_39 w.params).In h₀) (N : News h₀ L s.heap news) (T : Top p loose mean mg mb h₀) (hk : cs.kind = .function)
    (hd : dp + need < recursionLimit) (hu : un + 8 * need < cLine)
    (ret : ∀ v nw h' tk', Fr h₀ L h' m → News h₀ L h' nw → R v nw → Q v { s with heap := h', toks := tk' }) :
    wpAny (model prog w) (ktrTop dp un gd cn cs L a ccd cl []) (call (.ref f) vs) Q E s :=
  C _ _ _ _ _ _ _ _ _ _ _ _ _ _ _ _ _ _ _ _ _ _ _ B F X N T hk X T ktsDicts_nil KtsTurn.refl hd hu fun v nw g h' tk' T9 F9 N9 _ _ _ _ r9 => ret v nw h' tk' (fr_back T9 F9) (news_back T9 N9) r9
theorem ConX.sure {prog : Program} {w : World} {f : Addr} {need : Nat} {news : Led} {vs : List Value} {R : Value → Led → Prop} {P : Prop} (C : ConX prog w f need news vs R P) (k : ¬ P) : Con prog w f need news vs R :=
  fun _ _ _ _ _ _ _ _ _ _ _ _ _ _ _ _ _ _ _ _ _ _ B F X N T hk hdp hun hret => C _ _ _ _ _ _ _ _ _ _ _ _ _ _ _ _ _ _ _ _ _ _ B F X N T hk hdp hun hret fun h => absurd h k
theorem nn2 {f : Int} (h : 2 ≤ f ∧ f ≤ 8) : 0 ≤ f := Int.le_trans (by decide) h.1
theorem nn3 {r : Int} (h : 3 ≤ r ∧ r ≤ 8) : 0 ≤ r := Int.le_trans (by decide) h.1
theorem n8 {f : Int} (h : f ≤ 8) : f.toNat ≤ 8 := Int.toNat_le.mpr h
theorem t2 {f : Int} (h : 2 ≤ f ∧ f ≤ 8) : 2 ≤ f.toNat ∧ f.toNat ≤ 8 := ⟨(Int.le_toNat (nn2 h)).mpr h.1, n8 h.2⟩
theorem t3 {r : Int} (h : 3 ≤ r ∧ r ≤ 8) : 3 ≤ r.toNat ∧ r.toNat ≤ 8 := ⟨(Int.le_toNat (nn3 h)).mpr h.1, n8 h.2⟩
section
variable (prog : Program) (w : World) (news : Led)
theorem k_tablesI (f r : Int) (u1 u2 : Tok) (hf : 2 ≤ f ∧ f ≤ 8) (hr : 3 ≤ r ∧ r ≤ 8) :
    ConC prog w 165 3 news [.int f u1, .int r u2] (fun kk => ∀ ta la ga lo go, TabFull prog w la lo (tabOf (keyL f.toNat) (r.toNat * f.toNat)) → TabFull prog w ga go (tabOf (keyD f.toNat) (r.toNat * f.toNat)) → (∀ q ∈ news, @LT.lt Nat _ q.1 la ∧ @LT.lt Nat _ q.1 ga ∧ @LT.lt Nat _ q.1 ta) → kk (.ref ta) ((ta, tupOf [.ref la, .ref ga]) :: (la, lo) :: (ga, go) :: news)) := by
  have := c_tables prog w news f.toNat r.toNat u1 u2 (t2 hf) (t3 hr)
  rw [Int.toNat_of_nonneg (nn2 hf), Int.toNat_of_nonneg (nn3 hr)] at this
  exact this.cps (by rintro k h v nw ⟨ta, la, ga, lo, go, rfl, h1, h2, h3, rfl⟩; exact h ta la ga lo go h1 h2 h3)
theorem many_le {f r : Int} (hf : 2 ≤ f ∧ f ≤ 8) (hr : 3 ≤ r ∧ r ≤ 8) : f * r = ((r.toNat * f.toNat : Nat) : Int) ∧ 0 < f * r ∧ f * r ≤ 64 ∧ r.toNat * f.toNat ≤ 64 := by
  have h1 : r.toNat * f.toNat ≤ 8 * 8 := Nat.mul_le_mul (n8 hr.2) (n8 hf.2)
  have h2 : 0 < r.toNat * f.toNat := Nat.mul_pos (Nat.lt_of_lt_of_le (by decide) (t3 hr).1) (Nat.lt_of_lt_of_le (by decide) (t2 hf).1)
  have e : f * r = ((r.toNat * f.toNat : Nat) : Int) := by rw [Int.natCast_mul, Int.toNat_of_nonneg (nn2 hf), Int.toNat_of_nonneg (nn3 hr), Int.mul_comm]
  rw [e]
  exact ⟨rfl, Int.ofNat_lt.mpr h2, Int.ofNat_le.mpr h1, h1⟩
theorem c_rightL (f r : Int) (x : Str) (na ra ta la ga : Addr) (lo go : Obj) (nn rn : Nat) (nvs rvs : List Value) (rs : List MvRow) (t1 t2 t3 : Tok) (hf : 2 ≤ f ∧ f ≤ 8) (hr : 3 ≤ r ∧ r ≤ 8) (hx : x.length < 100)
    (hna : (na, listOf nvs.toArray nn) ∈ news) (hra : (ra, listOf rvs.toArray rn) ∈ news) (hta : (ta, tupOf [.ref la, .ref ga]) ∈ news) (hla : (la, lo) ∈ news) (hga : (ga, go) ∈ news)
    (hl : TabFull prog w la lo (tabOf (keyL f.toNat) (r.toNat * f.toNat))) (hg : TabFull prog w ga go (tabOf (keyD f.toNat) (r.toNat * f.toNat))) (hi : IntsAre nvs (rs.map pk)) (hrs : RowsIn news rvs rs) (hgood : ∀ r' ∈ rs, GoodRow (f * r) r') (hb : rs.length < 100) :
    ConS prog w 217 20 news [.int f t1, .int r t2, .ref na, .ref ra, .ref ta, .str x t3] (fun v nw => v = .bool true ∧ Sub news nw) := by
  obtain ⟨hm1, hm2, hm3, hm4⟩ := many_le hf hr
  have ef : ((f.toNat : Nat) : Int) = f := Int.toNat_of_nonneg (nn2 hf)
  have er : ((r.toNat : Nat) : Int) = r := Int.toNat_of_nonneg (nn3 hr)
  have hf8 : f.toNat ≤ 8 := n8 hf.2
  have hr8 : r.toNat ≤ 8 := n8 hr.2
  have e1 := eqC hf8 hr8 x
  have e2 := eqF hf8 hr8 hm3 x hgood
  have e3 := eqI hf8 hr8 x
  have e4 := eqP hf8 hr8 hm3 x hgood
  rw [ef, er] at e1 e2 e3 e4
  exact c_right prog w news news f r x na ra ta la ga lo go _ _ nn rn nvs rvs (rs.map pk) rs t1 t2 t3 hf hr hx hna hra hta hla hga hl.tab hg.tab hi hrs Sub.refl (List.length_map _) hb e1 e2 e3 e4
theorem c_rightN (f r : Int) (x : Str) (na ra ta la ga : Addr) (lo go : Obj) (nn rn : Nat) (nvs rvs : List Value) (rs : List MvRow) (t1 t2 t3 : Tok) (hf : 2 ≤ f ∧ f ≤ 8) (hr : 3 ≤ r ∧ r ≤ 8) (hx : x.length < 100)
    (hna : (na, listOf nvs.toArray nn) ∈ news) (hra : (ra, listOf rvs.toArray rn) ∈ news) (hta : (ta, tupOf [.ref la, .ref ga]) ∈ news) (hla : (la, lo) ∈ news) (hga : (ga, go) ∈ news)
    (hl : TabFull prog w la lo (tabOf (keyL f.toNat) (r.toNat * f.toNat))) (hg : TabFull prog w ga go (tabOf (keyD f.toNat) (r.toNat * f.toNat))) (hi : IntsAre nvs (rs.map pk)) (hrs : RowsIn news rvs rs) (hgood : ∀ r' ∈ rs, GoodRow (f * r) r') (hb : rs.length < 100) :
    ConS prog w 217 20 news [.int f t1, .int r t2, .ref na, .ref ra, .ref ta, .str x t3] (fun v nw => v = .bool true ∧ nw = news) :=
  fun _ _ _ _ _ _ _ _ _ _ _ _ _ _ _ _ _ _ _ _ _ _ _ B F X N T hk XB TB D T0 hdp hun hret => c_rightL prog w news f r x na ra ta la ga lo go nn rn nvs rvs rs t1 t2 t3 hf hr hx hna hra hta hla hga hl hg hi hrs hgood hb _ _ _ _ _ _ _ _ _ _ _ _ _ _ _ _ _ _ _ _ _ _ _ B F X N T hk XB TB D T0 hdp hun
    fun v nw g h' tk' a1 a2 a3 a4 a5 a6 a7 r => hret v news g h' tk' a1 a2 (fun p hp => a3 p (r.2 p hp)) a4 a5 a6 a7 ⟨r.1, rfl⟩
theorem k_toldL (f r : Int) (ra la ga : Addr) (lo go : Obj) (row : MvRow) (t1 t2 t3 t4 : Tok) (hf : 2 ≤ f ∧ f ≤ 8) (hr : 3 ≤ r ∧ r ≤ 8) (hgood : GoodRow (f * r) row) (hra : (ra, tupOf [.int row.1 t1, .int row.2.1 t2, .int row.2.2.1 t3, .int row.2.2.2 t4]) ∈ news) (hla : (la, lo) ∈ news) (hga : (ga, go) ∈ news)
    (hl : TabFull prog w la lo (tabOf (keyL f.toNat) (r.toNat * f.toNat))) (hg : TabFull prog w ga go (tabOf (keyD f.toNat) (r.toNat * f.toNat))) :
    ConC prog w 191 14 news [.ref ra, .ref la, .ref ga] (fun kk => ∀ a u1 u2, (oneOf f.toNat row).length ≤ 6 → (otherOf f.toNat row).length ≤ 6 → kk (.ref a) ((a, tupOf [.str (oneOf f.toNat row) u1, .str (otherOf f.toNat row) u2]) :: news)) := by
  obtain ⟨hm1, hm2, hm3, hm4⟩ := many_le hf hr
  have hk : 0 ≤ row.2.2.2 ∧ row.2.2.2 ≤ 5 := hgood.2.2.2.2.elim (fun h => ⟨Int.le_trans (by decide) h.2.1, h.2.2⟩) fun h => by rw [h.2]; decide
  rw [hm1] at hgood
  obtain ⟨h1, h2, h3, h4, -⟩ := hgood
  refine (c_told prog w news f.toNat (r.toNat * f.toNat) ra la ga lo go row.1 row.2.1 row.2.2.1 row.2.2.2 t1 t2 t3 t4 hra hla hga hl hg hm4 h1 h2 h3 h4 hk.1 hk.2).cps ?_
  rintro k h v nw ⟨a, u1, u2, rfl, rfl⟩
  refine h a u1 u2 ?_ ?_
  · rw [Str.length_append, Str.length_append]; exact Nat.add_le_add (Nat.le_refl 4) (Nat.le_trans (endsL_len _) (by decide : 1 ≤ 2))
  · rw [Str.length_append, Str.length_append]; exact Nat.add_le_add (Nat.le_refl 4) (Nat.le_trans (endsD_len _) (by decide : 1 ≤ 2))
theorem k_readL (f r : Int) (row : MvRow) (t1 t2 t3 : Tok) (hf : 2 ≤ f ∧ f ≤ 8) (hr : 3 ≤ r ∧ r ≤ 8) (hgood : GoodRow (f * r) row) (hx : (oneOf f.toNat row).length ≤ 6) :
    ConC prog w 109 5 news [.int f t1, .int r t2, .str (oneOf f.toNat row) t3] (fun kk => ∀ a u1 u2 u3, kk (.ref a) ((a, tupOf [.int row.1 u1, .int row.2.1 u2, .int row.2.2.2 u3]) :: news)) := by
  obtain ⟨hm1, hm2, hm3, hm4⟩ := many_le hf hr
  rw [hm1] at hgood
  have ef : ((f.toNat : Nat) : Int) = f := Int.toNat_of_nonneg (nn2 hf)
  have er : ((r.toNat : Nat) : Int) = r := Int.toNat_of_nonneg (nn3 hr)
  have e := one_read (f := f.toNat) (r := r.toNat) (n8 hf.2) (n8 hr.2) hgood
  rw [ef, er] at e
  refine ((c_coords prog w news f r _ t1 t2 t3 hf hr (Nat.lt_of_le_of_lt hx (by decide))).sure (by rw [e]; exact fun h => nomatch h)).cps ?_
  rintro k h v nw ⟨a, u1, u2, u3, o, g, p, rfl, h2, h3, rfl⟩
  rw [e] at h2
  cases h2
  exact h a u1 u2 u3
theorem other_isI {f r : Int} (hf : 2 ≤ f ∧ f ≤ 8) (hr : 3 ≤ r ∧ r ≤ 8) {row : MvRow} (hgood : GoodRow (f * r) row) : iccfOf f (pk row) = otherOf f.toNat row := by
  obtain ⟨hm1, hm2, hm3, hm4⟩ := many_le hf hr
  rw [hm1] at hgood
  have ef : ((f.toNat : Nat) : Int) = f := Int.toNat_of_nonneg (nn2 hf)
  have := other_is (f := f.toNat) (r := r.toNat) (Nat.lt_of_lt_of_le (by decide) (t2 hf).1) (n8 hf.2) (n8 hr.2) hgood
  rwa [ef] at this
end
end part_M22
section part_M23
open LCg
noncomputable def Early : Prop := True
theorem earlyOk {P : Prop} (_ : Early) (h : P) : P := h
theorem compactA {h₀ h : Heap} {L Dl Dc dd cc : Addr} {oW oD oC : Obj} {ys : List Value} (N : News h₀ L h [(Dl, lst ys), (Dc, oW), (dd, oD), (cc, oC)]) : News h₀ L h [(dd, oD), (cc, oC), (Dl, listOf ys.toArray ys.length)] := fun p hp => N p (by
  rcases List.mem_cons.mp hp with rfl | hp
  · exact .tail _ (.tail _ (.head _))
  rcases List.mem_cons.mp hp with rfl | hp
  · exact .tail _ (.tail _ (.tail _ (.head _)))
  rw [List.mem_singleton.mp hp]
  exact .head _)
theorem r_join {prog : Program} {w : World} {A : Around} {E : Value → Shared → Prop} {s : Shared} {h₀ : Heap} {L l : Addr} {news : Led} {vs : List Value} {n : Nat} {ws : List Str} {t : Tok} {Q : Value → Shared → Prop}
    (N : News h₀ L s.heap news) (hm : (l, listOf vs.toArray n) ∈ news) (hi : StrsAre vs ws) (h1 : ∀ y ∈ ws, y.length = 1) (hn : ws.length ≤ 6) (h : ∀ y t' k, Str.length y ≤ 6 → Q (.str y t') { s with toks := k }) :
    wpAny (model prog w) A (call (.builtin "str.join") [.str (Str.ofString "") t, .ref l]) Q E s := by
  have hs : (ws.map (·.length)).sum = ws.length := by
    clear h hn hi
    induction ws with
    | nil => rfl
    | cons a r ih => rw [List.map_cons, List.sum_cons, ih fun y hy => h1 y (.tail _ hy), h1 a (.head _), List.length_cons, Nat.add_comm]
  have hj := StrLaws.join_length_le (Str.ofString "") ws
  have h0 : (Str.ofString "").length = 0 := by decide +kernel
  rw [hs, h0, Nat.mul_zero, Nat.add_zero] at hj
  refine join_listW (isL N hm) hi (by decide +kernel) (by rw [hs]; exact Nat.le_trans (Nat.add_le_add hn hn) (by decide)) fun t' k => h _ t' k ?_
  show (Txt.join _ _).length ≤ 6
  rw [eq_of_beq (join_closes (sep := Str.ofString "") rfl)]
  exact Nat.le_trans hj hn
theorem text3_len {y : Str} (h : y.length ≤ 6) (k : Nat) : (List.getD [Str.ofString "", Str.ofString "", y] k Str.empty).length ≤ 6 := by
  have h0 : (Str.ofString "").length = 0 := by decide +kernel
  rcases k with _ | _ | _ | k
  · show (Str.ofString "").length ≤ 6; omega
  · show (Str.ofString "").length ≤ 6; omega
  · exact h
  · show Str.empty.length ≤ 6; decide
theorem r_text3 {prog : Program} {w : World} {A : Around} {E : Value → Shared → Prop} {s : Shared} {h₀ : Heap} {L l : Addr} {news : Led} {n : Nat} {y : Str} {t1 t2 t3 u : Tok} {i : Int} {Q : Value → Shared → Prop} {value slice : PySem.Expr}
    (N : News h₀ L s.heap news) (hm : (l, listOf #[.str (Str.ofString "") t1, .str (Str.ofString "") t2, .str y t3] n) ∈ news) (h0 : 0 ≤ i) (h1 : i < 3) (hy : y.length ≤ 6) (h : ∀ z t', Str.length z ≤ 6 → Q (.str z t') s)
    (hs : subscripted slice false (.ref l) (.int i u) = operate [.ref l, .int i u] (getItem (.ref l) (.int i u)) := by with_unfolding_all rfl) :
    wpAny (model prog w) A (subscriptTail value slice (.ref l) (.int i u)) Q E s :=
  KTb.item_list (ws := [Str.ofString "", Str.ofString "", y]) (isL N hm) (.cons _ _ (.cons _ _ (.cons _ _ .nil))) h0 h1 (by omega) (fun t' _ => h _ t' (text3_len hy _)) hs
theorem r_text2 {prog : Program} {w : World} {A : Around} {E : Value → Shared → Prop} {s : Shared} {h₀ : Heap} {L l : Addr} {news : Led} {y1 y2 : Str} {t1 t2 u : Tok} {i : Int} {Q : Value → Shared → Prop} {value slice : PySem.Expr}
    (N : News h₀ L s.heap news) (hm : (l, tupOf [.str y1 t1, .str y2 t2]) ∈ news) (h0 : 0 ≤ i) (h1 : i < 2) (hy1 : y1.length ≤ 6) (hy2 : y2.length ≤ 6) (h : ∀ z t', Str.length z ≤ 6 → Q (.str z t') s)
    (hs : subscripted slice false (.ref l) (.int i u) = operate [.ref l, .int i u] (getItem (.ref l) (.int i u)) := by with_unfolding_all rfl) :
    wpAny (model prog w) A (subscriptTail value slice (.ref l) (.int i u)) Q E s := by
  have ht : IsTup s.heap l [Value.str y1 t1, .str y2 t2].toArray := ⟨_, (N _ hm).1, rfl, _, rfl⟩
  refine KTb.item_tup (ws := [y1, y2]) ht (.cons _ _ (.cons _ _ .nil)) h0 h1 (by omega) (fun t' hi => h _ t' ?_) hs
  obtain ⟨k, rfl⟩ := Int.eq_ofNat_of_zero_le h0
  rcases k with _ | _ | k
  · exact hy1
  · exact hy2
  · exact absurd (Int.ofNat_lt.mp h1) (Nat.not_lt.mpr (Nat.le_add_left 2 k))
theorem good_at {many : Int} {rs : List MvRow} (h : ∀ r ∈ rs, GoodRow many r) {k : Int} (h0 : 0 ≤ k) (h1 : k < rs.length) : GoodRow many (rowAt rs k) := by
  have hk : k.toNat < rs.length := (Int.toNat_lt h0).mpr h1
  have e : rowAt rs k = rs[k.toNat] := by rw [rowAt, List.getD_eq_getElem?_getD, List.getElem?_eq_getElem hk]; rfl
  rw [e]
  exact h _ (List.getElem_mem hk)
theorem r_ne3s {prog : Program} {w : World} {A : Around} {E : Value → Shared → Prop} {s : Shared} {h₀ : Heap} {L : Addr} {news : Led} {Q : Value → Shared → Prop} {a b : Addr} {x1 x2 x3 : Int} {t1 t2 t3 u1 u2 u3 : Tok} (N : News h₀ L s.heap news) (ha : (a, tupOf [.int x1 t1, .int x2 t2, .int x3 t3]) ∈ news) (hb : (b, tupOf [.int x1 u1, .int x2 u2, .int x3 u3]) ∈ news)
    (hu : A.units + 64 < cLine) (h : Q (.bool false) s) : wpAny (model prog w) A (compareOp .NotEq (.ref a) (.ref b)) Q E s :=
  r_ne3 N ha hb hu fun c hc => by
    have : c = false := by rw [← hc]; simp
    rw [this]; exact h
theorem pk_at {rs : List MvRow} {k : Int} (h0 : 0 ≤ k) (h1 : k < rs.length) : (rs.map pk).getD k.toNat 0 = pk (rowAt rs k) := by
  have hk : k.toNat < rs.length := (Int.toNat_lt h0).mpr h1
  rw [rowAt, List.getD_eq_getElem?_getD, List.getD_eq_getElem?_getD, List.getElem?_map, List.getElem?_eq_getElem hk]; rfl
theorem pack_args {many : Int} (hm : many ≤ 64) {r : MvRow} (h : GoodRow many r) : (0 ≤ r.1 ∧ r.1 < 64) ∧ (0 ≤ r.2.1 ∧ r.2.1 < 64) ∧ (0 ≤ r.2.2.1 ∧ r.2.2.1 < 4) ∧ (r.2.2.2 - 2).natAbs < 2 ^ 64 ∧ (r.2.2.1 = 1 → 2 ≤ r.2.2.2 ∧ r.2.2.2 < 6) := by
  obtain ⟨h1, h2, h3, h4, h5⟩ := h
  refine ⟨⟨h1, Int.lt_of_lt_of_le h2 hm⟩, ⟨h3, Int.lt_of_lt_of_le h4 hm⟩, ?_⟩
  rcases h5 with ⟨e, h6, h7⟩ | ⟨q, e⟩
  · exact ⟨by rw [e]; decide, abs_small ⟨Int.sub_nonneg_of_le h6, Int.lt_of_le_of_lt (Int.sub_le_self _ (by decide)) (Int.lt_of_le_of_lt h7 (by decide))⟩, fun _ => ⟨h6, Int.lt_of_le_of_lt h7 (by decide)⟩⟩
  · refine ⟨?_, by rw [e]; decide, fun e' => absurd (e' ▸ q) (by decide)⟩
    rcases q with q | q | q <;> rw [q] <;> decide
theorem ints_map {vs : List Value} {rs : List MvRow} {i : Nat} {r : MvRow} {t : Tok} (h : IntsAre vs ((rs.take i).map pk)) (e : rs[i]? = some r) : IntsAre (vs ++ [.int (pk r) t]) ((rs.take (i + 1)).map pk) := by
  rw [List.take_add_one, e, List.map_append]
  exact h.append (.cons _ _ .nil)
end part_M23
section part_R12

theorem off_R12 : True := by
  w_top off
  exact trivial
section
variable {sc : Scope} {room : Nat} {C : Cx sc room} {m : Str → Option Value} {n : Led} {K : Value → Led → Prop}
theorem r_conS0 {f : Addr} {vs : List Value} {need : Nat} {R : Value → Led → Prop} (c : ConS C.prog C.w f need n vs R) (hr : need ≤ room) (hO : C.outer = []) (hB : C.base = C.g) (k : ∀ v nw, R v nw → K v nw) : C.R m n (call (.ref f) vs) K := fun h tk F N => by
  have B := C.B
  rw [hO, hB] at B
  show wpAny _ (ktrTop C.dp C.un C.gd C.name sc C.L C.a C.cd C.cl C.outer) _ _ _ _
  rw [hO]
  exact con_useS0 c B F C.X N C.T C.hk (Nat.lt_of_le_of_lt (Nat.add_le_add_left hr _) C.hdp) (Nat.lt_of_le_of_lt (Nat.add_le_add_left (Nat.mul_le_mul_left _ hr) _) C.hun) fun v nw h' tk' F' N' r => ⟨h', tk', nw, rfl, F', N', k v nw r⟩
theorem e_bool {b : Bool} {k : Nat} {pos : Pos} (q : K (.bool b) n) : C.E m n (.Constant (.bool b) k pos) K := fun h tk F N => wpAny_Constant_bool ⟨h, tk, n, rfl, F, N, q⟩
theorem t_call {f : PySem.Expr} {es : List PySem.Expr} {pos : Pos} {K : Bool → Led → Prop} (q : C.E m n (.Call f es [] pos) fun v n1 => ∃ b, v = .bool b ∧ K b n1) : C.Tst m n (.Call f es [] pos) K := fun h tk F N =>
  isTrue_plain (q.to F N fun v h1 tk1 n1 q1 F1 N1 => by
    obtain ⟨b, rfl, q1⟩ := q1
    exact wpAny_truthy_bool ⟨h1, tk1, n1, rfl, F1, N1, q1⟩)
theorem v_text3 {value slice : PySem.Expr} {l : Addr} {k : Nat} {y : Str} {t1 t2 t3 u : Tok} {i : Int} (hm : (l, listOf #[.str (Str.ofString "") t1, .str (Str.ofString "") t2, .str y t3] k) ∈ n) (h0 : 0 ≤ i) (h1 : i < 3) (hy : y.length ≤ 6) (q : ∀ z t', Str.length z ≤ 6 → K (.str z t') n)
    (hs : subscripted slice false (.ref l) (.int i u) = operate [.ref l, .int i u] (getItem (.ref l) (.int i u)) := by with_unfolding_all rfl) : C.R m n (subscriptTail value slice (.ref l) (.int i u)) K := fun h tk F N =>
  r_text3 N hm h0 h1 hy (fun z t' hz => ⟨h, tk, n, rfl, F, N, q z t' hz⟩) hs
theorem v_text2 {value slice : PySem.Expr} {l : Addr} {y1 y2 : Str} {t1 t2 u : Tok} {i : Int} (hm : (l, tupOf [.str y1 t1, .str y2 t2]) ∈ n) (h0 : 0 ≤ i) (h1 : i < 2) (hy1 : y1.length ≤ 6) (hy2 : y2.length ≤ 6) (q : ∀ z t', Str.length z ≤ 6 → K (.str z t') n)
    (hs : subscripted slice false (.ref l) (.int i u) = operate [.ref l, .int i u] (getItem (.ref l) (.int i u)) := by with_unfolding_all rfl) : C.R m n (subscriptTail value slice (.ref l) (.int i u)) K := fun h tk F N =>
  r_text2 N hm h0 h1 hy1 hy2 (fun z t' hz => ⟨h, tk, n, rfl, F, N, q z t' hz⟩) hs
theorem v_join {l : Addr} {vs : List Value} {k : Nat} {ws : List Str} {t : Tok} (hm : (l, listOf vs.toArray k) ∈ n) (hi : StrsAre vs ws) (h1 : ∀ y ∈ ws, y.length = 1) (hn : ws.length ≤ 6) (q : ∀ y t', Str.length y ≤ 6 → K (.str y t') n) : C.R m n (call (.builtin "str.join") [.str (Str.ofString "") t, .ref l]) K := fun h tk F N =>
  r_join N hm hi h1 hn fun y t' k' hy => ⟨h, k', n, rfl, F, N, q y t' hy⟩
theorem b_same3 {K : Bool → Led → Prop} {a b : Addr} {x1 x2 x3 : Int} {t1 t2 t3 u1 u2 u3 : Tok} (ha : (a, tupOf [.int x1 t1, .int x2 t2, .int x3 t3]) ∈ n) (hb : (b, tupOf [.int x1 u1, .int x2 u2, .int x3 u3]) ∈ n) (hr : 10 ≤ room) (q : K false n) :
    C.R m n (compareOp .NotEq (.ref a) (.ref b)) fun c n3 => ∃ z, c = .bool z ∧ K z n3 := fun h tk F N => r_ne3s N ha hb (Nat.lt_of_le_of_lt (Nat.add_le_add_left (by omega) _) C.hun) ⟨h, tk, n, rfl, F, N, _, rfl, q⟩
theorem e_join {ap pos : Pos} {x : Str} {a : PySem.Expr} {pl : Sem Bool} {p1 : Pos} {kk : Nat} (q : C.E m n a fun av n2 => ∀ t, C.R m n2 (call (.builtin "str.join") [.str x t, av]) K)
    (hm : eval (.Call (.Attribute (.Constant (.str x) kk p1) (Str.ofString "join") ap) [a] [] pos) C.env = (do
      let ov ← eval (.Constant (.str x) kk p1) C.env
      standAt ap.atName
      let (f, first) ← holding [ov] (getMethod ov (Str.ofString "join") pl)
      callWith pos f first (backTo pos (starEach [a] C.env)) (backToKw pos (keywordEach [] C.env))) := by rfl)
    (he : starEach [a] C.env = (false, eval a C.env) :: starEach [] C.env := by rfl) : C.E m n (.Call (.Attribute (.Constant (.str x) kk p1) (Str.ofString "join") ap) [a] [] pos) K := fun h tk F N => by
  refine MethodCall_ (Calls.Constant_str ?_) hm
  walk1
  refine callWith_method1 (args_cons (q.to F N fun av h2 tk2 n2 q2 F2 N2 => ?_) he) he rfl
  refine args_nil ?_
  exact q2 _ h2 _ F2 N2
end
theorem law_in {prog : Program} {w : World} {p : Program} {loose : List Str} {mean : ExcName → Option Value} {mg mb : Str → Option Value} {dp un : Nat} {gd : Option (List Code)} {cn : Str} {sc : Scope} {a L : Addr} {cd : Value} {cl : List (Str × Addr)} {A₀ : Around} {h₀ : Heap} {m : Str → Option Value} {news : Led} {s : Shared} {E : Value → Shared → Prop} {Q : Flow → Shared → Prop} {st : List Stmt} {QQ : Flow → (Str → Option Value) → Led → Prop}
    (B : Below A₀ h₀ [] h₀) (F : Fr h₀ L s.heap m) (X : (hd.heap_39 w.params).In h₀) (N : News h₀ L s.heap news) (T : Top p loose mean mg mb h₀) (hk : sc.kind = .function) (hdp : dp + 21 < recursionLimit) (hun : un + 8 * 21 < cLine)
    (po : PassesOwn (model prog w) (ktrTop dp un gd cn sc L a cd cl []) (envX cn sc L a cd cl) E)
    (Fct : Program → World → Prop) (hF : Fct prog w) (q : ∀ C : Cx sc 21, Fct C.prog C.w → C.outer = [] → C.base = C.g → C.cl = cl → C.S m news st QQ) (k : ∀ f h tk m' n', QQ f m' n' → Fr h₀ L h m' → News h₀ L h n' → Q f { s with heap := h, toks := tk }) :
    wpAny (model prog w) (ktrTop dp un gd cn sc L a cd cl []) (execs st (envX cn sc L a cd cl)) Q E s := by
  let C : Cx sc 21 := {
    prog := prog, w := w, dp := dp, un := un, gd := gd, name := cn, L := L, a := a, cd := cd, cl := cl, outer := [], A₀ := A₀, base := h₀, g := h₀
    p := p, loose := loose, mean := mean, mg := mg, mb := mb, s₀ := s, EE := E, n₀ := [], P := False, hk := hk, hdp := hdp, hun := hun, B := B, X := X, T := T
    rai := fun x => x.elim, po := po, pas := fun x => x.elim }
  refine wpAny_mono (q C hF rfl rfl rfl s.heap s.toks F N) (fun f s' z => ?_) fun _ _ x => x
  obtain ⟨h, tk, m1, n1, rfl, F2, N2, z⟩ := z
  exact k f h tk m1 n1 z F2 N2
end part_R12
theorem off_law : True := by
  w_top off
  exact trivial
local macro_rules | `(tactic| walk_at "execs cons") => `(tactic| ((with_reducible show wpAny _ _ (execs (Stmt.Assign [Expr.Tuple _ _ _] _ _ :: _) _) _ _ _); refine earlyOk (by with_reducible assumption) ?_; k_dflt (refine stop ?_)))
open LCg
structure LawL (r : Led) (dd cc Dl ta la ga lr : Addr) (oC lo go : Obj) (ys rvs : List Value) (rn : Nat) (rs : List MvRow) : Prop where
  ne : ∀ p ∈ r, p.1 ≠ dd
  cc : (cc, oC) ∈ r
  dl : (Dl, listOf ys.toArray ys.length) ∈ r
  ta : (ta, tupOf [.ref la, .ref ga]) ∈ r
  la : (la, lo) ∈ r
  ga : (ga, go) ∈ r
  lr : (lr, listOf rvs.toArray rn) ∈ r
  rows : RowsIn r rvs rs
theorem mem_rot3 {a b c d p : Addr × Obj} {r : Led} (h : p ∈ d :: a :: b :: c :: r) : p ∈ a :: b :: c :: d :: r :=
  (List.mem_cons.mp h).elim (fun e => e ▸ .tail _ (.tail _ (.tail _ (.head _)))) fun h => (List.mem_cons.mp h).elim (fun e => e ▸ .head _) fun h => (List.mem_cons.mp h).elim (fun e => e ▸ .tail _ (.head _)) fun h => (List.mem_cons.mp h).elim (fun e => e ▸ .tail _ (.tail _ (.head _))) fun h => .tail _ (.tail _ (.tail _ (.tail _ h)))
theorem mem_rot1 {a d p : Addr × Obj} {r : Led} (h : p ∈ d :: a :: r) : p ∈ a :: d :: r :=
  (List.mem_cons.mp h).elim (fun e => e ▸ .tail _ (.head _)) fun h => (List.mem_cons.mp h).elim (fun e => e ▸ .head _) fun h => .tail _ (.tail _ h)
theorem mem_rot1' {a d p : Addr × Obj} {r : Led} (h : p ∈ d :: a :: r) : p ∈ a :: d :: r := mem_rot1 h
structure LawD (r : Led) (dd cc Dl : Addr) (oC : Obj) (ys : List Value) : Prop where
  ne : ∀ p ∈ r, p.1 ≠ dd
  cc : (cc, oC) ∈ r
  dl : (Dl, listOf ys.toArray ys.length) ∈ r
theorem s_gen {sc : Scope} {room : Nat} {C : Cx sc room} {m : Str → Option Value} {n : Led} {st : List Stmt} {Q : Flow → (Str → Option Value) → Led → Prop} {d : Addr} {o : Obj} (P : Led → Prop) (r : Led) (hs : ∀ p ∈ (d, o) :: r, p ∈ n) (hP : P r) (q : ∀ r, P r → C.S m ((d, o) :: r) st Q) : C.S m n st Q := s_weak _ hs (q _ hP)
section
theorem lawAll : PySem.Challenge.rw_pf0093_01.Holds := by
  refine hd ?_
  k_go0
  (all_goals try k_fold)
  have early : Early := trivial
  k_steps
  clear early
  unfold StopAt
  rename Shared => s₁
  rename Flow → Shared → Prop => qk
  rename_i dd hA oE lo hdE l1 Dc ws hB hI0 hC0 hL0 l2 hkl1 hkl2 gA hI8 hL8 Dl hC tkC o1 hD oD hdD hE oC F1 N1 dC
  replace N1 := compactA N1
  have D1 : DeckO _ _ oD Dl := ⟨0, _, Int.le_refl 0, hdD⟩
  have K1 : DeckK dd Dl ys _ := ⟨hI8, by rw [List.length_map, List.length_take]; omega, lo, o1.2.1.symm⟩
  clear hdD hI8 hL8 hkl1 hkl2 hL0 hC0 hI0
  refine' law_in (QQ := fun f _ _ => f = .ret (.bool true)) ?lawB ?lawF ?lawX ?lawN ?lawT ?lawhk ?lawhdp ?lawhun ?lawpo ?lawFct ?lawhF ?lawq ?lawk
  case lawB => assumption
  case lawF => exact F1
  case lawX => assumption
  case lawN => exact N1
  case lawT => assumption
  case lawhk => exact rfl
  case lawhdp => exact Nat.le_of_ble_eq_true rfl
  case lawhun => exact Nat.le_of_ble_eq_true rfl
  case lawpo => passes_own
  case lawFct => exact fun pr ww => DeckO pr ww oD Dl
  case lawhF => exact D1
  case lawk =>
    rintro _ h tk m9 n9 rfl F9 N9
    simp only [qk]
    k_steps
  case lawq =>
    rintro C D1 hO hB hcl
    refine s_let ?_
    intro m0
    refine (show ∀ r, LawD r dd (s₁.heap.objs.size + 1) Dl oC ys → C.S m0 ((dd, oD) :: r) _ _ from ?_) [(s₁.heap.objs.size + 1, oC), (Dl, listOf ys.toArray ys.length)] ⟨?ne, .head _, .tail _ (.head _)⟩
    case ne => exact List.forall_mem_cons.mpr ⟨Nat.ne_of_lt l1, List.forall_mem_cons.mpr ⟨K1.apart, fun _ h => nomatch h⟩⟩
    have cdk : C.cl.lookup (Str.ofString "deck") = some (s₁.heap.objs.size + 1) := by rw [hcl]; rfl
    replace hcl : C.cl = [(Str.ofString "deck", s₁.heap.objs.size + 1)] := hcl
    generalize s₁.heap.objs.size + 1 = cc at cdk hcl ⊢
    clear F1 N1
    rintro r ⟨hne, mcc, mDl⟩
    (repeat' (first | with_reducible intro _ | ((with_reducible refine' e_callP ?kf_75 ?kv_75 ?kx_75 ?kb_75 ?ke_75 ?kp_75 fun _ => ?_); (case kf_75 => k_is); (case kv_75 => k_is); (case kx_75 => exact rfl); (case kb_75 => exact rfl); (case ke_75 => exact rfl); (case kp_75 => exact rfl); (with_unfolding_all change Cx.R _ _ _ _ _)) | ((with_reducible refine' t_cmpP ?_ ?km_75); (case km_75 => exact rfl); (first | (with_unfolding_all change Cx.R _ _ _ _ _) | (intro _; (with_unfolding_all change Cx.R _ _ _ _ _)) | (intro _; intro _; (with_unfolding_all change Cx.R _ _ _ _ _)))) | ((with_reducible refine e_binP ?_); (first | (with_unfolding_all change Cx.R _ _ _ _ _) | (intro _; (with_unfolding_all change Cx.R _ _ _ _ _)) | (intro _; intro _; (with_unfolding_all change Cx.R _ _ _ _ _)))) | ((with_reducible refine e_subP ?_); (first | (with_unfolding_all change Cx.R _ _ _ _ _) | (intro _; (with_unfolding_all change Cx.R _ _ _ _ _)) | (intro _; intro _; (with_unfolding_all change Cx.R _ _ _ _ _)))) | ((with_reducible refine' l_plain fun _ => ?_); (with_unfolding_all change Cx.R _ _ _ _ _)) | ((with_reducible refine' s_assign ?_ ?kx_75 ?ks_75); (case kx_75 => exact rfl); (case ks_75 => exact rfl); intro ka) | ((with_reducible refine s_go ?_); (try clear ka); intro _) | (with_reducible refine s_return ?_) | ((with_reducible refine s_if ?_); intro kc) | (with_reducible refine s_skip ?_) | (with_reducible refine on_next ?_) | (with_reducible refine on_ret ?_) | ((with_reducible refine at_true ?_); (try clear kc)) | ((with_reducible refine at_false ?_); (try clear kc)) | ((with_reducible refine at_true' ?_); (try clear kc)) | ((with_reducible refine at_false' ?_); (try clear kc)) | (with_reducible refine e_int fun _ => ?_) | (with_reducible refine e_str fun _ => ?_) | (with_reducible refine e_bin ?_) | (with_reducible refine t_or ?_) | (with_reducible refine t_or_nil ?_) | (with_reducible refine t_not ?_) | (with_reducible refine v_add fun _ => ?_) | (with_reducible refine b_lt (fun _ => ?_) (fun _ => ?_)) | (with_reducible refine b_neS (fun _ => ?_) (fun _ => ?_)) | (with_reducible refine l_nil ?_) | ((with_reducible refine' e_local ?kv_75 ?_); (case kv_75 => exact rfl)) | ((with_reducible refine' e_call ?kf_75 ?kv_75 ?kx_75 ?kb_75 ?ke_75 ?kp_75 ?_); (case kf_75 => k_is); (case kv_75 => k_is); (case kx_75 => exact rfl); (case kb_75 => exact rfl); (case ke_75 => exact rfl); (case kp_75 => exact rfl); intro kb) | ((with_reducible refine' t_cmp ?_ ?km_75); (case km_75 => exact rfl)) | ((with_reducible refine' l_cons ?_ ?ke_75); (case ke_75 => exact rfl)) | ((with_reducible refine' e_from ?kv_75 ?kz_75 ?_); (case kv_75 => exact rfl); (case kz_75 => (rw [sizeLine_eq]; omega))) | (with_reducible refine e_sub ?_) | ((with_reducible refine' v_mul ?km_75 fun _ => ?_); (case km_75 => first | (with_reducible assumption) | (with_reducible exact mul8 (by with_reducible assumption)) | (with_reducible exact mul100 (by with_reducible assumption)) | mul_fits)) | ((with_reducible refine' v_item ?k0_75 ?k1_75 ?k2_75 (fun _ => ?_) ?kd_75 ?ke_75); (case kd_75 => with_unfolding_all rfl); (case ke_75 => (intro _; with_unfolding_all rfl)); (case k0_75 => first | (with_reducible assumption) | decide | assumption); (case k1_75 => first | omega | exact Int.lt_of_lt_of_le (by with_reducible assumption) (by decide)); (case k2_75 => first | omega | decide)) | ((with_reducible refine' e_builtin1 ?kf_75 ?kx_75 ?kb_75 ?kv_75 ?kn_75 ?_ ?kh_75); (case kf_75 => k_is); (case kx_75 => exact rfl); (case kb_75 => exact rfl); (case kv_75 => boot_fast); (case kn_75 => decide); (case kh_75 => exact rfl)) | (with_reducible refine ⟨_, _, rfl, ?_⟩) | ((with_reducible refine' r_k ?kc_75 ?kr_75 ?_); (case kc_75 => first | exact k_letter _ _ _ _ _ | (refine' k_iccf_of _ _ _ _ _ _ _ ?xa_75 ?xb_75; (case xa_75 => omega); (case xb_75 => omega)) | (refine' k_number _ _ _ _ _ _ _ _ _ _ _ _ ?x0_75 ?xU_75 ?xc_75 ?xK_75 ?xD_75; (case xK_75 => assumption); (case xD_75 => assumption); (case xU_75 => k_updF); (case xc_75 => k_mem); (case x0_75 => first | decide | omega))); (case kr_75 => decide)) | ((with_reducible refine' s_pair ?_ ?k1_75 ?k2_75 ?ks_75 ?kw_75); (case k1_75 => exact rfl); (case k2_75 => exact rfl); (case ks_75 => exact rfl); (case kw_75 => exact rfl)) | ((with_reducible refine' e_cell ?kx_75 ?kb_75 ?kc_75 ?km_75 ?kd_75 ?_); (case kx_75 => exact rfl); (case kb_75 => exact rfl); (case kc_75 => assumption); (case km_75 => k_mem); (case kd_75 => assumption)) | ((with_reducible refine' x_cell ?kc_75 ?km_75 ?kd_75 ?_ ?kk_75 ?kx_75 ?kb_75); (case kx_75 => exact rfl); (case kk_75 => exact rfl); (case kb_75 => exact rfl); (case kc_75 => exact rfl); (case km_75 => k_mem); (case kd_75 => assumption)) | ((with_reducible refine' x_own ?km_75 ?ko_75 ?kv_75 ?_ ?kk_75 ?kl_75 ?kb_75); (case kl_75 => exact rfl); (case kk_75 => exact rfl); (case kb_75 => exact rfl); (case ko_75 => assumption); (case kv_75 => assumption); (case km_75 => k_mem)) | ((with_reducible refine' x_call ?kf_75 ?kv_75 ?kx_75 ?kg_75 ?kk_75 ?kb_75 ?ke_75 ?kp_75 ?_); (case kf_75 => k_is); (case kv_75 => k_is); (case kx_75 => exact rfl); (case kg_75 => exact rfl); (case kk_75 => exact rfl); (case kb_75 => exact rfl); (case ke_75 => exact rfl); (case kp_75 => exact rfl)) | ((with_reducible refine' v_tupItem ?km_75 ?k0_75 ?k1_75 ?kx_75 ?_ ?kd_75); (case kd_75 => with_unfolding_all rfl); (case km_75 => k_mem); (case k0_75 => decide); (case k1_75 => decide); (case kx_75 => exact rfl)) | ((with_reducible refine' v_rowAt ?km_75 ?kr_75 ?k0_75 ?k1_75 ?kz_75 (fun _ _ _ _ _ _ => ?_) ?kd_75); (case kd_75 => with_unfolding_all rfl); (case km_75 => k_mem); (case kr_75 => assumption); (case k0_75 => assumption); (case k1_75 => first | assumption | omega); (case kz_75 => assumption)) | ((with_reducible refine' e_join ?_ ?km_75 ?ke_75); (case km_75 => exact rfl); (case ke_75 => exact rfl)) | ((with_reducible refine' v_lenL ?km_75 ?kz_75 (fun _ => ?_)); (case km_75 => k_mem); (case kz_75 => assumption)) | ((with_reducible refine' s_unpack2 ?_ ?k1_75 ?k2_75 ?ks_75 ?kw_75); (case k1_75 => exact rfl); (case k2_75 => exact rfl); (case ks_75 => exact rfl); (case kw_75 => exact rfl)) | ((with_reducible refine' v_itemI ?km_75 ?ki_75 ?k0_75 ?k1_75 ?k2_75 (fun _ => ?_) ?kd_75); (case kd_75 => with_unfolding_all rfl); (case km_75 => k_mem); (case ki_75 => assumption); (case k0_75 => assumption); (case k1_75 => assumption); (case k2_75 => assumption)) | ((with_reducible refine' b_same3 ?km_75 ?kn_75 ?kr_75 ?_); (case km_75 => k_mem); (case kn_75 => k_mem); (case kr_75 => decide)) | (with_reducible refine e_bool ?_) | (with_reducible refine t_call ?_) | (with_reducible refine ⟨_, rfl, ?_⟩) | (with_reducible refine e_tuple ?_) | ((with_reducible refine' v_tuple ?kz_75 fun _ _ => ?_); (case kz_75 => exact Nat.le_of_ble_eq_true rfl)) | (with_reducible refine e_list ?_) | ((with_reducible refine' v_list ?kz_75 fun _ _ => ?_); (case kz_75 => exact Nat.le_of_ble_eq_true rfl)) | fail))
    rename_i _ _ kf tf o2 lof hif D2 u1 _ _ kr tr o3 lor hir D3 u2 m1 m2 _
    have hff : 2 ≤ 2 + kf ∧ 2 + kf ≤ 8 := ⟨Int.le_add_of_nonneg_right lof, Int.add_le_add_left (show kf ≤ 6 from Int.le_of_lt_add_one hif) 2⟩
    have hrr : 3 ≤ 3 + kr ∧ 3 + kr ≤ 8 := ⟨Int.le_add_of_nonneg_right lor, Int.add_le_add_left (show kr ≤ 5 from Int.le_of_lt_add_one hir) 3⟩
    have hmany := many_le hff hrr
    have zm : IntMulOk (2 + kf) (3 + kr) := mul100 ⟨Int.le_trans (by decide) hrr.1, Int.lt_of_le_of_lt hrr.2 (by decide)⟩
    clear D2 lof hif lor hir
    refine r_k (k_tablesI C.prog C.w _ _ _ _ _ hff hrr) (by decide) ?_
    intro ta la ga lo go TL TG lt
    refine s_go ?_
    intro m3
    obtain ⟨l1, l2, l3⟩ := lt _ (.head _)
    refine s_weak ((dd, o3) :: (ta, tupOf [.ref la, .ref ga]) :: (la, lo) :: (ga, go) :: r) (fun p hp => mem_rot3 hp) ?_
    have hne3 : ∀ p ∈ (ta, tupOf [.ref la, .ref ga]) :: (la, lo) :: (ga, go) :: r, p.1 ≠ dd := List.forall_mem_cons.mpr ⟨Nat.ne_of_gt l3, List.forall_mem_cons.mpr ⟨Nat.ne_of_gt l1, List.forall_mem_cons.mpr ⟨Nat.ne_of_gt l2, hne⟩⟩⟩
    clear lt l1 l2 l3 hne
    (repeat' (first | with_reducible intro _ | ((with_reducible refine' e_callP ?kf_76 ?kv_76 ?kx_76 ?kb_76 ?ke_76 ?kp_76 fun _ => ?_); (case kf_76 => k_is); (case kv_76 => k_is); (case kx_76 => exact rfl); (case kb_76 => exact rfl); (case ke_76 => exact rfl); (case kp_76 => exact rfl); (with_unfolding_all change Cx.R _ _ _ _ _)) | ((with_reducible refine' t_cmpP ?_ ?km_76); (case km_76 => exact rfl); (first | (with_unfolding_all change Cx.R _ _ _ _ _) | (intro _; (with_unfolding_all change Cx.R _ _ _ _ _)) | (intro _; intro _; (with_unfolding_all change Cx.R _ _ _ _ _)))) | ((with_reducible refine e_binP ?_); (first | (with_unfolding_all change Cx.R _ _ _ _ _) | (intro _; (with_unfolding_all change Cx.R _ _ _ _ _)) | (intro _; intro _; (with_unfolding_all change Cx.R _ _ _ _ _)))) | ((with_reducible refine e_subP ?_); (first | (with_unfolding_all change Cx.R _ _ _ _ _) | (intro _; (with_unfolding_all change Cx.R _ _ _ _ _)) | (intro _; intro _; (with_unfolding_all change Cx.R _ _ _ _ _)))) | ((with_reducible refine' l_plain fun _ => ?_); (with_unfolding_all change Cx.R _ _ _ _ _)) | ((with_reducible refine' s_assign ?_ ?kx_76 ?ks_76); (case kx_76 => exact rfl); (case ks_76 => exact rfl); intro ka) | ((with_reducible refine s_go ?_); (try clear ka); intro _) | (with_reducible refine s_return ?_) | ((with_reducible refine s_if ?_); intro kc) | (with_reducible refine s_skip ?_) | (with_reducible refine on_next ?_) | (with_reducible refine on_ret ?_) | ((with_reducible refine at_true ?_); (try clear kc)) | ((with_reducible refine at_false ?_); (try clear kc)) | ((with_reducible refine at_true' ?_); (try clear kc)) | ((with_reducible refine at_false' ?_); (try clear kc)) | (with_reducible refine e_int fun _ => ?_) | (with_reducible refine e_str fun _ => ?_) | (with_reducible refine e_bin ?_) | (with_reducible refine t_or ?_) | (with_reducible refine t_or_nil ?_) | (with_reducible refine t_not ?_) | (with_reducible refine v_add fun _ => ?_) | (with_reducible refine b_lt (fun _ => ?_) (fun _ => ?_)) | (with_reducible refine b_neS (fun _ => ?_) (fun _ => ?_)) | (with_reducible refine l_nil ?_) | ((with_reducible refine' e_local ?kv_76 ?_); (case kv_76 => exact rfl)) | ((with_reducible refine' e_call ?kf_76 ?kv_76 ?kx_76 ?kb_76 ?ke_76 ?kp_76 ?_); (case kf_76 => k_is); (case kv_76 => k_is); (case kx_76 => exact rfl); (case kb_76 => exact rfl); (case ke_76 => exact rfl); (case kp_76 => exact rfl); intro kb) | ((with_reducible refine' t_cmp ?_ ?km_76); (case km_76 => exact rfl)) | ((with_reducible refine' l_cons ?_ ?ke_76); (case ke_76 => exact rfl)) | ((with_reducible refine' e_from ?kv_76 ?kz_76 ?_); (case kv_76 => exact rfl); (case kz_76 => (rw [sizeLine_eq]; omega))) | (with_reducible refine e_sub ?_) | ((with_reducible refine' v_mul ?km_76 fun _ => ?_); (case km_76 => first | (with_reducible assumption) | (with_reducible exact mul8 (by with_reducible assumption)) | (with_reducible exact mul100 (by with_reducible assumption)) | mul_fits)) | ((with_reducible refine' v_item ?k0_76 ?k1_76 ?k2_76 (fun _ => ?_) ?kd_76 ?ke_76); (case kd_76 => with_unfolding_all rfl); (case ke_76 => (intro _; with_unfolding_all rfl)); (case k0_76 => first | (with_reducible assumption) | decide | assumption); (case k1_76 => first | omega | exact Int.lt_of_lt_of_le (by with_reducible assumption) (by decide)); (case k2_76 => first | omega | decide)) | ((with_reducible refine' e_builtin1 ?kf_76 ?kx_76 ?kb_76 ?kv_76 ?kn_76 ?_ ?kh_76); (case kf_76 => k_is); (case kx_76 => exact rfl); (case kb_76 => exact rfl); (case kv_76 => boot_fast); (case kn_76 => decide); (case kh_76 => exact rfl)) | (with_reducible refine ⟨_, _, rfl, ?_⟩) | ((with_reducible refine' r_k ?kc_76 ?kr_76 ?_); (case kc_76 => first | exact k_letter _ _ _ _ _ | (refine' k_iccf_of _ _ _ _ _ _ _ ?xa_76 ?xb_76; (case xa_76 => omega); (case xb_76 => omega)) | (refine' k_number _ _ _ _ _ _ _ _ _ _ _ _ ?x0_76 ?xU_76 ?xc_76 ?xK_76 ?xD_76; (case xK_76 => assumption); (case xD_76 => assumption); (case xU_76 => k_updF); (case xc_76 => k_mem); (case x0_76 => first | decide | omega))); (case kr_76 => decide)) | ((with_reducible refine' s_pair ?_ ?k1_76 ?k2_76 ?ks_76 ?kw_76); (case k1_76 => exact rfl); (case k2_76 => exact rfl); (case ks_76 => exact rfl); (case kw_76 => exact rfl)) | ((with_reducible refine' e_cell ?kx_76 ?kb_76 ?kc_76 ?km_76 ?kd_76 ?_); (case kx_76 => exact rfl); (case kb_76 => exact rfl); (case kc_76 => assumption); (case km_76 => k_mem); (case kd_76 => assumption)) | ((with_reducible refine' x_cell ?kc_76 ?km_76 ?kd_76 ?_ ?kk_76 ?kx_76 ?kb_76); (case kx_76 => exact rfl); (case kk_76 => exact rfl); (case kb_76 => exact rfl); (case kc_76 => exact rfl); (case km_76 => k_mem); (case kd_76 => assumption)) | ((with_reducible refine' x_own ?km_76 ?ko_76 ?kv_76 ?_ ?kk_76 ?kl_76 ?kb_76); (case kl_76 => exact rfl); (case kk_76 => exact rfl); (case kb_76 => exact rfl); (case ko_76 => assumption); (case kv_76 => assumption); (case km_76 => k_mem)) | ((with_reducible refine' x_call ?kf_76 ?kv_76 ?kx_76 ?kg_76 ?kk_76 ?kb_76 ?ke_76 ?kp_76 ?_); (case kf_76 => k_is); (case kv_76 => k_is); (case kx_76 => exact rfl); (case kg_76 => exact rfl); (case kk_76 => exact rfl); (case kb_76 => exact rfl); (case ke_76 => exact rfl); (case kp_76 => exact rfl)) | ((with_reducible refine' v_tupItem ?km_76 ?k0_76 ?k1_76 ?kx_76 ?_ ?kd_76); (case kd_76 => with_unfolding_all rfl); (case km_76 => k_mem); (case k0_76 => decide); (case k1_76 => decide); (case kx_76 => exact rfl)) | ((with_reducible refine' v_rowAt ?km_76 ?kr_76 ?k0_76 ?k1_76 ?kz_76 (fun _ _ _ _ _ _ => ?_) ?kd_76); (case kd_76 => with_unfolding_all rfl); (case km_76 => k_mem); (case kr_76 => assumption); (case k0_76 => assumption); (case k1_76 => first | assumption | omega); (case kz_76 => assumption)) | ((with_reducible refine' e_join ?_ ?km_76 ?ke_76); (case km_76 => exact rfl); (case ke_76 => exact rfl)) | ((with_reducible refine' v_lenL ?km_76 ?kz_76 (fun _ => ?_)); (case km_76 => k_mem); (case kz_76 => assumption)) | ((with_reducible refine' s_unpack2 ?_ ?k1_76 ?k2_76 ?ks_76 ?kw_76); (case k1_76 => exact rfl); (case k2_76 => exact rfl); (case ks_76 => exact rfl); (case kw_76 => exact rfl)) | ((with_reducible refine' v_itemI ?km_76 ?ki_76 ?k0_76 ?k1_76 ?k2_76 (fun _ => ?_) ?kd_76); (case kd_76 => with_unfolding_all rfl); (case km_76 => k_mem); (case ki_76 => assumption); (case k0_76 => assumption); (case k1_76 => assumption); (case k2_76 => assumption)) | ((with_reducible refine' b_same3 ?km_76 ?kn_76 ?kr_76 ?_); (case km_76 => k_mem); (case kn_76 => k_mem); (case kr_76 => decide)) | (with_reducible refine e_bool ?_) | (with_reducible refine t_call ?_) | (with_reducible refine ⟨_, rfl, ?_⟩) | (with_reducible refine e_tuple ?_) | ((with_reducible refine' v_tuple ?kz_76 fun _ _ => ?_); (case kz_76 => exact Nat.le_of_ble_eq_true rfl)) | (with_reducible refine e_list ?_) | ((with_reducible refine' v_list ?kz_76 fun _ _ => ?_); (case kz_76 => exact Nat.le_of_ble_eq_true rfl)) | fail))
    refine r_k (k_moves C.prog C.w _ dd Dl o3 _ _ _ _ _ ⟨hmany.2.1, hmany.2.2.1⟩ (.tail _ (.tail _ (.tail _ mDl))) hne3 K1 D3) (by decide) ?_
    intro lr rvs rn rs extra o4 D4 hx hR hrs0 hrs1 hgood hlr
    refine s_go ?_
    intro m4
    refine s_gen (fun R => LawL R dd cc Dl ta la ga lr oC lo go ys rvs rn rs) ((lr, listOf rvs.toArray rn) :: (extra ++ ((ta, tupOf [.ref la, .ref ga]) :: (la, lo) :: (ga, go) :: r))) (fun p hp => mem_rot1 hp) ⟨List.forall_mem_cons.mpr ⟨hlr, List.forall_mem_append.mpr ⟨hx, hne3⟩⟩, .tail _ (List.mem_append_right _ (.tail _ (.tail _ (.tail _ mcc)))), .tail _ (List.mem_append_right _ (.tail _ (.tail _ (.tail _ mDl)))), .tail _ (List.mem_append_right _ (.head _)), .tail _ (List.mem_append_right _ (.tail _ (.head _))), .tail _ (List.mem_append_right _ (.tail _ (.tail _ (.head _)))), .head _, hR.mono fun p hp => .tail _ hp⟩ ?_
    clear hlr hx hR hne3 mcc mDl D3
    rintro R ⟨hne, mcc, mDl, mta, mla, mga, mlr, hrows⟩
    have hE : C.env = envX C.name _ C.L C.a C.cd C.cl := rfl
    rw [hcl] at hE
    refine' s_compL ?hsw ?hclos ?hcell ?hkind ?hnames ?hx ?hy ?hs (l := lr) (vs := rvs) (k := rn) (fun i ys nw => nw = (dd, o4) :: R ∧ IntsAre ys ((rs.take i).map pk)) ?_ ?_ ?_ ?_
    (case hsw => with_unfolding_all rfl)
    (case hclos => (rw [hE]; with_unfolding_all rfl))
    (case hcell => decide)
    (case hkind => exact rfl)
    (case hnames => decide)
    (case hx => exact rfl)
    (case hy => exact rfl)
    (case hs => exact fun _ => rfl)
    · exact e_local rfl ⟨rfl, .tail _ mlr, rfl, .nil⟩
    · exact Nat.le_of_lt (Nat.lt_of_lt_of_le (hrows.1 ▸ hrs1) (by decide))
    · rintro s i ys _ v I oI c oc D mm hi ⟨rfl, hys⟩ hv ho hx off
      have hi' : i < rs.length := hrows.1 ▸ hi
      obtain ⟨a9, t1, t2, t3, t4, hv8, hm9⟩ := hrows.2 i rs[i] (List.getElem?_eq_getElem hi')
      have hr8 : rs[i]? = some rs[i] := List.getElem?_eq_getElem hi'
      have hg9 := pack_args hmany.2.2.1 (hgood _ (List.getElem_mem hi'))
      generalize rs[i] = r9 at hv8 hm9 hr8 hg9
      obtain rfl : Value.ref a9 = v := Option.some.inj (hv8.symm.trans hv)
      (repeat' (first | with_reducible intro _ | ((with_reducible refine' e_callP ?kf_77 ?kv_77 ?kx_77 ?kb_77 ?ke_77 ?kp_77 fun _ => ?_); (case kf_77 => k_is); (case kv_77 => k_is); (case kx_77 => exact rfl); (case kb_77 => exact rfl); (case ke_77 => exact rfl); (case kp_77 => exact rfl); (with_unfolding_all change Cx.R _ _ _ _ _)) | ((with_reducible refine' t_cmpP ?_ ?km_77); (case km_77 => exact rfl); (first | (with_unfolding_all change Cx.R _ _ _ _ _) | (intro _; (with_unfolding_all change Cx.R _ _ _ _ _)) | (intro _; intro _; (with_unfolding_all change Cx.R _ _ _ _ _)))) | ((with_reducible refine e_binP ?_); (first | (with_unfolding_all change Cx.R _ _ _ _ _) | (intro _; (with_unfolding_all change Cx.R _ _ _ _ _)) | (intro _; intro _; (with_unfolding_all change Cx.R _ _ _ _ _)))) | ((with_reducible refine e_subP ?_); (first | (with_unfolding_all change Cx.R _ _ _ _ _) | (intro _; (with_unfolding_all change Cx.R _ _ _ _ _)) | (intro _; intro _; (with_unfolding_all change Cx.R _ _ _ _ _)))) | ((with_reducible refine' l_plain fun _ => ?_); (with_unfolding_all change Cx.R _ _ _ _ _)) | ((with_reducible refine' s_assign ?_ ?kx_77 ?ks_77); (case kx_77 => exact rfl); (case ks_77 => exact rfl); intro ka) | ((with_reducible refine s_go ?_); (try clear ka); intro _) | (with_reducible refine s_return ?_) | ((with_reducible refine s_if ?_); intro kc) | (with_reducible refine s_skip ?_) | (with_reducible refine on_next ?_) | (with_reducible refine on_ret ?_) | ((with_reducible refine at_true ?_); (try clear kc)) | ((with_reducible refine at_false ?_); (try clear kc)) | ((with_reducible refine at_true' ?_); (try clear kc)) | ((with_reducible refine at_false' ?_); (try clear kc)) | (with_reducible refine e_int fun _ => ?_) | (with_reducible refine e_str fun _ => ?_) | (with_reducible refine e_bin ?_) | (with_reducible refine t_or ?_) | (with_reducible refine t_or_nil ?_) | (with_reducible refine t_not ?_) | (with_reducible refine v_add fun _ => ?_) | (with_reducible refine b_lt (fun _ => ?_) (fun _ => ?_)) | (with_reducible refine b_neS (fun _ => ?_) (fun _ => ?_)) | (with_reducible refine l_nil ?_) | ((with_reducible refine' e_local ?kv_77 ?_); (case kv_77 => exact rfl)) | ((with_reducible refine' e_call ?kf_77 ?kv_77 ?kx_77 ?kb_77 ?ke_77 ?kp_77 ?_); (case kf_77 => k_is); (case kv_77 => k_is); (case kx_77 => exact rfl); (case kb_77 => exact rfl); (case ke_77 => exact rfl); (case kp_77 => exact rfl); intro kb) | ((with_reducible refine' t_cmp ?_ ?km_77); (case km_77 => exact rfl)) | ((with_reducible refine' l_cons ?_ ?ke_77); (case ke_77 => exact rfl)) | ((with_reducible refine' e_from ?kv_77 ?kz_77 ?_); (case kv_77 => exact rfl); (case kz_77 => (rw [sizeLine_eq]; omega))) | (with_reducible refine e_sub ?_) | ((with_reducible refine' v_mul ?km_77 fun _ => ?_); (case km_77 => first | (with_reducible assumption) | (with_reducible exact mul8 (by with_reducible assumption)) | (with_reducible exact mul100 (by with_reducible assumption)) | mul_fits)) | ((with_reducible refine' v_item ?k0_77 ?k1_77 ?k2_77 (fun _ => ?_) ?kd_77 ?ke_77); (case kd_77 => with_unfolding_all rfl); (case ke_77 => (intro _; with_unfolding_all rfl)); (case k0_77 => first | (with_reducible assumption) | decide | assumption); (case k1_77 => first | omega | exact Int.lt_of_lt_of_le (by with_reducible assumption) (by decide)); (case k2_77 => first | omega | decide)) | ((with_reducible refine' e_builtin1 ?kf_77 ?kx_77 ?kb_77 ?kv_77 ?kn_77 ?_ ?kh_77); (case kf_77 => k_is); (case kx_77 => exact rfl); (case kb_77 => exact rfl); (case kv_77 => boot_fast); (case kn_77 => decide); (case kh_77 => exact rfl)) | (with_reducible refine ⟨_, _, rfl, ?_⟩) | ((with_reducible refine' r_k ?kc_77 ?kr_77 ?_); (case kc_77 => first | exact k_letter _ _ _ _ _ | (refine' k_iccf_of _ _ _ _ _ _ _ ?xa_77 ?xb_77; (case xa_77 => omega); (case xb_77 => omega)) | (refine' k_number _ _ _ _ _ _ _ _ _ _ _ _ ?x0_77 ?xU_77 ?xc_77 ?xK_77 ?xD_77; (case xK_77 => assumption); (case xD_77 => assumption); (case xU_77 => k_updF); (case xc_77 => k_mem); (case x0_77 => first | decide | omega))); (case kr_77 => decide)) | ((with_reducible refine' s_pair ?_ ?k1_77 ?k2_77 ?ks_77 ?kw_77); (case k1_77 => exact rfl); (case k2_77 => exact rfl); (case ks_77 => exact rfl); (case kw_77 => exact rfl)) | ((with_reducible refine' e_cell ?kx_77 ?kb_77 ?kc_77 ?km_77 ?kd_77 ?_); (case kx_77 => exact rfl); (case kb_77 => exact rfl); (case kc_77 => assumption); (case km_77 => k_mem); (case kd_77 => assumption)) | ((with_reducible refine' x_cell ?kc_77 ?km_77 ?kd_77 ?_ ?kk_77 ?kx_77 ?kb_77); (case kx_77 => exact rfl); (case kk_77 => exact rfl); (case kb_77 => exact rfl); (case kc_77 => exact rfl); (case km_77 => k_mem); (case kd_77 => assumption)) | ((with_reducible refine' x_own ?km_77 ?ko_77 ?kv_77 ?_ ?kk_77 ?kl_77 ?kb_77); (case kl_77 => exact rfl); (case kk_77 => exact rfl); (case kb_77 => exact rfl); (case ko_77 => assumption); (case kv_77 => assumption); (case km_77 => k_mem)) | ((with_reducible refine' x_call ?kf_77 ?kv_77 ?kx_77 ?kg_77 ?kk_77 ?kb_77 ?ke_77 ?kp_77 ?_); (case kf_77 => k_is); (case kv_77 => k_is); (case kx_77 => exact rfl); (case kg_77 => exact rfl); (case kk_77 => exact rfl); (case kb_77 => exact rfl); (case ke_77 => exact rfl); (case kp_77 => exact rfl)) | ((with_reducible refine' v_tupItem ?km_77 ?k0_77 ?k1_77 ?kx_77 ?_ ?kd_77); (case kd_77 => with_unfolding_all rfl); (case km_77 => k_mem); (case k0_77 => decide); (case k1_77 => decide); (case kx_77 => exact rfl)) | ((with_reducible refine' v_rowAt ?km_77 ?kr_77 ?k0_77 ?k1_77 ?kz_77 (fun _ _ _ _ _ _ => ?_) ?kd_77); (case kd_77 => with_unfolding_all rfl); (case km_77 => k_mem); (case kr_77 => assumption); (case k0_77 => assumption); (case k1_77 => first | assumption | omega); (case kz_77 => assumption)) | ((with_reducible refine' e_join ?_ ?km_77 ?ke_77); (case km_77 => exact rfl); (case ke_77 => exact rfl)) | ((with_reducible refine' v_lenL ?km_77 ?kz_77 (fun _ => ?_)); (case km_77 => k_mem); (case kz_77 => assumption)) | ((with_reducible refine' s_unpack2 ?_ ?k1_77 ?k2_77 ?ks_77 ?kw_77); (case k1_77 => exact rfl); (case k2_77 => exact rfl); (case ks_77 => exact rfl); (case kw_77 => exact rfl)) | ((with_reducible refine' v_itemI ?km_77 ?ki_77 ?k0_77 ?k1_77 ?k2_77 (fun _ => ?_) ?kd_77); (case kd_77 => with_unfolding_all rfl); (case km_77 => k_mem); (case ki_77 => assumption); (case k0_77 => assumption); (case k1_77 => assumption); (case k2_77 => assumption)) | ((with_reducible refine' b_same3 ?km_77 ?kn_77 ?kr_77 ?_); (case km_77 => k_mem); (case kn_77 => k_mem); (case kr_77 => decide)) | (with_reducible refine e_bool ?_) | (with_reducible refine t_call ?_) | (with_reducible refine ⟨_, rfl, ?_⟩) | (with_reducible refine e_tuple ?_) | ((with_reducible refine' v_tuple ?kz_77 fun _ _ => ?_); (case kz_77 => exact Nat.le_of_ble_eq_true rfl)) | (with_reducible refine e_list ?_) | ((with_reducible refine' v_list ?kz_77 fun _ _ => ?_); (case kz_77 => exact Nat.le_of_ble_eq_true rfl)) | fail))
      refine r_k (k_pack _ _ _ _ _ _ _ _ _ _ _ hg9.1 hg9.2.1 hg9.2.2.1 hg9.2.2.2) (by decide) ?_
      intro u9
      exact ⟨_, fun p hp => hp, off, .tail _ mlr, rfl, ints_map hys hr8⟩
    rintro ys9 _ D ⟨rfl, hys9⟩ off
    rw [hrows.1, List.take_length] at hys9
    intro m5
    refine s_gen (fun R => LawL R dd cc Dl ta la ga lr oC lo go ys rvs rn rs ∧ (D, listOf ys9.toArray ys9.length) ∈ R) ((D, listOf ys9.toArray ys9.length) :: R) (fun p hp => mem_rot1' hp) ⟨⟨List.forall_mem_cons.mpr ⟨Ne.symm off.1, hne⟩, .tail _ mcc, .tail _ mDl, .tail _ mta, .tail _ mla, .tail _ mga, .tail _ mlr, hrows.mono fun p hp => .tail _ hp⟩, .head _⟩ ?_
    clear hne mcc mDl mta mla mga mlr hrows off
    rintro R ⟨⟨hne, mcc, mDl, mta, mla, mga, mlr, hrows⟩, mna⟩
    have hysl := hys9.length
    rw [List.length_map] at hysl
    have hz1 : rvs.length < 2 ^ 62 := hrows.1 ▸ Nat.lt_trans hrs1 (by decide)
    have hl0 : (0 : Int) < rvs.length := Int.ofNat_lt.mpr (hrows.1 ▸ hrs0)
    have hl1 : rvs.length = rs.length := hrows.1
    have hl2 : rs.length < 1000 := Nat.lt_trans hrs1 (by decide)
    (repeat' (first | with_reducible intro _ | ((with_reducible refine' e_callP ?kf_78 ?kv_78 ?kx_78 ?kb_78 ?ke_78 ?kp_78 fun _ => ?_); (case kf_78 => k_is); (case kv_78 => k_is); (case kx_78 => exact rfl); (case kb_78 => exact rfl); (case ke_78 => exact rfl); (case kp_78 => exact rfl); (with_unfolding_all change Cx.R _ _ _ _ _)) | ((with_reducible refine' t_cmpP ?_ ?km_78); (case km_78 => exact rfl); (first | (with_unfolding_all change Cx.R _ _ _ _ _) | (intro _; (with_unfolding_all change Cx.R _ _ _ _ _)) | (intro _; intro _; (with_unfolding_all change Cx.R _ _ _ _ _)))) | ((with_reducible refine e_binP ?_); (first | (with_unfolding_all change Cx.R _ _ _ _ _) | (intro _; (with_unfolding_all change Cx.R _ _ _ _ _)) | (intro _; intro _; (with_unfolding_all change Cx.R _ _ _ _ _)))) | ((with_reducible refine e_subP ?_); (first | (with_unfolding_all change Cx.R _ _ _ _ _) | (intro _; (with_unfolding_all change Cx.R _ _ _ _ _)) | (intro _; intro _; (with_unfolding_all change Cx.R _ _ _ _ _)))) | ((with_reducible refine' l_plain fun _ => ?_); (with_unfolding_all change Cx.R _ _ _ _ _)) | ((with_reducible refine' s_assign ?_ ?kx_78 ?ks_78); (case kx_78 => exact rfl); (case ks_78 => exact rfl); intro ka) | ((with_reducible refine s_go ?_); (try clear ka); intro _) | (with_reducible refine s_return ?_) | ((with_reducible refine s_if ?_); intro kc) | (with_reducible refine s_skip ?_) | (with_reducible refine on_next ?_) | (with_reducible refine on_ret ?_) | ((with_reducible refine at_true ?_); (try clear kc)) | ((with_reducible refine at_false ?_); (try clear kc)) | ((with_reducible refine at_true' ?_); (try clear kc)) | ((with_reducible refine at_false' ?_); (try clear kc)) | (with_reducible refine e_int fun _ => ?_) | (with_reducible refine e_str fun _ => ?_) | (with_reducible refine e_bin ?_) | (with_reducible refine t_or ?_) | (with_reducible refine t_or_nil ?_) | (with_reducible refine t_not ?_) | (with_reducible refine v_add fun _ => ?_) | (with_reducible refine b_lt (fun _ => ?_) (fun _ => ?_)) | (with_reducible refine b_neS (fun _ => ?_) (fun _ => ?_)) | (with_reducible refine l_nil ?_) | ((with_reducible refine' e_local ?kv_78 ?_); (case kv_78 => exact rfl)) | ((with_reducible refine' e_call ?kf_78 ?kv_78 ?kx_78 ?kb_78 ?ke_78 ?kp_78 ?_); (case kf_78 => k_is); (case kv_78 => k_is); (case kx_78 => exact rfl); (case kb_78 => exact rfl); (case ke_78 => exact rfl); (case kp_78 => exact rfl); intro kb) | ((with_reducible refine' t_cmp ?_ ?km_78); (case km_78 => exact rfl)) | ((with_reducible refine' l_cons ?_ ?ke_78); (case ke_78 => exact rfl)) | ((with_reducible refine' e_from ?kv_78 ?kz_78 ?_); (case kv_78 => exact rfl); (case kz_78 => (rw [sizeLine_eq]; omega))) | (with_reducible refine e_sub ?_) | ((with_reducible refine' v_mul ?km_78 fun _ => ?_); (case km_78 => first | (with_reducible assumption) | (with_reducible exact mul8 (by with_reducible assumption)) | (with_reducible exact mul100 (by with_reducible assumption)) | mul_fits)) | ((with_reducible refine' v_item ?k0_78 ?k1_78 ?k2_78 (fun _ => ?_) ?kd_78 ?ke_78); (case kd_78 => with_unfolding_all rfl); (case ke_78 => (intro _; with_unfolding_all rfl)); (case k0_78 => first | (with_reducible assumption) | decide | assumption); (case k1_78 => first | omega | exact Int.lt_of_lt_of_le (by with_reducible assumption) (by decide)); (case k2_78 => first | omega | decide)) | ((with_reducible refine' e_builtin1 ?kf_78 ?kx_78 ?kb_78 ?kv_78 ?kn_78 ?_ ?kh_78); (case kf_78 => k_is); (case kx_78 => exact rfl); (case kb_78 => exact rfl); (case kv_78 => boot_fast); (case kn_78 => decide); (case kh_78 => exact rfl)) | (with_reducible refine ⟨_, _, rfl, ?_⟩) | ((with_reducible refine' r_k ?kc_78 ?kr_78 ?_); (case kc_78 => first | exact k_letter _ _ _ _ _ | (refine' k_iccf_of _ _ _ _ _ _ _ ?xa_78 ?xb_78; (case xa_78 => omega); (case xb_78 => omega)) | (refine' k_number _ _ _ _ _ _ _ _ _ _ _ _ ?x0_78 ?xU_78 ?xc_78 ?xK_78 ?xD_78; (case xK_78 => assumption); (case xD_78 => assumption); (case xU_78 => k_updF); (case xc_78 => k_mem); (case x0_78 => first | decide | omega))); (case kr_78 => decide)) | ((with_reducible refine' s_pair ?_ ?k1_78 ?k2_78 ?ks_78 ?kw_78); (case k1_78 => exact rfl); (case k2_78 => exact rfl); (case ks_78 => exact rfl); (case kw_78 => exact rfl)) | ((with_reducible refine' e_cell ?kx_78 ?kb_78 ?kc_78 ?km_78 ?kd_78 ?_); (case kx_78 => exact rfl); (case kb_78 => exact rfl); (case kc_78 => assumption); (case km_78 => k_mem); (case kd_78 => assumption)) | ((with_reducible refine' x_cell ?kc_78 ?km_78 ?kd_78 ?_ ?kk_78 ?kx_78 ?kb_78); (case kx_78 => exact rfl); (case kk_78 => exact rfl); (case kb_78 => exact rfl); (case kc_78 => exact rfl); (case km_78 => k_mem); (case kd_78 => assumption)) | ((with_reducible refine' x_own ?km_78 ?ko_78 ?kv_78 ?_ ?kk_78 ?kl_78 ?kb_78); (case kl_78 => exact rfl); (case kk_78 => exact rfl); (case kb_78 => exact rfl); (case ko_78 => assumption); (case kv_78 => assumption); (case km_78 => k_mem)) | ((with_reducible refine' x_call ?kf_78 ?kv_78 ?kx_78 ?kg_78 ?kk_78 ?kb_78 ?ke_78 ?kp_78 ?_); (case kf_78 => k_is); (case kv_78 => k_is); (case kx_78 => exact rfl); (case kg_78 => exact rfl); (case kk_78 => exact rfl); (case kb_78 => exact rfl); (case ke_78 => exact rfl); (case kp_78 => exact rfl)) | ((with_reducible refine' v_tupItem ?km_78 ?k0_78 ?k1_78 ?kx_78 ?_ ?kd_78); (case kd_78 => with_unfolding_all rfl); (case km_78 => k_mem); (case k0_78 => decide); (case k1_78 => decide); (case kx_78 => exact rfl)) | ((with_reducible refine' v_rowAt ?km_78 ?kr_78 ?k0_78 ?k1_78 ?kz_78 (fun _ _ _ _ _ _ => ?_) ?kd_78); (case kd_78 => with_unfolding_all rfl); (case km_78 => k_mem); (case kr_78 => assumption); (case k0_78 => assumption); (case k1_78 => first | assumption | omega); (case kz_78 => assumption)) | ((with_reducible refine' e_join ?_ ?km_78 ?ke_78); (case km_78 => exact rfl); (case ke_78 => exact rfl)) | ((with_reducible refine' v_lenL ?km_78 ?kz_78 (fun _ => ?_)); (case km_78 => k_mem); (case kz_78 => assumption)) | ((with_reducible refine' s_unpack2 ?_ ?k1_78 ?k2_78 ?ks_78 ?kw_78); (case k1_78 => exact rfl); (case k2_78 => exact rfl); (case ks_78 => exact rfl); (case kw_78 => exact rfl)) | ((with_reducible refine' v_itemI ?km_78 ?ki_78 ?k0_78 ?k1_78 ?k2_78 (fun _ => ?_) ?kd_78); (case kd_78 => with_unfolding_all rfl); (case km_78 => k_mem); (case ki_78 => assumption); (case k0_78 => assumption); (case k1_78 => assumption); (case k2_78 => assumption)) | ((with_reducible refine' b_same3 ?km_78 ?kn_78 ?kr_78 ?_); (case km_78 => k_mem); (case kn_78 => k_mem); (case kr_78 => decide)) | (with_reducible refine e_bool ?_) | (with_reducible refine t_call ?_) | (with_reducible refine ⟨_, rfl, ?_⟩) | (with_reducible refine e_tuple ?_) | ((with_reducible refine' v_tuple ?kz_78 fun _ _ => ?_); (case kz_78 => exact Nat.le_of_ble_eq_true rfl)) | (with_reducible refine e_list ?_) | ((with_reducible refine' v_list ?kz_78 fun _ _ => ?_); (case kz_78 => exact Nat.le_of_ble_eq_true rfl)) | fail))
    rename_i _ _ ki ti _ lok hik _ ch c1 c2 c3 c4 hch _ wi tw o5 low hiw D5 m6 m7 _ _
    clear D4 o4
    refine' e_compR ?hclos ?hcell ?hkind ?hnames ?hx ?hf ?hb ?hr ?he ?hs ?_
    (case hclos => (rw [hE]; with_unfolding_all rfl))
    (case hcell => decide)
    (case hkind => exact rfl)
    (case hnames => decide)
    (case hx => exact rfl)
    (case hf => k_is)
    (case hb => boot_fast)
    (case hr => exact rfl)
    (case he => exact rfl)
    (case hs => exact fun _ => rfl)
    (repeat' (first | with_reducible intro _ | ((with_reducible refine' e_callP ?kf_79 ?kv_79 ?kx_79 ?kb_79 ?ke_79 ?kp_79 fun _ => ?_); (case kf_79 => k_is); (case kv_79 => k_is); (case kx_79 => exact rfl); (case kb_79 => exact rfl); (case ke_79 => exact rfl); (case kp_79 => exact rfl); (with_unfolding_all change Cx.R _ _ _ _ _)) | ((with_reducible refine' t_cmpP ?_ ?km_79); (case km_79 => exact rfl); (first | (with_unfolding_all change Cx.R _ _ _ _ _) | (intro _; (with_unfolding_all change Cx.R _ _ _ _ _)) | (intro _; intro _; (with_unfolding_all change Cx.R _ _ _ _ _)))) | ((with_reducible refine e_binP ?_); (first | (with_unfolding_all change Cx.R _ _ _ _ _) | (intro _; (with_unfolding_all change Cx.R _ _ _ _ _)) | (intro _; intro _; (with_unfolding_all change Cx.R _ _ _ _ _)))) | ((with_reducible refine e_subP ?_); (first | (with_unfolding_all change Cx.R _ _ _ _ _) | (intro _; (with_unfolding_all change Cx.R _ _ _ _ _)) | (intro _; intro _; (with_unfolding_all change Cx.R _ _ _ _ _)))) | ((with_reducible refine' l_plain fun _ => ?_); (with_unfolding_all change Cx.R _ _ _ _ _)) | ((with_reducible refine' s_assign ?_ ?kx_79 ?ks_79); (case kx_79 => exact rfl); (case ks_79 => exact rfl); intro ka) | ((with_reducible refine s_go ?_); (try clear ka); intro _) | (with_reducible refine s_return ?_) | ((with_reducible refine s_if ?_); intro kc) | (with_reducible refine s_skip ?_) | (with_reducible refine on_next ?_) | (with_reducible refine on_ret ?_) | ((with_reducible refine at_true ?_); (try clear kc)) | ((with_reducible refine at_false ?_); (try clear kc)) | ((with_reducible refine at_true' ?_); (try clear kc)) | ((with_reducible refine at_false' ?_); (try clear kc)) | (with_reducible refine e_int fun _ => ?_) | (with_reducible refine e_str fun _ => ?_) | (with_reducible refine e_bin ?_) | (with_reducible refine t_or ?_) | (with_reducible refine t_or_nil ?_) | (with_reducible refine t_not ?_) | (with_reducible refine v_add fun _ => ?_) | (with_reducible refine b_lt (fun _ => ?_) (fun _ => ?_)) | (with_reducible refine b_neS (fun _ => ?_) (fun _ => ?_)) | (with_reducible refine l_nil ?_) | ((with_reducible refine' e_local ?kv_79 ?_); (case kv_79 => exact rfl)) | ((with_reducible refine' e_call ?kf_79 ?kv_79 ?kx_79 ?kb_79 ?ke_79 ?kp_79 ?_); (case kf_79 => k_is); (case kv_79 => k_is); (case kx_79 => exact rfl); (case kb_79 => exact rfl); (case ke_79 => exact rfl); (case kp_79 => exact rfl); intro kb) | ((with_reducible refine' t_cmp ?_ ?km_79); (case km_79 => exact rfl)) | ((with_reducible refine' l_cons ?_ ?ke_79); (case ke_79 => exact rfl)) | ((with_reducible refine' e_from ?kv_79 ?kz_79 ?_); (case kv_79 => exact rfl); (case kz_79 => (rw [sizeLine_eq]; omega))) | (with_reducible refine e_sub ?_) | ((with_reducible refine' v_mul ?km_79 fun _ => ?_); (case km_79 => first | (with_reducible assumption) | (with_reducible exact mul8 (by with_reducible assumption)) | (with_reducible exact mul100 (by with_reducible assumption)) | mul_fits)) | ((with_reducible refine' v_item ?k0_79 ?k1_79 ?k2_79 (fun _ => ?_) ?kd_79 ?ke_79); (case kd_79 => with_unfolding_all rfl); (case ke_79 => (intro _; with_unfolding_all rfl)); (case k0_79 => first | (with_reducible assumption) | decide | assumption); (case k1_79 => first | omega | exact Int.lt_of_lt_of_le (by with_reducible assumption) (by decide)); (case k2_79 => first | omega | decide)) | ((with_reducible refine' e_builtin1 ?kf_79 ?kx_79 ?kb_79 ?kv_79 ?kn_79 ?_ ?kh_79); (case kf_79 => k_is); (case kx_79 => exact rfl); (case kb_79 => exact rfl); (case kv_79 => boot_fast); (case kn_79 => decide); (case kh_79 => exact rfl)) | (with_reducible refine ⟨_, _, rfl, ?_⟩) | ((with_reducible refine' r_k ?kc_79 ?kr_79 ?_); (case kc_79 => first | exact k_letter _ _ _ _ _ | (refine' k_iccf_of _ _ _ _ _ _ _ ?xa_79 ?xb_79; (case xa_79 => omega); (case xb_79 => omega)) | (refine' k_number _ _ _ _ _ _ _ _ _ _ _ _ ?x0_79 ?xU_79 ?xc_79 ?xK_79 ?xD_79; (case xK_79 => assumption); (case xD_79 => assumption); (case xU_79 => k_updF); (case xc_79 => k_mem); (case x0_79 => first | decide | omega))); (case kr_79 => decide)) | ((with_reducible refine' s_pair ?_ ?k1_79 ?k2_79 ?ks_79 ?kw_79); (case k1_79 => exact rfl); (case k2_79 => exact rfl); (case ks_79 => exact rfl); (case kw_79 => exact rfl)) | ((with_reducible refine' e_cell ?kx_79 ?kb_79 ?kc_79 ?km_79 ?kd_79 ?_); (case kx_79 => exact rfl); (case kb_79 => exact rfl); (case kc_79 => assumption); (case km_79 => k_mem); (case kd_79 => assumption)) | ((with_reducible refine' x_cell ?kc_79 ?km_79 ?kd_79 ?_ ?kk_79 ?kx_79 ?kb_79); (case kx_79 => exact rfl); (case kk_79 => exact rfl); (case kb_79 => exact rfl); (case kc_79 => exact rfl); (case km_79 => k_mem); (case kd_79 => assumption)) | ((with_reducible refine' x_own ?km_79 ?ko_79 ?kv_79 ?_ ?kk_79 ?kl_79 ?kb_79); (case kl_79 => exact rfl); (case kk_79 => exact rfl); (case kb_79 => exact rfl); (case ko_79 => assumption); (case kv_79 => assumption); (case km_79 => k_mem)) | ((with_reducible refine' x_call ?kf_79 ?kv_79 ?kx_79 ?kg_79 ?kk_79 ?kb_79 ?ke_79 ?kp_79 ?_); (case kf_79 => k_is); (case kv_79 => k_is); (case kx_79 => exact rfl); (case kg_79 => exact rfl); (case kk_79 => exact rfl); (case kb_79 => exact rfl); (case ke_79 => exact rfl); (case kp_79 => exact rfl)) | ((with_reducible refine' v_tupItem ?km_79 ?k0_79 ?k1_79 ?kx_79 ?_ ?kd_79); (case kd_79 => with_unfolding_all rfl); (case km_79 => k_mem); (case k0_79 => decide); (case k1_79 => decide); (case kx_79 => exact rfl)) | ((with_reducible refine' v_rowAt ?km_79 ?kr_79 ?k0_79 ?k1_79 ?kz_79 (fun _ _ _ _ _ _ => ?_) ?kd_79); (case kd_79 => with_unfolding_all rfl); (case km_79 => k_mem); (case kr_79 => assumption); (case k0_79 => assumption); (case k1_79 => first | assumption | omega); (case kz_79 => assumption)) | ((with_reducible refine' e_join ?_ ?km_79 ?ke_79); (case km_79 => exact rfl); (case ke_79 => exact rfl)) | ((with_reducible refine' v_lenL ?km_79 ?kz_79 (fun _ => ?_)); (case km_79 => k_mem); (case kz_79 => assumption)) | ((with_reducible refine' s_unpack2 ?_ ?k1_79 ?k2_79 ?ks_79 ?kw_79); (case k1_79 => exact rfl); (case k2_79 => exact rfl); (case ks_79 => exact rfl); (case kw_79 => exact rfl)) | ((with_reducible refine' v_itemI ?km_79 ?ki_79 ?k0_79 ?k1_79 ?k2_79 (fun _ => ?_) ?kd_79); (case kd_79 => with_unfolding_all rfl); (case km_79 => k_mem); (case ki_79 => assumption); (case k0_79 => assumption); (case k1_79 => assumption); (case k2_79 => assumption)) | ((with_reducible refine' b_same3 ?km_79 ?kn_79 ?kr_79 ?_); (case km_79 => k_mem); (case kn_79 => k_mem); (case kr_79 => decide)) | (with_reducible refine e_bool ?_) | (with_reducible refine t_call ?_) | (with_reducible refine ⟨_, rfl, ?_⟩) | (with_reducible refine e_tuple ?_) | ((with_reducible refine' v_tuple ?kz_79 fun _ _ => ?_); (case kz_79 => exact Nat.le_of_ble_eq_true rfl)) | (with_reducible refine e_list ?_) | ((with_reducible refine' v_list ?kz_79 fun _ _ => ?_); (case kz_79 => exact Nat.le_of_ble_eq_true rfl)) | fail))
    rename_i _ _ kt _ o6 lot hit D6 _
    have ht0 : 0 ≤ 3 + kt := Int.le_trans (by decide) (Int.add_le_add_left lot 3)
    have ht6 : (3 + kt).toNat ≤ 6 := Int.toNat_le.mpr (Int.add_le_add_left (show kt ≤ 3 from Int.le_of_lt_add_one hit) 3)
    refine ⟨(3 + kt).toNat, fun i ys nw => ∃ o', DeckO C.prog C.w o' Dl ∧ nw = (dd, o') :: R ∧ ∃ ws, StrsAre ys ws ∧ (∀ y ∈ ws, Str.length y = 1) ∧ ws.length = i, ⟨_, by rw [Int.toNat_of_nonneg ht0]⟩, Nat.lt_of_le_of_lt ht6 (by decide), ⟨_, D6, rfl, [], .nil, (fun _ h => nomatch h), rfl⟩, ?_, ?_⟩
    · rintro s i ys _ v I oI c oc D9 mm hi ⟨o', D', rfl, ws, hws, hw1, hwl⟩ ⟨t, rfl⟩ ho hx off
      have i1 : I ≠ dd := Ne.symm off.1.1
      have i2 : c ≠ dd := Ne.symm off.1.2.1
      have i3 : D9 ≠ dd := Ne.symm off.1.2.2
      clear D5 D6
      (repeat' (first | with_reducible intro _ | ((with_reducible refine' e_callP ?kf_80 ?kv_80 ?kx_80 ?kb_80 ?ke_80 ?kp_80 fun _ => ?_); (case kf_80 => k_is); (case kv_80 => k_is); (case kx_80 => exact rfl); (case kb_80 => exact rfl); (case ke_80 => exact rfl); (case kp_80 => exact rfl); (with_unfolding_all change Cx.R _ _ _ _ _)) | ((with_reducible refine' t_cmpP ?_ ?km_80); (case km_80 => exact rfl); (first | (with_unfolding_all change Cx.R _ _ _ _ _) | (intro _; (with_unfolding_all change Cx.R _ _ _ _ _)) | (intro _; intro _; (with_unfolding_all change Cx.R _ _ _ _ _)))) | ((with_reducible refine e_binP ?_); (first | (with_unfolding_all change Cx.R _ _ _ _ _) | (intro _; (with_unfolding_all change Cx.R _ _ _ _ _)) | (intro _; intro _; (with_unfolding_all change Cx.R _ _ _ _ _)))) | ((with_reducible refine e_subP ?_); (first | (with_unfolding_all change Cx.R _ _ _ _ _) | (intro _; (with_unfolding_all change Cx.R _ _ _ _ _)) | (intro _; intro _; (with_unfolding_all change Cx.R _ _ _ _ _)))) | ((with_reducible refine' l_plain fun _ => ?_); (with_unfolding_all change Cx.R _ _ _ _ _)) | ((with_reducible refine' s_assign ?_ ?kx_80 ?ks_80); (case kx_80 => exact rfl); (case ks_80 => exact rfl); intro ka) | ((with_reducible refine s_go ?_); (try clear ka); intro _) | (with_reducible refine s_return ?_) | ((with_reducible refine s_if ?_); intro kc) | (with_reducible refine s_skip ?_) | (with_reducible refine on_next ?_) | (with_reducible refine on_ret ?_) | ((with_reducible refine at_true ?_); (try clear kc)) | ((with_reducible refine at_false ?_); (try clear kc)) | ((with_reducible refine at_true' ?_); (try clear kc)) | ((with_reducible refine at_false' ?_); (try clear kc)) | (with_reducible refine e_int fun _ => ?_) | (with_reducible refine e_str fun _ => ?_) | (with_reducible refine e_bin ?_) | (with_reducible refine t_or ?_) | (with_reducible refine t_or_nil ?_) | (with_reducible refine t_not ?_) | (with_reducible refine v_add fun _ => ?_) | (with_reducible refine b_lt (fun _ => ?_) (fun _ => ?_)) | (with_reducible refine b_neS (fun _ => ?_) (fun _ => ?_)) | (with_reducible refine l_nil ?_) | ((with_reducible refine' e_local ?kv_80 ?_); (case kv_80 => exact rfl)) | ((with_reducible refine' e_call ?kf_80 ?kv_80 ?kx_80 ?kb_80 ?ke_80 ?kp_80 ?_); (case kf_80 => k_is); (case kv_80 => k_is); (case kx_80 => exact rfl); (case kb_80 => exact rfl); (case ke_80 => exact rfl); (case kp_80 => exact rfl); intro kb) | ((with_reducible refine' t_cmp ?_ ?km_80); (case km_80 => exact rfl)) | ((with_reducible refine' l_cons ?_ ?ke_80); (case ke_80 => exact rfl)) | ((with_reducible refine' e_from ?kv_80 ?kz_80 ?_); (case kv_80 => exact rfl); (case kz_80 => (rw [sizeLine_eq]; omega))) | (with_reducible refine e_sub ?_) | ((with_reducible refine' v_mul ?km_80 fun _ => ?_); (case km_80 => first | (with_reducible assumption) | (with_reducible exact mul8 (by with_reducible assumption)) | (with_reducible exact mul100 (by with_reducible assumption)) | mul_fits)) | ((with_reducible refine' v_item ?k0_80 ?k1_80 ?k2_80 (fun _ => ?_) ?kd_80 ?ke_80); (case kd_80 => with_unfolding_all rfl); (case ke_80 => (intro _; with_unfolding_all rfl)); (case k0_80 => first | (with_reducible assumption) | decide | assumption); (case k1_80 => first | omega | exact Int.lt_of_lt_of_le (by with_reducible assumption) (by decide)); (case k2_80 => first | omega | decide)) | ((with_reducible refine' e_builtin1 ?kf_80 ?kx_80 ?kb_80 ?kv_80 ?kn_80 ?_ ?kh_80); (case kf_80 => k_is); (case kx_80 => exact rfl); (case kb_80 => exact rfl); (case kv_80 => boot_fast); (case kn_80 => decide); (case kh_80 => exact rfl)) | (with_reducible refine ⟨_, _, rfl, ?_⟩) | ((with_reducible refine' r_k ?kc_80 ?kr_80 ?_); (case kc_80 => first | exact k_letter _ _ _ _ _ | (refine' k_iccf_of _ _ _ _ _ _ _ ?xa_80 ?xb_80; (case xa_80 => omega); (case xb_80 => omega)) | (refine' k_number _ _ _ _ _ _ _ _ _ _ _ _ ?x0_80 ?xU_80 ?xc_80 ?xK_80 ?xD_80; (case xK_80 => assumption); (case xD_80 => assumption); (case xU_80 => k_updF); (case xc_80 => k_mem); (case x0_80 => first | decide | omega))); (case kr_80 => decide)) | ((with_reducible refine' s_pair ?_ ?k1_80 ?k2_80 ?ks_80 ?kw_80); (case k1_80 => exact rfl); (case k2_80 => exact rfl); (case ks_80 => exact rfl); (case kw_80 => exact rfl)) | ((with_reducible refine' e_cell ?kx_80 ?kb_80 ?kc_80 ?km_80 ?kd_80 ?_); (case kx_80 => exact rfl); (case kb_80 => exact rfl); (case kc_80 => assumption); (case km_80 => k_mem); (case kd_80 => assumption)) | ((with_reducible refine' x_cell ?kc_80 ?km_80 ?kd_80 ?_ ?kk_80 ?kx_80 ?kb_80); (case kx_80 => exact rfl); (case kk_80 => exact rfl); (case kb_80 => exact rfl); (case kc_80 => exact rfl); (case km_80 => k_mem); (case kd_80 => assumption)) | ((with_reducible refine' x_own ?km_80 ?ko_80 ?kv_80 ?_ ?kk_80 ?kl_80 ?kb_80); (case kl_80 => exact rfl); (case kk_80 => exact rfl); (case kb_80 => exact rfl); (case ko_80 => assumption); (case kv_80 => assumption); (case km_80 => k_mem)) | ((with_reducible refine' x_call ?kf_80 ?kv_80 ?kx_80 ?kg_80 ?kk_80 ?kb_80 ?ke_80 ?kp_80 ?_); (case kf_80 => k_is); (case kv_80 => k_is); (case kx_80 => exact rfl); (case kg_80 => exact rfl); (case kk_80 => exact rfl); (case kb_80 => exact rfl); (case ke_80 => exact rfl); (case kp_80 => exact rfl)) | ((with_reducible refine' v_tupItem ?km_80 ?k0_80 ?k1_80 ?kx_80 ?_ ?kd_80); (case kd_80 => with_unfolding_all rfl); (case km_80 => k_mem); (case k0_80 => decide); (case k1_80 => decide); (case kx_80 => exact rfl)) | ((with_reducible refine' v_rowAt ?km_80 ?kr_80 ?k0_80 ?k1_80 ?kz_80 (fun _ _ _ _ _ _ => ?_) ?kd_80); (case kd_80 => with_unfolding_all rfl); (case km_80 => k_mem); (case kr_80 => assumption); (case k0_80 => assumption); (case k1_80 => first | assumption | omega); (case kz_80 => assumption)) | ((with_reducible refine' e_join ?_ ?km_80 ?ke_80); (case km_80 => exact rfl); (case ke_80 => exact rfl)) | ((with_reducible refine' v_lenL ?km_80 ?kz_80 (fun _ => ?_)); (case km_80 => k_mem); (case kz_80 => assumption)) | ((with_reducible refine' s_unpack2 ?_ ?k1_80 ?k2_80 ?ks_80 ?kw_80); (case k1_80 => exact rfl); (case k2_80 => exact rfl); (case ks_80 => exact rfl); (case kw_80 => exact rfl)) | ((with_reducible refine' v_itemI ?km_80 ?ki_80 ?k0_80 ?k1_80 ?k2_80 (fun _ => ?_) ?kd_80); (case kd_80 => with_unfolding_all rfl); (case km_80 => k_mem); (case ki_80 => assumption); (case k0_80 => assumption); (case k1_80 => assumption); (case k2_80 => assumption)) | ((with_reducible refine' b_same3 ?km_80 ?kn_80 ?kr_80 ?_); (case km_80 => k_mem); (case kn_80 => k_mem); (case kr_80 => decide)) | (with_reducible refine e_bool ?_) | (with_reducible refine t_call ?_) | (with_reducible refine ⟨_, rfl, ?_⟩) | (with_reducible refine e_tuple ?_) | ((with_reducible refine' v_tuple ?kz_80 fun _ _ => ?_); (case kz_80 => exact Nat.le_of_ble_eq_true rfl)) | (with_reducible refine e_list ?_) | ((with_reducible refine' v_list ?kz_80 fun _ _ => ?_); (case kz_80 => exact Nat.le_of_ble_eq_true rfl)) | fail))
      exact ⟨_, fun p hp => hp, off, trivial, _, by assumption, rfl, ws ++ [_], hws.append' (.cons _ _ .nil), fun y hy => (List.mem_append.mp hy).elim (hw1 y) fun hy => by rw [List.mem_singleton.mp hy]; rfl, by rw [List.length_append, hwl]; rfl⟩
    clear D5 D6 o5 o6
    rintro ys8 _ D9 ⟨o5, D5, rfl, ws, hws, hw1, hwl⟩ -
    intro t8
    refine v_join (.head _) hws hw1 (hwl ▸ ht6) fun y t6 hy6 => ?_
    clear hws hw1 hwl
    (repeat' (first | with_reducible intro _ | ((with_reducible refine' e_callP ?kf_81 ?kv_81 ?kx_81 ?kb_81 ?ke_81 ?kp_81 fun _ => ?_); (case kf_81 => k_is); (case kv_81 => k_is); (case kx_81 => exact rfl); (case kb_81 => exact rfl); (case ke_81 => exact rfl); (case kp_81 => exact rfl); (with_unfolding_all change Cx.R _ _ _ _ _)) | ((with_reducible refine' t_cmpP ?_ ?km_81); (case km_81 => exact rfl); (first | (with_unfolding_all change Cx.R _ _ _ _ _) | (intro _; (with_unfolding_all change Cx.R _ _ _ _ _)) | (intro _; intro _; (with_unfolding_all change Cx.R _ _ _ _ _)))) | ((with_reducible refine e_binP ?_); (first | (with_unfolding_all change Cx.R _ _ _ _ _) | (intro _; (with_unfolding_all change Cx.R _ _ _ _ _)) | (intro _; intro _; (with_unfolding_all change Cx.R _ _ _ _ _)))) | ((with_reducible refine e_subP ?_); (first | (with_unfolding_all change Cx.R _ _ _ _ _) | (intro _; (with_unfolding_all change Cx.R _ _ _ _ _)) | (intro _; intro _; (with_unfolding_all change Cx.R _ _ _ _ _)))) | ((with_reducible refine' l_plain fun _ => ?_); (with_unfolding_all change Cx.R _ _ _ _ _)) | ((with_reducible refine' s_assign ?_ ?kx_81 ?ks_81); (case kx_81 => exact rfl); (case ks_81 => exact rfl); intro ka) | ((with_reducible refine s_go ?_); (try clear ka); intro _) | (with_reducible refine s_return ?_) | ((with_reducible refine s_if ?_); intro kc) | (with_reducible refine s_skip ?_) | (with_reducible refine on_next ?_) | (with_reducible refine on_ret ?_) | ((with_reducible refine at_true ?_); (try clear kc)) | ((with_reducible refine at_false ?_); (try clear kc)) | ((with_reducible refine at_true' ?_); (try clear kc)) | ((with_reducible refine at_false' ?_); (try clear kc)) | (with_reducible refine e_int fun _ => ?_) | (with_reducible refine e_str fun _ => ?_) | (with_reducible refine e_bin ?_) | (with_reducible refine t_or ?_) | (with_reducible refine t_or_nil ?_) | (with_reducible refine t_not ?_) | (with_reducible refine v_add fun _ => ?_) | (with_reducible refine b_lt (fun _ => ?_) (fun _ => ?_)) | (with_reducible refine b_neS (fun _ => ?_) (fun _ => ?_)) | (with_reducible refine l_nil ?_) | ((with_reducible refine' e_local ?kv_81 ?_); (case kv_81 => exact rfl)) | ((with_reducible refine' e_call ?kf_81 ?kv_81 ?kx_81 ?kb_81 ?ke_81 ?kp_81 ?_); (case kf_81 => k_is); (case kv_81 => k_is); (case kx_81 => exact rfl); (case kb_81 => exact rfl); (case ke_81 => exact rfl); (case kp_81 => exact rfl); intro kb) | ((with_reducible refine' t_cmp ?_ ?km_81); (case km_81 => exact rfl)) | ((with_reducible refine' l_cons ?_ ?ke_81); (case ke_81 => exact rfl)) | ((with_reducible refine' e_from ?kv_81 ?kz_81 ?_); (case kv_81 => exact rfl); (case kz_81 => (rw [sizeLine_eq]; omega))) | (with_reducible refine e_sub ?_) | ((with_reducible refine' v_mul ?km_81 fun _ => ?_); (case km_81 => first | (with_reducible assumption) | (with_reducible exact mul8 (by with_reducible assumption)) | (with_reducible exact mul100 (by with_reducible assumption)) | mul_fits)) | ((with_reducible refine' v_item ?k0_81 ?k1_81 ?k2_81 (fun _ => ?_) ?kd_81 ?ke_81); (case kd_81 => with_unfolding_all rfl); (case ke_81 => (intro _; with_unfolding_all rfl)); (case k0_81 => first | (with_reducible assumption) | decide | assumption); (case k1_81 => first | omega | exact Int.lt_of_lt_of_le (by with_reducible assumption) (by decide)); (case k2_81 => first | omega | decide)) | ((with_reducible refine' e_builtin1 ?kf_81 ?kx_81 ?kb_81 ?kv_81 ?kn_81 ?_ ?kh_81); (case kf_81 => k_is); (case kx_81 => exact rfl); (case kb_81 => exact rfl); (case kv_81 => boot_fast); (case kn_81 => decide); (case kh_81 => exact rfl)) | (with_reducible refine ⟨_, _, rfl, ?_⟩) | ((with_reducible refine' r_k ?kc_81 ?kr_81 ?_); (case kc_81 => first | exact k_letter _ _ _ _ _ | (refine' k_iccf_of _ _ _ _ _ _ _ ?xa_81 ?xb_81; (case xa_81 => omega); (case xb_81 => omega)) | (refine' k_number _ _ _ _ _ _ _ _ _ _ _ _ ?x0_81 ?xU_81 ?xc_81 ?xK_81 ?xD_81; (case xK_81 => assumption); (case xD_81 => assumption); (case xU_81 => k_updF); (case xc_81 => k_mem); (case x0_81 => first | decide | omega))); (case kr_81 => decide)) | ((with_reducible refine' s_pair ?_ ?k1_81 ?k2_81 ?ks_81 ?kw_81); (case k1_81 => exact rfl); (case k2_81 => exact rfl); (case ks_81 => exact rfl); (case kw_81 => exact rfl)) | ((with_reducible refine' e_cell ?kx_81 ?kb_81 ?kc_81 ?km_81 ?kd_81 ?_); (case kx_81 => exact rfl); (case kb_81 => exact rfl); (case kc_81 => assumption); (case km_81 => k_mem); (case kd_81 => assumption)) | ((with_reducible refine' x_cell ?kc_81 ?km_81 ?kd_81 ?_ ?kk_81 ?kx_81 ?kb_81); (case kx_81 => exact rfl); (case kk_81 => exact rfl); (case kb_81 => exact rfl); (case kc_81 => exact rfl); (case km_81 => k_mem); (case kd_81 => assumption)) | ((with_reducible refine' x_own ?km_81 ?ko_81 ?kv_81 ?_ ?kk_81 ?kl_81 ?kb_81); (case kl_81 => exact rfl); (case kk_81 => exact rfl); (case kb_81 => exact rfl); (case ko_81 => assumption); (case kv_81 => assumption); (case km_81 => k_mem)) | ((with_reducible refine' x_call ?kf_81 ?kv_81 ?kx_81 ?kg_81 ?kk_81 ?kb_81 ?ke_81 ?kp_81 ?_); (case kf_81 => k_is); (case kv_81 => k_is); (case kx_81 => exact rfl); (case kg_81 => exact rfl); (case kk_81 => exact rfl); (case kb_81 => exact rfl); (case ke_81 => exact rfl); (case kp_81 => exact rfl)) | ((with_reducible refine' v_tupItem ?km_81 ?k0_81 ?k1_81 ?kx_81 ?_ ?kd_81); (case kd_81 => with_unfolding_all rfl); (case km_81 => k_mem); (case k0_81 => decide); (case k1_81 => decide); (case kx_81 => exact rfl)) | ((with_reducible refine' v_rowAt ?km_81 ?kr_81 ?k0_81 ?k1_81 ?kz_81 (fun _ _ _ _ _ _ => ?_) ?kd_81); (case kd_81 => with_unfolding_all rfl); (case km_81 => k_mem); (case kr_81 => assumption); (case k0_81 => assumption); (case k1_81 => first | assumption | omega); (case kz_81 => assumption)) | ((with_reducible refine' e_join ?_ ?km_81 ?ke_81); (case km_81 => exact rfl); (case ke_81 => exact rfl)) | ((with_reducible refine' v_lenL ?km_81 ?kz_81 (fun _ => ?_)); (case km_81 => k_mem); (case kz_81 => assumption)) | ((with_reducible refine' s_unpack2 ?_ ?k1_81 ?k2_81 ?ks_81 ?kw_81); (case k1_81 => exact rfl); (case k2_81 => exact rfl); (case ks_81 => exact rfl); (case kw_81 => exact rfl)) | ((with_reducible refine' v_itemI ?km_81 ?ki_81 ?k0_81 ?k1_81 ?k2_81 (fun _ => ?_) ?kd_81); (case kd_81 => with_unfolding_all rfl); (case km_81 => k_mem); (case ki_81 => assumption); (case k0_81 => assumption); (case k1_81 => assumption); (case k2_81 => assumption)) | ((with_reducible refine' b_same3 ?km_81 ?kn_81 ?kr_81 ?_); (case km_81 => k_mem); (case kn_81 => k_mem); (case kr_81 => decide)) | (with_reducible refine e_bool ?_) | (with_reducible refine t_call ?_) | (with_reducible refine ⟨_, rfl, ?_⟩) | (with_reducible refine e_tuple ?_) | ((with_reducible refine' v_tuple ?kz_81 fun _ _ => ?_); (case kz_81 => exact Nat.le_of_ble_eq_true rfl)) | (with_reducible refine e_list ?_) | ((with_reducible refine' v_list ?kz_81 fun _ _ => ?_); (case kz_81 => exact Nat.le_of_ble_eq_true rfl)) | fail))
    refine' v_text3 (.head _) low hiw hy6 (fun z tz hz => ?_) ?kd
    (case kd => with_unfolding_all rfl)
    refine s_go ?_
    intro m8
    refine s_weak ((dd, o5) :: R) (fun p hp => .tail _ (.tail _ hp)) ?_
    refine s_cut (fun m n => n = (dd, o5) :: R ∧ ∃ y t, (∀ x, m x = if x = Str.ofString "text" then some (.str y t) else m7 x) ∧ y.length ≤ 6) (if1 ?_) ?_
    · (repeat' (first | with_reducible intro _ | ((with_reducible refine' e_callP ?kf_82 ?kv_82 ?kx_82 ?kb_82 ?ke_82 ?kp_82 fun _ => ?_); (case kf_82 => k_is); (case kv_82 => k_is); (case kx_82 => exact rfl); (case kb_82 => exact rfl); (case ke_82 => exact rfl); (case kp_82 => exact rfl); (with_unfolding_all change Cx.R _ _ _ _ _)) | ((with_reducible refine' t_cmpP ?_ ?km_82); (case km_82 => exact rfl); (first | (with_unfolding_all change Cx.R _ _ _ _ _) | (intro _; (with_unfolding_all change Cx.R _ _ _ _ _)) | (intro _; intro _; (with_unfolding_all change Cx.R _ _ _ _ _)))) | ((with_reducible refine e_binP ?_); (first | (with_unfolding_all change Cx.R _ _ _ _ _) | (intro _; (with_unfolding_all change Cx.R _ _ _ _ _)) | (intro _; intro _; (with_unfolding_all change Cx.R _ _ _ _ _)))) | ((with_reducible refine e_subP ?_); (first | (with_unfolding_all change Cx.R _ _ _ _ _) | (intro _; (with_unfolding_all change Cx.R _ _ _ _ _)) | (intro _; intro _; (with_unfolding_all change Cx.R _ _ _ _ _)))) | ((with_reducible refine' l_plain fun _ => ?_); (with_unfolding_all change Cx.R _ _ _ _ _)) | ((with_reducible refine' s_assign ?_ ?kx_82 ?ks_82); (case kx_82 => exact rfl); (case ks_82 => exact rfl); intro ka) | ((with_reducible refine s_go ?_); (try clear ka); intro _) | (with_reducible refine s_return ?_) | ((with_reducible refine s_if ?_); intro kc) | (with_reducible refine s_skip ?_) | (with_reducible refine on_next ?_) | (with_reducible refine on_ret ?_) | ((with_reducible refine at_true ?_); (try clear kc)) | ((with_reducible refine at_false ?_); (try clear kc)) | ((with_reducible refine at_true' ?_); (try clear kc)) | ((with_reducible refine at_false' ?_); (try clear kc)) | (with_reducible refine e_int fun _ => ?_) | (with_reducible refine e_str fun _ => ?_) | (with_reducible refine e_bin ?_) | (with_reducible refine t_or ?_) | (with_reducible refine t_or_nil ?_) | (with_reducible refine t_not ?_) | (with_reducible refine v_add fun _ => ?_) | (with_reducible refine b_lt (fun _ => ?_) (fun _ => ?_)) | (with_reducible refine b_neS (fun _ => ?_) (fun _ => ?_)) | (with_reducible refine l_nil ?_) | ((with_reducible refine' e_local ?kv_82 ?_); (case kv_82 => exact rfl)) | ((with_reducible refine' e_call ?kf_82 ?kv_82 ?kx_82 ?kb_82 ?ke_82 ?kp_82 ?_); (case kf_82 => k_is); (case kv_82 => k_is); (case kx_82 => exact rfl); (case kb_82 => exact rfl); (case ke_82 => exact rfl); (case kp_82 => exact rfl); intro kb) | ((with_reducible refine' t_cmp ?_ ?km_82); (case km_82 => exact rfl)) | ((with_reducible refine' l_cons ?_ ?ke_82); (case ke_82 => exact rfl)) | ((with_reducible refine' e_from ?kv_82 ?kz_82 ?_); (case kv_82 => exact rfl); (case kz_82 => (rw [sizeLine_eq]; omega))) | (with_reducible refine e_sub ?_) | ((with_reducible refine' v_mul ?km_82 fun _ => ?_); (case km_82 => first | (with_reducible assumption) | (with_reducible exact mul8 (by with_reducible assumption)) | (with_reducible exact mul100 (by with_reducible assumption)) | mul_fits)) | ((with_reducible refine' v_item ?k0_82 ?k1_82 ?k2_82 (fun _ => ?_) ?kd_82 ?ke_82); (case kd_82 => with_unfolding_all rfl); (case ke_82 => (intro _; with_unfolding_all rfl)); (case k0_82 => first | (with_reducible assumption) | decide | assumption); (case k1_82 => first | omega | exact Int.lt_of_lt_of_le (by with_reducible assumption) (by decide)); (case k2_82 => first | omega | decide)) | ((with_reducible refine' e_builtin1 ?kf_82 ?kx_82 ?kb_82 ?kv_82 ?kn_82 ?_ ?kh_82); (case kf_82 => k_is); (case kx_82 => exact rfl); (case kb_82 => exact rfl); (case kv_82 => boot_fast); (case kn_82 => decide); (case kh_82 => exact rfl)) | (with_reducible refine ⟨_, _, rfl, ?_⟩) | ((with_reducible refine' r_k ?kc_82 ?kr_82 ?_); (case kc_82 => first | exact k_letter _ _ _ _ _ | (refine' k_iccf_of _ _ _ _ _ _ _ ?xa_82 ?xb_82; (case xa_82 => omega); (case xb_82 => omega)) | (refine' k_number _ _ _ _ _ _ _ _ _ _ _ _ ?x0_82 ?xU_82 ?xc_82 ?xK_82 ?xD_82; (case xK_82 => assumption); (case xD_82 => assumption); (case xU_82 => k_updF); (case xc_82 => k_mem); (case x0_82 => first | decide | omega))); (case kr_82 => decide)) | ((with_reducible refine' s_pair ?_ ?k1_82 ?k2_82 ?ks_82 ?kw_82); (case k1_82 => exact rfl); (case k2_82 => exact rfl); (case ks_82 => exact rfl); (case kw_82 => exact rfl)) | ((with_reducible refine' e_cell ?kx_82 ?kb_82 ?kc_82 ?km_82 ?kd_82 ?_); (case kx_82 => exact rfl); (case kb_82 => exact rfl); (case kc_82 => assumption); (case km_82 => k_mem); (case kd_82 => assumption)) | ((with_reducible refine' x_cell ?kc_82 ?km_82 ?kd_82 ?_ ?kk_82 ?kx_82 ?kb_82); (case kx_82 => exact rfl); (case kk_82 => exact rfl); (case kb_82 => exact rfl); (case kc_82 => exact rfl); (case km_82 => k_mem); (case kd_82 => assumption)) | ((with_reducible refine' x_own ?km_82 ?ko_82 ?kv_82 ?_ ?kk_82 ?kl_82 ?kb_82); (case kl_82 => exact rfl); (case kk_82 => exact rfl); (case kb_82 => exact rfl); (case ko_82 => assumption); (case kv_82 => assumption); (case km_82 => k_mem)) | ((with_reducible refine' x_call ?kf_82 ?kv_82 ?kx_82 ?kg_82 ?kk_82 ?kb_82 ?ke_82 ?kp_82 ?_); (case kf_82 => k_is); (case kv_82 => k_is); (case kx_82 => exact rfl); (case kg_82 => exact rfl); (case kk_82 => exact rfl); (case kb_82 => exact rfl); (case ke_82 => exact rfl); (case kp_82 => exact rfl)) | ((with_reducible refine' v_tupItem ?km_82 ?k0_82 ?k1_82 ?kx_82 ?_ ?kd_82); (case kd_82 => with_unfolding_all rfl); (case km_82 => k_mem); (case k0_82 => decide); (case k1_82 => decide); (case kx_82 => exact rfl)) | ((with_reducible refine' v_rowAt ?km_82 ?kr_82 ?k0_82 ?k1_82 ?kz_82 (fun _ _ _ _ _ _ => ?_) ?kd_82); (case kd_82 => with_unfolding_all rfl); (case km_82 => k_mem); (case kr_82 => assumption); (case k0_82 => assumption); (case k1_82 => first | assumption | omega); (case kz_82 => assumption)) | ((with_reducible refine' e_join ?_ ?km_82 ?ke_82); (case km_82 => exact rfl); (case ke_82 => exact rfl)) | ((with_reducible refine' v_lenL ?km_82 ?kz_82 (fun _ => ?_)); (case km_82 => k_mem); (case kz_82 => assumption)) | ((with_reducible refine' s_unpack2 ?_ ?k1_82 ?k2_82 ?ks_82 ?kw_82); (case k1_82 => exact rfl); (case k2_82 => exact rfl); (case ks_82 => exact rfl); (case kw_82 => exact rfl)) | ((with_reducible refine' v_itemI ?km_82 ?ki_82 ?k0_82 ?k1_82 ?k2_82 (fun _ => ?_) ?kd_82); (case kd_82 => with_unfolding_all rfl); (case km_82 => k_mem); (case ki_82 => assumption); (case k0_82 => assumption); (case k1_82 => assumption); (case k2_82 => assumption)) | ((with_reducible refine' b_same3 ?km_82 ?kn_82 ?kr_82 ?_); (case km_82 => k_mem); (case kn_82 => k_mem); (case kr_82 => decide)) | (with_reducible refine e_bool ?_) | (with_reducible refine t_call ?_) | (with_reducible refine ⟨_, rfl, ?_⟩) | (with_reducible refine e_tuple ?_) | ((with_reducible refine' v_tuple ?kz_82 fun _ _ => ?_); (case kz_82 => exact Nat.le_of_ble_eq_true rfl)) | (with_reducible refine e_list ?_) | ((with_reducible refine' v_list ?kz_82 fun _ _ => ?_); (case kz_82 => exact Nat.le_of_ble_eq_true rfl)) | fail))
      · refine r_k (k_toldL _ _ _ _ _ _ _ _ _ _ _ _ _ _ _ hff hrr (good_at hgood lok (hl1 ▸ hik)) (.tail _ hch) (.tail _ mla) (.tail _ mga) TL TG) (by decide) ?_
        intro a v1 v2 ly1 ly2
        (repeat' (first | with_reducible intro _ | ((with_reducible refine' e_callP ?kf_83 ?kv_83 ?kx_83 ?kb_83 ?ke_83 ?kp_83 fun _ => ?_); (case kf_83 => k_is); (case kv_83 => k_is); (case kx_83 => exact rfl); (case kb_83 => exact rfl); (case ke_83 => exact rfl); (case kp_83 => exact rfl); (with_unfolding_all change Cx.R _ _ _ _ _)) | ((with_reducible refine' t_cmpP ?_ ?km_83); (case km_83 => exact rfl); (first | (with_unfolding_all change Cx.R _ _ _ _ _) | (intro _; (with_unfolding_all change Cx.R _ _ _ _ _)) | (intro _; intro _; (with_unfolding_all change Cx.R _ _ _ _ _)))) | ((with_reducible refine e_binP ?_); (first | (with_unfolding_all change Cx.R _ _ _ _ _) | (intro _; (with_unfolding_all change Cx.R _ _ _ _ _)) | (intro _; intro _; (with_unfolding_all change Cx.R _ _ _ _ _)))) | ((with_reducible refine e_subP ?_); (first | (with_unfolding_all change Cx.R _ _ _ _ _) | (intro _; (with_unfolding_all change Cx.R _ _ _ _ _)) | (intro _; intro _; (with_unfolding_all change Cx.R _ _ _ _ _)))) | ((with_reducible refine' l_plain fun _ => ?_); (with_unfolding_all change Cx.R _ _ _ _ _)) | ((with_reducible refine' s_assign ?_ ?kx_83 ?ks_83); (case kx_83 => exact rfl); (case ks_83 => exact rfl); intro ka) | ((with_reducible refine s_go ?_); (try clear ka); intro _) | (with_reducible refine s_return ?_) | ((with_reducible refine s_if ?_); intro kc) | (with_reducible refine s_skip ?_) | (with_reducible refine on_next ?_) | (with_reducible refine on_ret ?_) | ((with_reducible refine at_true ?_); (try clear kc)) | ((with_reducible refine at_false ?_); (try clear kc)) | ((with_reducible refine at_true' ?_); (try clear kc)) | ((with_reducible refine at_false' ?_); (try clear kc)) | (with_reducible refine e_int fun _ => ?_) | (with_reducible refine e_str fun _ => ?_) | (with_reducible refine e_bin ?_) | (with_reducible refine t_or ?_) | (with_reducible refine t_or_nil ?_) | (with_reducible refine t_not ?_) | (with_reducible refine v_add fun _ => ?_) | (with_reducible refine b_lt (fun _ => ?_) (fun _ => ?_)) | (with_reducible refine b_neS (fun _ => ?_) (fun _ => ?_)) | (with_reducible refine l_nil ?_) | ((with_reducible refine' e_local ?kv_83 ?_); (case kv_83 => exact rfl)) | ((with_reducible refine' e_call ?kf_83 ?kv_83 ?kx_83 ?kb_83 ?ke_83 ?kp_83 ?_); (case kf_83 => k_is); (case kv_83 => k_is); (case kx_83 => exact rfl); (case kb_83 => exact rfl); (case ke_83 => exact rfl); (case kp_83 => exact rfl); intro kb) | ((with_reducible refine' t_cmp ?_ ?km_83); (case km_83 => exact rfl)) | ((with_reducible refine' l_cons ?_ ?ke_83); (case ke_83 => exact rfl)) | ((with_reducible refine' e_from ?kv_83 ?kz_83 ?_); (case kv_83 => exact rfl); (case kz_83 => (rw [sizeLine_eq]; omega))) | (with_reducible refine e_sub ?_) | ((with_reducible refine' v_mul ?km_83 fun _ => ?_); (case km_83 => first | (with_reducible assumption) | (with_reducible exact mul8 (by with_reducible assumption)) | (with_reducible exact mul100 (by with_reducible assumption)) | mul_fits)) | ((with_reducible refine' v_item ?k0_83 ?k1_83 ?k2_83 (fun _ => ?_) ?kd_83 ?ke_83); (case kd_83 => with_unfolding_all rfl); (case ke_83 => (intro _; with_unfolding_all rfl)); (case k0_83 => first | (with_reducible assumption) | decide | assumption); (case k1_83 => first | omega | exact Int.lt_of_lt_of_le (by with_reducible assumption) (by decide)); (case k2_83 => first | omega | decide)) | ((with_reducible refine' e_builtin1 ?kf_83 ?kx_83 ?kb_83 ?kv_83 ?kn_83 ?_ ?kh_83); (case kf_83 => k_is); (case kx_83 => exact rfl); (case kb_83 => exact rfl); (case kv_83 => boot_fast); (case kn_83 => decide); (case kh_83 => exact rfl)) | (with_reducible refine ⟨_, _, rfl, ?_⟩) | ((with_reducible refine' r_k ?kc_83 ?kr_83 ?_); (case kc_83 => first | exact k_letter _ _ _ _ _ | (refine' k_iccf_of _ _ _ _ _ _ _ ?xa_83 ?xb_83; (case xa_83 => omega); (case xb_83 => omega)) | (refine' k_number _ _ _ _ _ _ _ _ _ _ _ _ ?x0_83 ?xU_83 ?xc_83 ?xK_83 ?xD_83; (case xK_83 => assumption); (case xD_83 => assumption); (case xU_83 => k_updF); (case xc_83 => k_mem); (case x0_83 => first | decide | omega))); (case kr_83 => decide)) | ((with_reducible refine' s_pair ?_ ?k1_83 ?k2_83 ?ks_83 ?kw_83); (case k1_83 => exact rfl); (case k2_83 => exact rfl); (case ks_83 => exact rfl); (case kw_83 => exact rfl)) | ((with_reducible refine' e_cell ?kx_83 ?kb_83 ?kc_83 ?km_83 ?kd_83 ?_); (case kx_83 => exact rfl); (case kb_83 => exact rfl); (case kc_83 => assumption); (case km_83 => k_mem); (case kd_83 => assumption)) | ((with_reducible refine' x_cell ?kc_83 ?km_83 ?kd_83 ?_ ?kk_83 ?kx_83 ?kb_83); (case kx_83 => exact rfl); (case kk_83 => exact rfl); (case kb_83 => exact rfl); (case kc_83 => exact rfl); (case km_83 => k_mem); (case kd_83 => assumption)) | ((with_reducible refine' x_own ?km_83 ?ko_83 ?kv_83 ?_ ?kk_83 ?kl_83 ?kb_83); (case kl_83 => exact rfl); (case kk_83 => exact rfl); (case kb_83 => exact rfl); (case ko_83 => assumption); (case kv_83 => assumption); (case km_83 => k_mem)) | ((with_reducible refine' x_call ?kf_83 ?kv_83 ?kx_83 ?kg_83 ?kk_83 ?kb_83 ?ke_83 ?kp_83 ?_); (case kf_83 => k_is); (case kv_83 => k_is); (case kx_83 => exact rfl); (case kg_83 => exact rfl); (case kk_83 => exact rfl); (case kb_83 => exact rfl); (case ke_83 => exact rfl); (case kp_83 => exact rfl)) | ((with_reducible refine' v_tupItem ?km_83 ?k0_83 ?k1_83 ?kx_83 ?_ ?kd_83); (case kd_83 => with_unfolding_all rfl); (case km_83 => k_mem); (case k0_83 => decide); (case k1_83 => decide); (case kx_83 => exact rfl)) | ((with_reducible refine' v_rowAt ?km_83 ?kr_83 ?k0_83 ?k1_83 ?kz_83 (fun _ _ _ _ _ _ => ?_) ?kd_83); (case kd_83 => with_unfolding_all rfl); (case km_83 => k_mem); (case kr_83 => assumption); (case k0_83 => assumption); (case k1_83 => first | assumption | omega); (case kz_83 => assumption)) | ((with_reducible refine' e_join ?_ ?km_83 ?ke_83); (case km_83 => exact rfl); (case ke_83 => exact rfl)) | ((with_reducible refine' v_lenL ?km_83 ?kz_83 (fun _ => ?_)); (case km_83 => k_mem); (case kz_83 => assumption)) | ((with_reducible refine' s_unpack2 ?_ ?k1_83 ?k2_83 ?ks_83 ?kw_83); (case k1_83 => exact rfl); (case k2_83 => exact rfl); (case ks_83 => exact rfl); (case kw_83 => exact rfl)) | ((with_reducible refine' v_itemI ?km_83 ?ki_83 ?k0_83 ?k1_83 ?k2_83 (fun _ => ?_) ?kd_83); (case kd_83 => with_unfolding_all rfl); (case km_83 => k_mem); (case ki_83 => assumption); (case k0_83 => assumption); (case k1_83 => assumption); (case k2_83 => assumption)) | ((with_reducible refine' b_same3 ?km_83 ?kn_83 ?kr_83 ?_); (case km_83 => k_mem); (case kn_83 => k_mem); (case kr_83 => decide)) | (with_reducible refine e_bool ?_) | (with_reducible refine t_call ?_) | (with_reducible refine ⟨_, rfl, ?_⟩) | (with_reducible refine e_tuple ?_) | ((with_reducible refine' v_tuple ?kz_83 fun _ _ => ?_); (case kz_83 => exact Nat.le_of_ble_eq_true rfl)) | (with_reducible refine e_list ?_) | ((with_reducible refine' v_list ?kz_83 fun _ _ => ?_); (case kz_83 => exact Nat.le_of_ble_eq_true rfl)) | fail))
        refine' v_text2 (.head _) low (by assumption) ly1 ly2 (fun z tz hz => ?_) ?kd
        (case kd => with_unfolding_all rfl)
        refine s_go ?_
        intro m9
        refine s_weak ((dd, o5) :: R) (fun p hp => .tail _ hp) ?_
        refine s_nil ⟨rfl, z, tz, fun x => ?_, hz⟩
        show (if x = _ then _ else if x = _ then _ else m7 x) = _
        split <;> rfl
      · exact s_nil ⟨rfl, z, tz, fun x => rfl, hz⟩
    rintro mq _ ⟨rfl, y, ty, hmq, hy6⟩
    refine s_ext hmq ?_
    clear hmq hz m8
    refine s_let ?_
    intro m8
    have right : ∀ (n : Led) (x : Str) (tx : Tok), (∀ p ∈ R, p ∈ n) → x.length < 100 → ConS C.prog C.w 217 20 n [.int (2 + kf) u1, .int (3 + kr) u2, .ref D, .ref lr, .ref ta, .str x tx] (fun v nw => v = .bool true ∧ nw = n) := fun n x tx hs hx =>
      c_rightN _ _ n _ _ x D lr ta la ga lo go _ _ _ _ rs _ _ _ hff hrr hx (hs _ mna) (hs _ mlr) (hs _ mta) (hs _ mla) (hs _ mga) TL TG hys9 (hrows.mono hs) hgood (Nat.lt_trans hrs1 (by decide))
    (repeat' (first | with_reducible intro _ | ((with_reducible refine' e_callP ?kf_84 ?kv_84 ?kx_84 ?kb_84 ?ke_84 ?kp_84 fun _ => ?_); (case kf_84 => k_is); (case kv_84 => k_is); (case kx_84 => exact rfl); (case kb_84 => exact rfl); (case ke_84 => exact rfl); (case kp_84 => exact rfl); (with_unfolding_all change Cx.R _ _ _ _ _)) | ((with_reducible refine' t_cmpP ?_ ?km_84); (case km_84 => exact rfl); (first | (with_unfolding_all change Cx.R _ _ _ _ _) | (intro _; (with_unfolding_all change Cx.R _ _ _ _ _)) | (intro _; intro _; (with_unfolding_all change Cx.R _ _ _ _ _)))) | ((with_reducible refine e_binP ?_); (first | (with_unfolding_all change Cx.R _ _ _ _ _) | (intro _; (with_unfolding_all change Cx.R _ _ _ _ _)) | (intro _; intro _; (with_unfolding_all change Cx.R _ _ _ _ _)))) | ((with_reducible refine e_subP ?_); (first | (with_unfolding_all change Cx.R _ _ _ _ _) | (intro _; (with_unfolding_all change Cx.R _ _ _ _ _)) | (intro _; intro _; (with_unfolding_all change Cx.R _ _ _ _ _)))) | ((with_reducible refine' l_plain fun _ => ?_); (with_unfolding_all change Cx.R _ _ _ _ _)) | ((with_reducible refine' s_assign ?_ ?kx_84 ?ks_84); (case kx_84 => exact rfl); (case ks_84 => exact rfl); intro ka) | ((with_reducible refine s_go ?_); (try clear ka); intro _) | (with_reducible refine s_return ?_) | ((with_reducible refine s_if ?_); intro kc) | (with_reducible refine s_skip ?_) | (with_reducible refine on_next ?_) | (with_reducible refine on_ret ?_) | ((with_reducible refine at_true ?_); (try clear kc)) | ((with_reducible refine at_false ?_); (try clear kc)) | ((with_reducible refine at_true' ?_); (try clear kc)) | ((with_reducible refine at_false' ?_); (try clear kc)) | (with_reducible refine e_int fun _ => ?_) | (with_reducible refine e_str fun _ => ?_) | (with_reducible refine e_bin ?_) | (with_reducible refine t_or ?_) | (with_reducible refine t_or_nil ?_) | (with_reducible refine t_not ?_) | (with_reducible refine v_add fun _ => ?_) | (with_reducible refine b_lt (fun _ => ?_) (fun _ => ?_)) | (with_reducible refine b_neS (fun _ => ?_) (fun _ => ?_)) | (with_reducible refine l_nil ?_) | ((with_reducible refine' e_local ?kv_84 ?_); (case kv_84 => exact rfl)) | ((with_reducible refine' e_call ?kf_84 ?kv_84 ?kx_84 ?kb_84 ?ke_84 ?kp_84 ?_); (case kf_84 => k_is); (case kv_84 => k_is); (case kx_84 => exact rfl); (case kb_84 => exact rfl); (case ke_84 => exact rfl); (case kp_84 => exact rfl); intro kb) | ((with_reducible refine' t_cmp ?_ ?km_84); (case km_84 => exact rfl)) | ((with_reducible refine' l_cons ?_ ?ke_84); (case ke_84 => exact rfl)) | ((with_reducible refine' e_from ?kv_84 ?kz_84 ?_); (case kv_84 => exact rfl); (case kz_84 => (rw [sizeLine_eq]; omega))) | (with_reducible refine e_sub ?_) | ((with_reducible refine' v_mul ?km_84 fun _ => ?_); (case km_84 => first | (with_reducible assumption) | (with_reducible exact mul8 (by with_reducible assumption)) | (with_reducible exact mul100 (by with_reducible assumption)) | mul_fits)) | ((with_reducible refine' v_item ?k0_84 ?k1_84 ?k2_84 (fun _ => ?_) ?kd_84 ?ke_84); (case kd_84 => with_unfolding_all rfl); (case ke_84 => (intro _; with_unfolding_all rfl)); (case k0_84 => first | (with_reducible assumption) | decide | assumption); (case k1_84 => first | omega | exact Int.lt_of_lt_of_le (by with_reducible assumption) (by decide)); (case k2_84 => first | omega | decide)) | ((with_reducible refine' e_builtin1 ?kf_84 ?kx_84 ?kb_84 ?kv_84 ?kn_84 ?_ ?kh_84); (case kf_84 => k_is); (case kx_84 => exact rfl); (case kb_84 => exact rfl); (case kv_84 => boot_fast); (case kn_84 => decide); (case kh_84 => exact rfl)) | (with_reducible refine ⟨_, _, rfl, ?_⟩) | ((with_reducible refine' r_k ?kc_84 ?kr_84 ?_); (case kc_84 => first | exact k_letter _ _ _ _ _ | (refine' k_iccf_of _ _ _ _ _ _ _ ?xa_84 ?xb_84; (case xa_84 => omega); (case xb_84 => omega)) | (refine' k_number _ _ _ _ _ _ _ _ _ _ _ _ ?x0_84 ?xU_84 ?xc_84 ?xK_84 ?xD_84; (case xK_84 => assumption); (case xD_84 => assumption); (case xU_84 => k_updF); (case xc_84 => k_mem); (case x0_84 => first | decide | omega))); (case kr_84 => decide)) | ((with_reducible refine' s_pair ?_ ?k1_84 ?k2_84 ?ks_84 ?kw_84); (case k1_84 => exact rfl); (case k2_84 => exact rfl); (case ks_84 => exact rfl); (case kw_84 => exact rfl)) | ((with_reducible refine' e_cell ?kx_84 ?kb_84 ?kc_84 ?km_84 ?kd_84 ?_); (case kx_84 => exact rfl); (case kb_84 => exact rfl); (case kc_84 => assumption); (case km_84 => k_mem); (case kd_84 => assumption)) | ((with_reducible refine' x_cell ?kc_84 ?km_84 ?kd_84 ?_ ?kk_84 ?kx_84 ?kb_84); (case kx_84 => exact rfl); (case kk_84 => exact rfl); (case kb_84 => exact rfl); (case kc_84 => exact rfl); (case km_84 => k_mem); (case kd_84 => assumption)) | ((with_reducible refine' x_own ?km_84 ?ko_84 ?kv_84 ?_ ?kk_84 ?kl_84 ?kb_84); (case kl_84 => exact rfl); (case kk_84 => exact rfl); (case kb_84 => exact rfl); (case ko_84 => assumption); (case kv_84 => assumption); (case km_84 => k_mem)) | ((with_reducible refine' x_call ?kf_84 ?kv_84 ?kx_84 ?kg_84 ?kk_84 ?kb_84 ?ke_84 ?kp_84 ?_); (case kf_84 => k_is); (case kv_84 => k_is); (case kx_84 => exact rfl); (case kg_84 => exact rfl); (case kk_84 => exact rfl); (case kb_84 => exact rfl); (case ke_84 => exact rfl); (case kp_84 => exact rfl)) | ((with_reducible refine' v_tupItem ?km_84 ?k0_84 ?k1_84 ?kx_84 ?_ ?kd_84); (case kd_84 => with_unfolding_all rfl); (case km_84 => k_mem); (case k0_84 => decide); (case k1_84 => decide); (case kx_84 => exact rfl)) | ((with_reducible refine' v_rowAt ?km_84 ?kr_84 ?k0_84 ?k1_84 ?kz_84 (fun _ _ _ _ _ _ => ?_) ?kd_84); (case kd_84 => with_unfolding_all rfl); (case km_84 => k_mem); (case kr_84 => assumption); (case k0_84 => assumption); (case k1_84 => first | assumption | omega); (case kz_84 => assumption)) | ((with_reducible refine' e_join ?_ ?km_84 ?ke_84); (case km_84 => exact rfl); (case ke_84 => exact rfl)) | ((with_reducible refine' v_lenL ?km_84 ?kz_84 (fun _ => ?_)); (case km_84 => k_mem); (case kz_84 => assumption)) | ((with_reducible refine' s_unpack2 ?_ ?k1_84 ?k2_84 ?ks_84 ?kw_84); (case k1_84 => exact rfl); (case k2_84 => exact rfl); (case ks_84 => exact rfl); (case kw_84 => exact rfl)) | ((with_reducible refine' v_itemI ?km_84 ?ki_84 ?k0_84 ?k1_84 ?k2_84 (fun _ => ?_) ?kd_84); (case kd_84 => with_unfolding_all rfl); (case km_84 => k_mem); (case ki_84 => assumption); (case k0_84 => assumption); (case k1_84 => assumption); (case k2_84 => assumption)) | ((with_reducible refine' b_same3 ?km_84 ?kn_84 ?kr_84 ?_); (case km_84 => k_mem); (case kn_84 => k_mem); (case kr_84 => decide)) | (with_reducible refine e_bool ?_) | (with_reducible refine t_call ?_) | (with_reducible refine ⟨_, rfl, ?_⟩) | (with_reducible refine e_tuple ?_) | ((with_reducible refine' v_tuple ?kz_84 fun _ _ => ?_); (case kz_84 => exact Nat.le_of_ble_eq_true rfl)) | (with_reducible refine e_list ?_) | ((with_reducible refine' v_list ?kz_84 fun _ _ => ?_); (case kz_84 => exact Nat.le_of_ble_eq_true rfl)) | fail))
    refine r_conS0 (right _ _ _ (fun p hp => .tail _ hp) (Nat.lt_of_le_of_lt hy6 (by decide))) (by decide) hO hB ?_
    rintro _ _ ⟨rfl, rfl⟩
    (repeat' (first | with_reducible intro _ | ((with_reducible refine' e_callP ?kf_85 ?kv_85 ?kx_85 ?kb_85 ?ke_85 ?kp_85 fun _ => ?_); (case kf_85 => k_is); (case kv_85 => k_is); (case kx_85 => exact rfl); (case kb_85 => exact rfl); (case ke_85 => exact rfl); (case kp_85 => exact rfl); (with_unfolding_all change Cx.R _ _ _ _ _)) | ((with_reducible refine' t_cmpP ?_ ?km_85); (case km_85 => exact rfl); (first | (with_unfolding_all change Cx.R _ _ _ _ _) | (intro _; (with_unfolding_all change Cx.R _ _ _ _ _)) | (intro _; intro _; (with_unfolding_all change Cx.R _ _ _ _ _)))) | ((with_reducible refine e_binP ?_); (first | (with_unfolding_all change Cx.R _ _ _ _ _) | (intro _; (with_unfolding_all change Cx.R _ _ _ _ _)) | (intro _; intro _; (with_unfolding_all change Cx.R _ _ _ _ _)))) | ((with_reducible refine e_subP ?_); (first | (with_unfolding_all change Cx.R _ _ _ _ _) | (intro _; (with_unfolding_all change Cx.R _ _ _ _ _)) | (intro _; intro _; (with_unfolding_all change Cx.R _ _ _ _ _)))) | ((with_reducible refine' l_plain fun _ => ?_); (with_unfolding_all change Cx.R _ _ _ _ _)) | ((with_reducible refine' s_assign ?_ ?kx_85 ?ks_85); (case kx_85 => exact rfl); (case ks_85 => exact rfl); intro ka) | ((with_reducible refine s_go ?_); (try clear ka); intro _) | (with_reducible refine s_return ?_) | ((with_reducible refine s_if ?_); intro kc) | (with_reducible refine s_skip ?_) | (with_reducible refine on_next ?_) | (with_reducible refine on_ret ?_) | ((with_reducible refine at_true ?_); (try clear kc)) | ((with_reducible refine at_false ?_); (try clear kc)) | ((with_reducible refine at_true' ?_); (try clear kc)) | ((with_reducible refine at_false' ?_); (try clear kc)) | (with_reducible refine e_int fun _ => ?_) | (with_reducible refine e_str fun _ => ?_) | (with_reducible refine e_bin ?_) | (with_reducible refine t_or ?_) | (with_reducible refine t_or_nil ?_) | (with_reducible refine t_not ?_) | (with_reducible refine v_add fun _ => ?_) | (with_reducible refine b_lt (fun _ => ?_) (fun _ => ?_)) | (with_reducible refine b_neS (fun _ => ?_) (fun _ => ?_)) | (with_reducible refine l_nil ?_) | ((with_reducible refine' e_local ?kv_85 ?_); (case kv_85 => exact rfl)) | ((with_reducible refine' e_call ?kf_85 ?kv_85 ?kx_85 ?kb_85 ?ke_85 ?kp_85 ?_); (case kf_85 => k_is); (case kv_85 => k_is); (case kx_85 => exact rfl); (case kb_85 => exact rfl); (case ke_85 => exact rfl); (case kp_85 => exact rfl); intro kb) | ((with_reducible refine' t_cmp ?_ ?km_85); (case km_85 => exact rfl)) | ((with_reducible refine' l_cons ?_ ?ke_85); (case ke_85 => exact rfl)) | ((with_reducible refine' e_from ?kv_85 ?kz_85 ?_); (case kv_85 => exact rfl); (case kz_85 => (rw [sizeLine_eq]; omega))) | (with_reducible refine e_sub ?_) | ((with_reducible refine' v_mul ?km_85 fun _ => ?_); (case km_85 => first | (with_reducible assumption) | (with_reducible exact mul8 (by with_reducible assumption)) | (with_reducible exact mul100 (by with_reducible assumption)) | mul_fits)) | ((with_reducible refine' v_item ?k0_85 ?k1_85 ?k2_85 (fun _ => ?_) ?kd_85 ?ke_85); (case kd_85 => with_unfolding_all rfl); (case ke_85 => (intro _; with_unfolding_all rfl)); (case k0_85 => first | (with_reducible assumption) | decide | assumption); (case k1_85 => first | omega | exact Int.lt_of_lt_of_le (by with_reducible assumption) (by decide)); (case k2_85 => first | omega | decide)) | ((with_reducible refine' e_builtin1 ?kf_85 ?kx_85 ?kb_85 ?kv_85 ?kn_85 ?_ ?kh_85); (case kf_85 => k_is); (case kx_85 => exact rfl); (case kb_85 => exact rfl); (case kv_85 => boot_fast); (case kn_85 => decide); (case kh_85 => exact rfl)) | (with_reducible refine ⟨_, _, rfl, ?_⟩) | ((with_reducible refine' r_k ?kc_85 ?kr_85 ?_); (case kc_85 => first | exact k_letter _ _ _ _ _ | (refine' k_iccf_of _ _ _ _ _ _ _ ?xa_85 ?xb_85; (case xa_85 => omega); (case xb_85 => omega)) | (refine' k_number _ _ _ _ _ _ _ _ _ _ _ _ ?x0_85 ?xU_85 ?xc_85 ?xK_85 ?xD_85; (case xK_85 => assumption); (case xD_85 => assumption); (case xU_85 => k_updF); (case xc_85 => k_mem); (case x0_85 => first | decide | omega))); (case kr_85 => decide)) | ((with_reducible refine' s_pair ?_ ?k1_85 ?k2_85 ?ks_85 ?kw_85); (case k1_85 => exact rfl); (case k2_85 => exact rfl); (case ks_85 => exact rfl); (case kw_85 => exact rfl)) | ((with_reducible refine' e_cell ?kx_85 ?kb_85 ?kc_85 ?km_85 ?kd_85 ?_); (case kx_85 => exact rfl); (case kb_85 => exact rfl); (case kc_85 => assumption); (case km_85 => k_mem); (case kd_85 => assumption)) | ((with_reducible refine' x_cell ?kc_85 ?km_85 ?kd_85 ?_ ?kk_85 ?kx_85 ?kb_85); (case kx_85 => exact rfl); (case kk_85 => exact rfl); (case kb_85 => exact rfl); (case kc_85 => exact rfl); (case km_85 => k_mem); (case kd_85 => assumption)) | ((with_reducible refine' x_own ?km_85 ?ko_85 ?kv_85 ?_ ?kk_85 ?kl_85 ?kb_85); (case kl_85 => exact rfl); (case kk_85 => exact rfl); (case kb_85 => exact rfl); (case ko_85 => assumption); (case kv_85 => assumption); (case km_85 => k_mem)) | ((with_reducible refine' x_call ?kf_85 ?kv_85 ?kx_85 ?kg_85 ?kk_85 ?kb_85 ?ke_85 ?kp_85 ?_); (case kf_85 => k_is); (case kv_85 => k_is); (case kx_85 => exact rfl); (case kg_85 => exact rfl); (case kk_85 => exact rfl); (case kb_85 => exact rfl); (case ke_85 => exact rfl); (case kp_85 => exact rfl)) | ((with_reducible refine' v_tupItem ?km_85 ?k0_85 ?k1_85 ?kx_85 ?_ ?kd_85); (case kd_85 => with_unfolding_all rfl); (case km_85 => k_mem); (case k0_85 => decide); (case k1_85 => decide); (case kx_85 => exact rfl)) | ((with_reducible refine' v_rowAt ?km_85 ?kr_85 ?k0_85 ?k1_85 ?kz_85 (fun _ _ _ _ _ _ => ?_) ?kd_85); (case kd_85 => with_unfolding_all rfl); (case km_85 => k_mem); (case kr_85 => assumption); (case k0_85 => assumption); (case k1_85 => first | assumption | omega); (case kz_85 => assumption)) | ((with_reducible refine' e_join ?_ ?km_85 ?ke_85); (case km_85 => exact rfl); (case ke_85 => exact rfl)) | ((with_reducible refine' v_lenL ?km_85 ?kz_85 (fun _ => ?_)); (case km_85 => k_mem); (case kz_85 => assumption)) | ((with_reducible refine' s_unpack2 ?_ ?k1_85 ?k2_85 ?ks_85 ?kw_85); (case k1_85 => exact rfl); (case k2_85 => exact rfl); (case ks_85 => exact rfl); (case kw_85 => exact rfl)) | ((with_reducible refine' v_itemI ?km_85 ?ki_85 ?k0_85 ?k1_85 ?k2_85 (fun _ => ?_) ?kd_85); (case kd_85 => with_unfolding_all rfl); (case km_85 => k_mem); (case ki_85 => assumption); (case k0_85 => assumption); (case k1_85 => assumption); (case k2_85 => assumption)) | ((with_reducible refine' b_same3 ?km_85 ?kn_85 ?kr_85 ?_); (case km_85 => k_mem); (case kn_85 => k_mem); (case kr_85 => decide)) | (with_reducible refine e_bool ?_) | (with_reducible refine t_call ?_) | (with_reducible refine ⟨_, rfl, ?_⟩) | (with_reducible refine e_tuple ?_) | ((with_reducible refine' v_tuple ?kz_85 fun _ _ => ?_); (case kz_85 => exact Nat.le_of_ble_eq_true rfl)) | (with_reducible refine e_list ?_) | ((with_reducible refine' v_list ?kz_85 fun _ _ => ?_); (case kz_85 => exact Nat.le_of_ble_eq_true rfl)) | fail))
    refine r_k (k_bent _ _ _ _ _ _ _ _ _ _ _ hy6 mDl hne K1 D5) (by decide) ?_
    clear D5 hy6
    intro o5 y9 u9 hy9 D5
    (repeat' (first | with_reducible intro _ | ((with_reducible refine' e_callP ?kf_86 ?kv_86 ?kx_86 ?kb_86 ?ke_86 ?kp_86 fun _ => ?_); (case kf_86 => k_is); (case kv_86 => k_is); (case kx_86 => exact rfl); (case kb_86 => exact rfl); (case ke_86 => exact rfl); (case kp_86 => exact rfl); (with_unfolding_all change Cx.R _ _ _ _ _)) | ((with_reducible refine' t_cmpP ?_ ?km_86); (case km_86 => exact rfl); (first | (with_unfolding_all change Cx.R _ _ _ _ _) | (intro _; (with_unfolding_all change Cx.R _ _ _ _ _)) | (intro _; intro _; (with_unfolding_all change Cx.R _ _ _ _ _)))) | ((with_reducible refine e_binP ?_); (first | (with_unfolding_all change Cx.R _ _ _ _ _) | (intro _; (with_unfolding_all change Cx.R _ _ _ _ _)) | (intro _; intro _; (with_unfolding_all change Cx.R _ _ _ _ _)))) | ((with_reducible refine e_subP ?_); (first | (with_unfolding_all change Cx.R _ _ _ _ _) | (intro _; (with_unfolding_all change Cx.R _ _ _ _ _)) | (intro _; intro _; (with_unfolding_all change Cx.R _ _ _ _ _)))) | ((with_reducible refine' l_plain fun _ => ?_); (with_unfolding_all change Cx.R _ _ _ _ _)) | ((with_reducible refine' s_assign ?_ ?kx_86 ?ks_86); (case kx_86 => exact rfl); (case ks_86 => exact rfl); intro ka) | ((with_reducible refine s_go ?_); (try clear ka); intro _) | (with_reducible refine s_return ?_) | ((with_reducible refine s_if ?_); intro kc) | (with_reducible refine s_skip ?_) | (with_reducible refine on_next ?_) | (with_reducible refine on_ret ?_) | ((with_reducible refine at_true ?_); (try clear kc)) | ((with_reducible refine at_false ?_); (try clear kc)) | ((with_reducible refine at_true' ?_); (try clear kc)) | ((with_reducible refine at_false' ?_); (try clear kc)) | (with_reducible refine e_int fun _ => ?_) | (with_reducible refine e_str fun _ => ?_) | (with_reducible refine e_bin ?_) | (with_reducible refine t_or ?_) | (with_reducible refine t_or_nil ?_) | (with_reducible refine t_not ?_) | (with_reducible refine v_add fun _ => ?_) | (with_reducible refine b_lt (fun _ => ?_) (fun _ => ?_)) | (with_reducible refine b_neS (fun _ => ?_) (fun _ => ?_)) | (with_reducible refine l_nil ?_) | ((with_reducible refine' e_local ?kv_86 ?_); (case kv_86 => exact rfl)) | ((with_reducible refine' e_call ?kf_86 ?kv_86 ?kx_86 ?kb_86 ?ke_86 ?kp_86 ?_); (case kf_86 => k_is); (case kv_86 => k_is); (case kx_86 => exact rfl); (case kb_86 => exact rfl); (case ke_86 => exact rfl); (case kp_86 => exact rfl); intro kb) | ((with_reducible refine' t_cmp ?_ ?km_86); (case km_86 => exact rfl)) | ((with_reducible refine' l_cons ?_ ?ke_86); (case ke_86 => exact rfl)) | ((with_reducible refine' e_from ?kv_86 ?kz_86 ?_); (case kv_86 => exact rfl); (case kz_86 => (rw [sizeLine_eq]; omega))) | (with_reducible refine e_sub ?_) | ((with_reducible refine' v_mul ?km_86 fun _ => ?_); (case km_86 => first | (with_reducible assumption) | (with_reducible exact mul8 (by with_reducible assumption)) | (with_reducible exact mul100 (by with_reducible assumption)) | mul_fits)) | ((with_reducible refine' v_item ?k0_86 ?k1_86 ?k2_86 (fun _ => ?_) ?kd_86 ?ke_86); (case kd_86 => with_unfolding_all rfl); (case ke_86 => (intro _; with_unfolding_all rfl)); (case k0_86 => first | (with_reducible assumption) | decide | assumption); (case k1_86 => first | omega | exact Int.lt_of_lt_of_le (by with_reducible assumption) (by decide)); (case k2_86 => first | omega | decide)) | ((with_reducible refine' e_builtin1 ?kf_86 ?kx_86 ?kb_86 ?kv_86 ?kn_86 ?_ ?kh_86); (case kf_86 => k_is); (case kx_86 => exact rfl); (case kb_86 => exact rfl); (case kv_86 => boot_fast); (case kn_86 => decide); (case kh_86 => exact rfl)) | (with_reducible refine ⟨_, _, rfl, ?_⟩) | ((with_reducible refine' r_k ?kc_86 ?kr_86 ?_); (case kc_86 => first | exact k_letter _ _ _ _ _ | (refine' k_iccf_of _ _ _ _ _ _ _ ?xa_86 ?xb_86; (case xa_86 => omega); (case xb_86 => omega)) | (refine' k_number _ _ _ _ _ _ _ _ _ _ _ _ ?x0_86 ?xU_86 ?xc_86 ?xK_86 ?xD_86; (case xK_86 => assumption); (case xD_86 => assumption); (case xU_86 => k_updF); (case xc_86 => k_mem); (case x0_86 => first | decide | omega))); (case kr_86 => decide)) | ((with_reducible refine' s_pair ?_ ?k1_86 ?k2_86 ?ks_86 ?kw_86); (case k1_86 => exact rfl); (case k2_86 => exact rfl); (case ks_86 => exact rfl); (case kw_86 => exact rfl)) | ((with_reducible refine' e_cell ?kx_86 ?kb_86 ?kc_86 ?km_86 ?kd_86 ?_); (case kx_86 => exact rfl); (case kb_86 => exact rfl); (case kc_86 => assumption); (case km_86 => k_mem); (case kd_86 => assumption)) | ((with_reducible refine' x_cell ?kc_86 ?km_86 ?kd_86 ?_ ?kk_86 ?kx_86 ?kb_86); (case kx_86 => exact rfl); (case kk_86 => exact rfl); (case kb_86 => exact rfl); (case kc_86 => exact rfl); (case km_86 => k_mem); (case kd_86 => assumption)) | ((with_reducible refine' x_own ?km_86 ?ko_86 ?kv_86 ?_ ?kk_86 ?kl_86 ?kb_86); (case kl_86 => exact rfl); (case kk_86 => exact rfl); (case kb_86 => exact rfl); (case ko_86 => assumption); (case kv_86 => assumption); (case km_86 => k_mem)) | ((with_reducible refine' x_call ?kf_86 ?kv_86 ?kx_86 ?kg_86 ?kk_86 ?kb_86 ?ke_86 ?kp_86 ?_); (case kf_86 => k_is); (case kv_86 => k_is); (case kx_86 => exact rfl); (case kg_86 => exact rfl); (case kk_86 => exact rfl); (case kb_86 => exact rfl); (case ke_86 => exact rfl); (case kp_86 => exact rfl)) | ((with_reducible refine' v_tupItem ?km_86 ?k0_86 ?k1_86 ?kx_86 ?_ ?kd_86); (case kd_86 => with_unfolding_all rfl); (case km_86 => k_mem); (case k0_86 => decide); (case k1_86 => decide); (case kx_86 => exact rfl)) | ((with_reducible refine' v_rowAt ?km_86 ?kr_86 ?k0_86 ?k1_86 ?kz_86 (fun _ _ _ _ _ _ => ?_) ?kd_86); (case kd_86 => with_unfolding_all rfl); (case km_86 => k_mem); (case kr_86 => assumption); (case k0_86 => assumption); (case k1_86 => first | assumption | omega); (case kz_86 => assumption)) | ((with_reducible refine' e_join ?_ ?km_86 ?ke_86); (case km_86 => exact rfl); (case ke_86 => exact rfl)) | ((with_reducible refine' v_lenL ?km_86 ?kz_86 (fun _ => ?_)); (case km_86 => k_mem); (case kz_86 => assumption)) | ((with_reducible refine' s_unpack2 ?_ ?k1_86 ?k2_86 ?ks_86 ?kw_86); (case k1_86 => exact rfl); (case k2_86 => exact rfl); (case ks_86 => exact rfl); (case kw_86 => exact rfl)) | ((with_reducible refine' v_itemI ?km_86 ?ki_86 ?k0_86 ?k1_86 ?k2_86 (fun _ => ?_) ?kd_86); (case kd_86 => with_unfolding_all rfl); (case km_86 => k_mem); (case ki_86 => assumption); (case k0_86 => assumption); (case k1_86 => assumption); (case k2_86 => assumption)) | ((with_reducible refine' b_same3 ?km_86 ?kn_86 ?kr_86 ?_); (case km_86 => k_mem); (case kn_86 => k_mem); (case kr_86 => decide)) | (with_reducible refine e_bool ?_) | (with_reducible refine t_call ?_) | (with_reducible refine ⟨_, rfl, ?_⟩) | (with_reducible refine e_tuple ?_) | ((with_reducible refine' v_tuple ?kz_86 fun _ _ => ?_); (case kz_86 => exact Nat.le_of_ble_eq_true rfl)) | (with_reducible refine e_list ?_) | ((with_reducible refine' v_list ?kz_86 fun _ _ => ?_); (case kz_86 => exact Nat.le_of_ble_eq_true rfl)) | fail))
    refine r_conS0 (right _ _ _ (fun p hp => .tail _ hp) hy9) (by decide) hO hB ?_
    rintro _ _ ⟨rfl, rfl⟩
    (repeat' (first | with_reducible intro _ | ((with_reducible refine' e_callP ?kf_87 ?kv_87 ?kx_87 ?kb_87 ?ke_87 ?kp_87 fun _ => ?_); (case kf_87 => k_is); (case kv_87 => k_is); (case kx_87 => exact rfl); (case kb_87 => exact rfl); (case ke_87 => exact rfl); (case kp_87 => exact rfl); (with_unfolding_all change Cx.R _ _ _ _ _)) | ((with_reducible refine' t_cmpP ?_ ?km_87); (case km_87 => exact rfl); (first | (with_unfolding_all change Cx.R _ _ _ _ _) | (intro _; (with_unfolding_all change Cx.R _ _ _ _ _)) | (intro _; intro _; (with_unfolding_all change Cx.R _ _ _ _ _)))) | ((with_reducible refine e_binP ?_); (first | (with_unfolding_all change Cx.R _ _ _ _ _) | (intro _; (with_unfolding_all change Cx.R _ _ _ _ _)) | (intro _; intro _; (with_unfolding_all change Cx.R _ _ _ _ _)))) | ((with_reducible refine e_subP ?_); (first | (with_unfolding_all change Cx.R _ _ _ _ _) | (intro _; (with_unfolding_all change Cx.R _ _ _ _ _)) | (intro _; intro _; (with_unfolding_all change Cx.R _ _ _ _ _)))) | ((with_reducible refine' l_plain fun _ => ?_); (with_unfolding_all change Cx.R _ _ _ _ _)) | ((with_reducible refine' s_assign ?_ ?kx_87 ?ks_87); (case kx_87 => exact rfl); (case ks_87 => exact rfl); intro ka) | ((with_reducible refine s_go ?_); (try clear ka); intro _) | (with_reducible refine s_return ?_) | ((with_reducible refine s_if ?_); intro kc) | (with_reducible refine s_skip ?_) | (with_reducible refine on_next ?_) | (with_reducible refine on_ret ?_) | ((with_reducible refine at_true ?_); (try clear kc)) | ((with_reducible refine at_false ?_); (try clear kc)) | ((with_reducible refine at_true' ?_); (try clear kc)) | ((with_reducible refine at_false' ?_); (try clear kc)) | (with_reducible refine e_int fun _ => ?_) | (with_reducible refine e_str fun _ => ?_) | (with_reducible refine e_bin ?_) | (with_reducible refine t_or ?_) | (with_reducible refine t_or_nil ?_) | (with_reducible refine t_not ?_) | (with_reducible refine v_add fun _ => ?_) | (with_reducible refine b_lt (fun _ => ?_) (fun _ => ?_)) | (with_reducible refine b_neS (fun _ => ?_) (fun _ => ?_)) | (with_reducible refine l_nil ?_) | ((with_reducible refine' e_local ?kv_87 ?_); (case kv_87 => exact rfl)) | ((with_reducible refine' e_call ?kf_87 ?kv_87 ?kx_87 ?kb_87 ?ke_87 ?kp_87 ?_); (case kf_87 => k_is); (case kv_87 => k_is); (case kx_87 => exact rfl); (case kb_87 => exact rfl); (case ke_87 => exact rfl); (case kp_87 => exact rfl); intro kb) | ((with_reducible refine' t_cmp ?_ ?km_87); (case km_87 => exact rfl)) | ((with_reducible refine' l_cons ?_ ?ke_87); (case ke_87 => exact rfl)) | ((with_reducible refine' e_from ?kv_87 ?kz_87 ?_); (case kv_87 => exact rfl); (case kz_87 => (rw [sizeLine_eq]; omega))) | (with_reducible refine e_sub ?_) | ((with_reducible refine' v_mul ?km_87 fun _ => ?_); (case km_87 => first | (with_reducible assumption) | (with_reducible exact mul8 (by with_reducible assumption)) | (with_reducible exact mul100 (by with_reducible assumption)) | mul_fits)) | ((with_reducible refine' v_item ?k0_87 ?k1_87 ?k2_87 (fun _ => ?_) ?kd_87 ?ke_87); (case kd_87 => with_unfolding_all rfl); (case ke_87 => (intro _; with_unfolding_all rfl)); (case k0_87 => first | (with_reducible assumption) | decide | assumption); (case k1_87 => first | omega | exact Int.lt_of_lt_of_le (by with_reducible assumption) (by decide)); (case k2_87 => first | omega | decide)) | ((with_reducible refine' e_builtin1 ?kf_87 ?kx_87 ?kb_87 ?kv_87 ?kn_87 ?_ ?kh_87); (case kf_87 => k_is); (case kx_87 => exact rfl); (case kb_87 => exact rfl); (case kv_87 => boot_fast); (case kn_87 => decide); (case kh_87 => exact rfl)) | (with_reducible refine ⟨_, _, rfl, ?_⟩) | ((with_reducible refine' r_k ?kc_87 ?kr_87 ?_); (case kc_87 => first | exact k_letter _ _ _ _ _ | (refine' k_iccf_of _ _ _ _ _ _ _ ?xa_87 ?xb_87; (case xa_87 => omega); (case xb_87 => omega)) | (refine' k_number _ _ _ _ _ _ _ _ _ _ _ _ ?x0_87 ?xU_87 ?xc_87 ?xK_87 ?xD_87; (case xK_87 => assumption); (case xD_87 => assumption); (case xU_87 => k_updF); (case xc_87 => k_mem); (case x0_87 => first | decide | omega))); (case kr_87 => decide)) | ((with_reducible refine' s_pair ?_ ?k1_87 ?k2_87 ?ks_87 ?kw_87); (case k1_87 => exact rfl); (case k2_87 => exact rfl); (case ks_87 => exact rfl); (case kw_87 => exact rfl)) | ((with_reducible refine' e_cell ?kx_87 ?kb_87 ?kc_87 ?km_87 ?kd_87 ?_); (case kx_87 => exact rfl); (case kb_87 => exact rfl); (case kc_87 => assumption); (case km_87 => k_mem); (case kd_87 => assumption)) | ((with_reducible refine' x_cell ?kc_87 ?km_87 ?kd_87 ?_ ?kk_87 ?kx_87 ?kb_87); (case kx_87 => exact rfl); (case kk_87 => exact rfl); (case kb_87 => exact rfl); (case kc_87 => exact rfl); (case km_87 => k_mem); (case kd_87 => assumption)) | ((with_reducible refine' x_own ?km_87 ?ko_87 ?kv_87 ?_ ?kk_87 ?kl_87 ?kb_87); (case kl_87 => exact rfl); (case kk_87 => exact rfl); (case kb_87 => exact rfl); (case ko_87 => assumption); (case kv_87 => assumption); (case km_87 => k_mem)) | ((with_reducible refine' x_call ?kf_87 ?kv_87 ?kx_87 ?kg_87 ?kk_87 ?kb_87 ?ke_87 ?kp_87 ?_); (case kf_87 => k_is); (case kv_87 => k_is); (case kx_87 => exact rfl); (case kg_87 => exact rfl); (case kk_87 => exact rfl); (case kb_87 => exact rfl); (case ke_87 => exact rfl); (case kp_87 => exact rfl)) | ((with_reducible refine' v_tupItem ?km_87 ?k0_87 ?k1_87 ?kx_87 ?_ ?kd_87); (case kd_87 => with_unfolding_all rfl); (case km_87 => k_mem); (case k0_87 => decide); (case k1_87 => decide); (case kx_87 => exact rfl)) | ((with_reducible refine' v_rowAt ?km_87 ?kr_87 ?k0_87 ?k1_87 ?kz_87 (fun _ _ _ _ _ _ => ?_) ?kd_87); (case kd_87 => with_unfolding_all rfl); (case km_87 => k_mem); (case kr_87 => assumption); (case k0_87 => assumption); (case k1_87 => first | assumption | omega); (case kz_87 => assumption)) | ((with_reducible refine' e_join ?_ ?km_87 ?ke_87); (case km_87 => exact rfl); (case ke_87 => exact rfl)) | ((with_reducible refine' v_lenL ?km_87 ?kz_87 (fun _ => ?_)); (case km_87 => k_mem); (case kz_87 => assumption)) | ((with_reducible refine' s_unpack2 ?_ ?k1_87 ?k2_87 ?ks_87 ?kw_87); (case k1_87 => exact rfl); (case k2_87 => exact rfl); (case ks_87 => exact rfl); (case kw_87 => exact rfl)) | ((with_reducible refine' v_itemI ?km_87 ?ki_87 ?k0_87 ?k1_87 ?k2_87 (fun _ => ?_) ?kd_87); (case kd_87 => with_unfolding_all rfl); (case km_87 => k_mem); (case ki_87 => assumption); (case k0_87 => assumption); (case k1_87 => assumption); (case k2_87 => assumption)) | ((with_reducible refine' b_same3 ?km_87 ?kn_87 ?kr_87 ?_); (case km_87 => k_mem); (case kn_87 => k_mem); (case kr_87 => decide)) | (with_reducible refine e_bool ?_) | (with_reducible refine t_call ?_) | (with_reducible refine ⟨_, rfl, ?_⟩) | (with_reducible refine e_tuple ?_) | ((with_reducible refine' v_tuple ?kz_87 fun _ _ => ?_); (case kz_87 => exact Nat.le_of_ble_eq_true rfl)) | (with_reducible refine e_list ?_) | ((with_reducible refine' v_list ?kz_87 fun _ _ => ?_); (case kz_87 => exact Nat.le_of_ble_eq_true rfl)) | fail))
    refine s_seq (forR1 (σ := Unit) (fun _ => []) [Str.ofString "one", Str.ofString "other"] rfl ?kf ?kb rfl (fun _ => rfl) rfl ?_)
    (case kf => k_is)
    (case kb => boot_fast)
    (repeat' (first | with_reducible intro _ | ((with_reducible refine' e_callP ?kf_88 ?kv_88 ?kx_88 ?kb_88 ?ke_88 ?kp_88 fun _ => ?_); (case kf_88 => k_is); (case kv_88 => k_is); (case kx_88 => exact rfl); (case kb_88 => exact rfl); (case ke_88 => exact rfl); (case kp_88 => exact rfl); (with_unfolding_all change Cx.R _ _ _ _ _)) | ((with_reducible refine' t_cmpP ?_ ?km_88); (case km_88 => exact rfl); (first | (with_unfolding_all change Cx.R _ _ _ _ _) | (intro _; (with_unfolding_all change Cx.R _ _ _ _ _)) | (intro _; intro _; (with_unfolding_all change Cx.R _ _ _ _ _)))) | ((with_reducible refine e_binP ?_); (first | (with_unfolding_all change Cx.R _ _ _ _ _) | (intro _; (with_unfolding_all change Cx.R _ _ _ _ _)) | (intro _; intro _; (with_unfolding_all change Cx.R _ _ _ _ _)))) | ((with_reducible refine e_subP ?_); (first | (with_unfolding_all change Cx.R _ _ _ _ _) | (intro _; (with_unfolding_all change Cx.R _ _ _ _ _)) | (intro _; intro _; (with_unfolding_all change Cx.R _ _ _ _ _)))) | ((with_reducible refine' l_plain fun _ => ?_); (with_unfolding_all change Cx.R _ _ _ _ _)) | ((with_reducible refine' s_assign ?_ ?kx_88 ?ks_88); (case kx_88 => exact rfl); (case ks_88 => exact rfl); intro ka) | ((with_reducible refine s_go ?_); (try clear ka); intro _) | (with_reducible refine s_return ?_) | ((with_reducible refine s_if ?_); intro kc) | (with_reducible refine s_skip ?_) | (with_reducible refine on_next ?_) | (with_reducible refine on_ret ?_) | ((with_reducible refine at_true ?_); (try clear kc)) | ((with_reducible refine at_false ?_); (try clear kc)) | ((with_reducible refine at_true' ?_); (try clear kc)) | ((with_reducible refine at_false' ?_); (try clear kc)) | (with_reducible refine e_int fun _ => ?_) | (with_reducible refine e_str fun _ => ?_) | (with_reducible refine e_bin ?_) | (with_reducible refine t_or ?_) | (with_reducible refine t_or_nil ?_) | (with_reducible refine t_not ?_) | (with_reducible refine v_add fun _ => ?_) | (with_reducible refine b_lt (fun _ => ?_) (fun _ => ?_)) | (with_reducible refine b_neS (fun _ => ?_) (fun _ => ?_)) | (with_reducible refine l_nil ?_) | ((with_reducible refine' e_local ?kv_88 ?_); (case kv_88 => exact rfl)) | ((with_reducible refine' e_call ?kf_88 ?kv_88 ?kx_88 ?kb_88 ?ke_88 ?kp_88 ?_); (case kf_88 => k_is); (case kv_88 => k_is); (case kx_88 => exact rfl); (case kb_88 => exact rfl); (case ke_88 => exact rfl); (case kp_88 => exact rfl); intro kb) | ((with_reducible refine' t_cmp ?_ ?km_88); (case km_88 => exact rfl)) | ((with_reducible refine' l_cons ?_ ?ke_88); (case ke_88 => exact rfl)) | ((with_reducible refine' e_from ?kv_88 ?kz_88 ?_); (case kv_88 => exact rfl); (case kz_88 => (rw [sizeLine_eq]; omega))) | (with_reducible refine e_sub ?_) | ((with_reducible refine' v_mul ?km_88 fun _ => ?_); (case km_88 => first | (with_reducible assumption) | (with_reducible exact mul8 (by with_reducible assumption)) | (with_reducible exact mul100 (by with_reducible assumption)) | mul_fits)) | ((with_reducible refine' v_item ?k0_88 ?k1_88 ?k2_88 (fun _ => ?_) ?kd_88 ?ke_88); (case kd_88 => with_unfolding_all rfl); (case ke_88 => (intro _; with_unfolding_all rfl)); (case k0_88 => first | (with_reducible assumption) | decide | assumption); (case k1_88 => first | omega | exact Int.lt_of_lt_of_le (by with_reducible assumption) (by decide)); (case k2_88 => first | omega | decide)) | ((with_reducible refine' e_builtin1 ?kf_88 ?kx_88 ?kb_88 ?kv_88 ?kn_88 ?_ ?kh_88); (case kf_88 => k_is); (case kx_88 => exact rfl); (case kb_88 => exact rfl); (case kv_88 => boot_fast); (case kn_88 => decide); (case kh_88 => exact rfl)) | (with_reducible refine ⟨_, _, rfl, ?_⟩) | ((with_reducible refine' r_k ?kc_88 ?kr_88 ?_); (case kc_88 => first | exact k_letter _ _ _ _ _ | (refine' k_iccf_of _ _ _ _ _ _ _ ?xa_88 ?xb_88; (case xa_88 => omega); (case xb_88 => omega)) | (refine' k_number _ _ _ _ _ _ _ _ _ _ _ _ ?x0_88 ?xU_88 ?xc_88 ?xK_88 ?xD_88; (case xK_88 => assumption); (case xD_88 => assumption); (case xU_88 => k_updF); (case xc_88 => k_mem); (case x0_88 => first | decide | omega))); (case kr_88 => decide)) | ((with_reducible refine' s_pair ?_ ?k1_88 ?k2_88 ?ks_88 ?kw_88); (case k1_88 => exact rfl); (case k2_88 => exact rfl); (case ks_88 => exact rfl); (case kw_88 => exact rfl)) | ((with_reducible refine' e_cell ?kx_88 ?kb_88 ?kc_88 ?km_88 ?kd_88 ?_); (case kx_88 => exact rfl); (case kb_88 => exact rfl); (case kc_88 => assumption); (case km_88 => k_mem); (case kd_88 => assumption)) | ((with_reducible refine' x_cell ?kc_88 ?km_88 ?kd_88 ?_ ?kk_88 ?kx_88 ?kb_88); (case kx_88 => exact rfl); (case kk_88 => exact rfl); (case kb_88 => exact rfl); (case kc_88 => exact rfl); (case km_88 => k_mem); (case kd_88 => assumption)) | ((with_reducible refine' x_own ?km_88 ?ko_88 ?kv_88 ?_ ?kk_88 ?kl_88 ?kb_88); (case kl_88 => exact rfl); (case kk_88 => exact rfl); (case kb_88 => exact rfl); (case ko_88 => assumption); (case kv_88 => assumption); (case km_88 => k_mem)) | ((with_reducible refine' x_call ?kf_88 ?kv_88 ?kx_88 ?kg_88 ?kk_88 ?kb_88 ?ke_88 ?kp_88 ?_); (case kf_88 => k_is); (case kv_88 => k_is); (case kx_88 => exact rfl); (case kg_88 => exact rfl); (case kk_88 => exact rfl); (case kb_88 => exact rfl); (case ke_88 => exact rfl); (case kp_88 => exact rfl)) | ((with_reducible refine' v_tupItem ?km_88 ?k0_88 ?k1_88 ?kx_88 ?_ ?kd_88); (case kd_88 => with_unfolding_all rfl); (case km_88 => k_mem); (case k0_88 => decide); (case k1_88 => decide); (case kx_88 => exact rfl)) | ((with_reducible refine' v_rowAt ?km_88 ?kr_88 ?k0_88 ?k1_88 ?kz_88 (fun _ _ _ _ _ _ => ?_) ?kd_88); (case kd_88 => with_unfolding_all rfl); (case km_88 => k_mem); (case kr_88 => assumption); (case k0_88 => assumption); (case k1_88 => first | assumption | omega); (case kz_88 => assumption)) | ((with_reducible refine' e_join ?_ ?km_88 ?ke_88); (case km_88 => exact rfl); (case ke_88 => exact rfl)) | ((with_reducible refine' v_lenL ?km_88 ?kz_88 (fun _ => ?_)); (case km_88 => k_mem); (case kz_88 => assumption)) | ((with_reducible refine' s_unpack2 ?_ ?k1_88 ?k2_88 ?ks_88 ?kw_88); (case k1_88 => exact rfl); (case k2_88 => exact rfl); (case ks_88 => exact rfl); (case kw_88 => exact rfl)) | ((with_reducible refine' v_itemI ?km_88 ?ki_88 ?k0_88 ?k1_88 ?k2_88 (fun _ => ?_) ?kd_88); (case kd_88 => with_unfolding_all rfl); (case km_88 => k_mem); (case ki_88 => assumption); (case k0_88 => assumption); (case k1_88 => assumption); (case k2_88 => assumption)) | ((with_reducible refine' b_same3 ?km_88 ?kn_88 ?kr_88 ?_); (case km_88 => k_mem); (case kn_88 => k_mem); (case kr_88 => decide)) | (with_reducible refine e_bool ?_) | (with_reducible refine t_call ?_) | (with_reducible refine ⟨_, rfl, ?_⟩) | (with_reducible refine e_tuple ?_) | ((with_reducible refine' v_tuple ?kz_88 fun _ _ => ?_); (case kz_88 => exact Nat.le_of_ble_eq_true rfl)) | (with_reducible refine e_list ?_) | ((with_reducible refine' v_list ?kz_88 fun _ _ => ?_); (case kz_88 => exact Nat.le_of_ble_eq_true rfl)) | fail))
    refine ⟨rvs.length, _, _, fun _ => (dd, o5) :: R, fun _ _ => True, (), rfl, rfl, hl1 ▸ hl2, rfl, (fun _ hp => nomatch hp), trivial, ?_, ?_⟩
    · rintro c i ti u8 own hi9 hoff -
      dsimp -zeta only [within, kstB]
      intro m9
      have mq : ∀ p ∈ R, p ∈ (dd, o5) :: R ++ own := fun p hp => .tail _ (List.mem_append_left _ hp)
      have i0 : (0 : Int) ≤ 0 + (i : Int) := Int.add_nonneg (Int.le_refl 0) (Int.natCast_nonneg i)
      have i1 : (0 : Int) + (i : Int) < rs.length := (Int.zero_add (i : Int)).symm ▸ Int.ofNat_lt.mpr (hl1 ▸ hi9)
      have i2 : (0 : Int) + (i : Int) < (rs.map pk).length := by rw [List.length_map]; exact i1
      have i3 : (rs.map pk).length < 2 ^ 62 := by rw [List.length_map]; exact Nat.lt_trans hrs1 (by decide)
      have hgd := good_at hgood i0 i1
      refine s_letQ ?_
      intro Q9
      (repeat' (first | with_reducible intro _ | ((with_reducible refine' e_callP ?kf_89 ?kv_89 ?kx_89 ?kb_89 ?ke_89 ?kp_89 fun _ => ?_); (case kf_89 => k_is); (case kv_89 => k_is); (case kx_89 => exact rfl); (case kb_89 => exact rfl); (case ke_89 => exact rfl); (case kp_89 => exact rfl); (with_unfolding_all change Cx.R _ _ _ _ _)) | ((with_reducible refine' t_cmpP ?_ ?km_89); (case km_89 => exact rfl); (first | (with_unfolding_all change Cx.R _ _ _ _ _) | (intro _; (with_unfolding_all change Cx.R _ _ _ _ _)) | (intro _; intro _; (with_unfolding_all change Cx.R _ _ _ _ _)))) | ((with_reducible refine e_binP ?_); (first | (with_unfolding_all change Cx.R _ _ _ _ _) | (intro _; (with_unfolding_all change Cx.R _ _ _ _ _)) | (intro _; intro _; (with_unfolding_all change Cx.R _ _ _ _ _)))) | ((with_reducible refine e_subP ?_); (first | (with_unfolding_all change Cx.R _ _ _ _ _) | (intro _; (with_unfolding_all change Cx.R _ _ _ _ _)) | (intro _; intro _; (with_unfolding_all change Cx.R _ _ _ _ _)))) | ((with_reducible refine' l_plain fun _ => ?_); (with_unfolding_all change Cx.R _ _ _ _ _)) | ((with_reducible refine' s_assign ?_ ?kx_89 ?ks_89); (case kx_89 => exact rfl); (case ks_89 => exact rfl); intro ka) | ((with_reducible refine s_go ?_); (try clear ka); intro _) | (with_reducible refine s_return ?_) | ((with_reducible refine s_if ?_); intro kc) | (with_reducible refine s_skip ?_) | (with_reducible refine on_next ?_) | (with_reducible refine on_ret ?_) | ((with_reducible refine at_true ?_); (try clear kc)) | ((with_reducible refine at_false ?_); (try clear kc)) | ((with_reducible refine at_true' ?_); (try clear kc)) | ((with_reducible refine at_false' ?_); (try clear kc)) | (with_reducible refine e_int fun _ => ?_) | (with_reducible refine e_str fun _ => ?_) | (with_reducible refine e_bin ?_) | (with_reducible refine t_or ?_) | (with_reducible refine t_or_nil ?_) | (with_reducible refine t_not ?_) | (with_reducible refine v_add fun _ => ?_) | (with_reducible refine b_lt (fun _ => ?_) (fun _ => ?_)) | (with_reducible refine b_neS (fun _ => ?_) (fun _ => ?_)) | (with_reducible refine l_nil ?_) | ((with_reducible refine' e_local ?kv_89 ?_); (case kv_89 => exact rfl)) | ((with_reducible refine' e_call ?kf_89 ?kv_89 ?kx_89 ?kb_89 ?ke_89 ?kp_89 ?_); (case kf_89 => k_is); (case kv_89 => k_is); (case kx_89 => exact rfl); (case kb_89 => exact rfl); (case ke_89 => exact rfl); (case kp_89 => exact rfl); intro kb) | ((with_reducible refine' t_cmp ?_ ?km_89); (case km_89 => exact rfl)) | ((with_reducible refine' l_cons ?_ ?ke_89); (case ke_89 => exact rfl)) | ((with_reducible refine' e_from ?kv_89 ?kz_89 ?_); (case kv_89 => exact rfl); (case kz_89 => (rw [sizeLine_eq]; omega))) | (with_reducible refine e_sub ?_) | ((with_reducible refine' v_mul ?km_89 fun _ => ?_); (case km_89 => first | (with_reducible assumption) | (with_reducible exact mul8 (by with_reducible assumption)) | (with_reducible exact mul100 (by with_reducible assumption)) | mul_fits)) | ((with_reducible refine' v_item ?k0_89 ?k1_89 ?k2_89 (fun _ => ?_) ?kd_89 ?ke_89); (case kd_89 => with_unfolding_all rfl); (case ke_89 => (intro _; with_unfolding_all rfl)); (case k0_89 => first | (with_reducible assumption) | decide | assumption); (case k1_89 => first | omega | exact Int.lt_of_lt_of_le (by with_reducible assumption) (by decide)); (case k2_89 => first | omega | decide)) | ((with_reducible refine' e_builtin1 ?kf_89 ?kx_89 ?kb_89 ?kv_89 ?kn_89 ?_ ?kh_89); (case kf_89 => k_is); (case kx_89 => exact rfl); (case kb_89 => exact rfl); (case kv_89 => boot_fast); (case kn_89 => decide); (case kh_89 => exact rfl)) | (with_reducible refine ⟨_, _, rfl, ?_⟩) | ((with_reducible refine' r_k ?kc_89 ?kr_89 ?_); (case kc_89 => first | exact k_letter _ _ _ _ _ | (refine' k_iccf_of _ _ _ _ _ _ _ ?xa_89 ?xb_89; (case xa_89 => omega); (case xb_89 => omega)) | (refine' k_number _ _ _ _ _ _ _ _ _ _ _ _ ?x0_89 ?xU_89 ?xc_89 ?xK_89 ?xD_89; (case xK_89 => assumption); (case xD_89 => assumption); (case xU_89 => k_updF); (case xc_89 => k_mem); (case x0_89 => first | decide | omega))); (case kr_89 => decide)) | ((with_reducible refine' s_pair ?_ ?k1_89 ?k2_89 ?ks_89 ?kw_89); (case k1_89 => exact rfl); (case k2_89 => exact rfl); (case ks_89 => exact rfl); (case kw_89 => exact rfl)) | ((with_reducible refine' e_cell ?kx_89 ?kb_89 ?kc_89 ?km_89 ?kd_89 ?_); (case kx_89 => exact rfl); (case kb_89 => exact rfl); (case kc_89 => assumption); (case km_89 => k_mem); (case kd_89 => assumption)) | ((with_reducible refine' x_cell ?kc_89 ?km_89 ?kd_89 ?_ ?kk_89 ?kx_89 ?kb_89); (case kx_89 => exact rfl); (case kk_89 => exact rfl); (case kb_89 => exact rfl); (case kc_89 => exact rfl); (case km_89 => k_mem); (case kd_89 => assumption)) | ((with_reducible refine' x_own ?km_89 ?ko_89 ?kv_89 ?_ ?kk_89 ?kl_89 ?kb_89); (case kl_89 => exact rfl); (case kk_89 => exact rfl); (case kb_89 => exact rfl); (case ko_89 => assumption); (case kv_89 => assumption); (case km_89 => k_mem)) | ((with_reducible refine' x_call ?kf_89 ?kv_89 ?kx_89 ?kg_89 ?kk_89 ?kb_89 ?ke_89 ?kp_89 ?_); (case kf_89 => k_is); (case kv_89 => k_is); (case kx_89 => exact rfl); (case kg_89 => exact rfl); (case kk_89 => exact rfl); (case kb_89 => exact rfl); (case ke_89 => exact rfl); (case kp_89 => exact rfl)) | ((with_reducible refine' v_tupItem ?km_89 ?k0_89 ?k1_89 ?kx_89 ?_ ?kd_89); (case kd_89 => with_unfolding_all rfl); (case km_89 => k_mem); (case k0_89 => decide); (case k1_89 => decide); (case kx_89 => exact rfl)) | ((with_reducible refine' v_rowAt ?km_89 ?kr_89 ?k0_89 ?k1_89 ?kz_89 (fun _ _ _ _ _ _ => ?_) ?kd_89); (case kd_89 => with_unfolding_all rfl); (case km_89 => k_mem); (case kr_89 => assumption); (case k0_89 => assumption); (case k1_89 => first | assumption | omega); (case kz_89 => assumption)) | ((with_reducible refine' e_join ?_ ?km_89 ?ke_89); (case km_89 => exact rfl); (case ke_89 => exact rfl)) | ((with_reducible refine' v_lenL ?km_89 ?kz_89 (fun _ => ?_)); (case km_89 => k_mem); (case kz_89 => assumption)) | ((with_reducible refine' s_unpack2 ?_ ?k1_89 ?k2_89 ?ks_89 ?kw_89); (case k1_89 => exact rfl); (case k2_89 => exact rfl); (case ks_89 => exact rfl); (case kw_89 => exact rfl)) | ((with_reducible refine' v_itemI ?km_89 ?ki_89 ?k0_89 ?k1_89 ?k2_89 (fun _ => ?_) ?kd_89); (case kd_89 => with_unfolding_all rfl); (case km_89 => k_mem); (case ki_89 => assumption); (case k0_89 => assumption); (case k1_89 => assumption); (case k2_89 => assumption)) | ((with_reducible refine' b_same3 ?km_89 ?kn_89 ?kr_89 ?_); (case km_89 => k_mem); (case kn_89 => k_mem); (case kr_89 => decide)) | (with_reducible refine e_bool ?_) | (with_reducible refine t_call ?_) | (with_reducible refine ⟨_, rfl, ?_⟩) | (with_reducible refine e_tuple ?_) | ((with_reducible refine' v_tuple ?kz_89 fun _ _ => ?_); (case kz_89 => exact Nat.le_of_ble_eq_true rfl)) | (with_reducible refine e_list ?_) | ((with_reducible refine' v_list ?kz_89 fun _ _ => ?_); (case kz_89 => exact Nat.le_of_ble_eq_true rfl)) | fail))
      rename_i a c1 c2 c3 c4 ha _ _ _
      refine r_k (k_toldL _ _ _ _ _ _ _ _ _ _ _ _ _ _ _ hff hrr hgd (mq _ ha) (mq _ mla) (mq _ mga) TL TG) (by decide) ?_
      intro T v1 v2 ly1 ly2
      have q1 : letterOf (rowAt rs (0 + (i : Int))).2.2.2 = Txt.slice (oneOf (2 + kf).toNat (rowAt rs (0 + (i : Int)))) (some 4) none := one_end hgd
      have q2 : iccfOf (2 + kf) ((rs.map pk).getD (0 + (i : Int)).toNat 0) = otherOf (2 + kf).toNat (rowAt rs (0 + (i : Int))) := by
        rw [pk_at i0 i1]
        exact other_isI hff hrr hgd
      refine ⟨T, _, _, rfl, .head _, ?_⟩
      intro m10 m11
      (repeat' (first | with_reducible intro _ | ((with_reducible refine' e_callP ?kf_90 ?kv_90 ?kx_90 ?kb_90 ?ke_90 ?kp_90 fun _ => ?_); (case kf_90 => k_is); (case kv_90 => k_is); (case kx_90 => exact rfl); (case kb_90 => exact rfl); (case ke_90 => exact rfl); (case kp_90 => exact rfl); (with_unfolding_all change Cx.R _ _ _ _ _)) | ((with_reducible refine' t_cmpP ?_ ?km_90); (case km_90 => exact rfl); (first | (with_unfolding_all change Cx.R _ _ _ _ _) | (intro _; (with_unfolding_all change Cx.R _ _ _ _ _)) | (intro _; intro _; (with_unfolding_all change Cx.R _ _ _ _ _)))) | ((with_reducible refine e_binP ?_); (first | (with_unfolding_all change Cx.R _ _ _ _ _) | (intro _; (with_unfolding_all change Cx.R _ _ _ _ _)) | (intro _; intro _; (with_unfolding_all change Cx.R _ _ _ _ _)))) | ((with_reducible refine e_subP ?_); (first | (with_unfolding_all change Cx.R _ _ _ _ _) | (intro _; (with_unfolding_all change Cx.R _ _ _ _ _)) | (intro _; intro _; (with_unfolding_all change Cx.R _ _ _ _ _)))) | ((with_reducible refine' l_plain fun _ => ?_); (with_unfolding_all change Cx.R _ _ _ _ _)) | ((with_reducible refine' s_assign ?_ ?kx_90 ?ks_90); (case kx_90 => exact rfl); (case ks_90 => exact rfl); intro ka) | ((with_reducible refine s_go ?_); (try clear ka); intro _) | (with_reducible refine s_return ?_) | ((with_reducible refine s_if ?_); intro kc) | (with_reducible refine s_skip ?_) | (with_reducible refine on_next ?_) | (with_reducible refine on_ret ?_) | ((with_reducible refine at_true ?_); (try clear kc)) | ((with_reducible refine at_false ?_); (try clear kc)) | ((with_reducible refine at_true' ?_); (try clear kc)) | ((with_reducible refine at_false' ?_); (try clear kc)) | (with_reducible refine e_int fun _ => ?_) | (with_reducible refine e_str fun _ => ?_) | (with_reducible refine e_bin ?_) | (with_reducible refine t_or ?_) | (with_reducible refine t_or_nil ?_) | (with_reducible refine t_not ?_) | (with_reducible refine v_add fun _ => ?_) | (with_reducible refine b_lt (fun _ => ?_) (fun _ => ?_)) | (with_reducible refine b_neS (fun _ => ?_) (fun _ => ?_)) | (with_reducible refine l_nil ?_) | ((with_reducible refine' e_local ?kv_90 ?_); (case kv_90 => exact rfl)) | ((with_reducible refine' e_call ?kf_90 ?kv_90 ?kx_90 ?kb_90 ?ke_90 ?kp_90 ?_); (case kf_90 => k_is); (case kv_90 => k_is); (case kx_90 => exact rfl); (case kb_90 => exact rfl); (case ke_90 => exact rfl); (case kp_90 => exact rfl); intro kb) | ((with_reducible refine' t_cmp ?_ ?km_90); (case km_90 => exact rfl)) | ((with_reducible refine' l_cons ?_ ?ke_90); (case ke_90 => exact rfl)) | ((with_reducible refine' e_from ?kv_90 ?kz_90 ?_); (case kv_90 => exact rfl); (case kz_90 => (rw [sizeLine_eq]; omega))) | (with_reducible refine e_sub ?_) | ((with_reducible refine' v_mul ?km_90 fun _ => ?_); (case km_90 => first | (with_reducible assumption) | (with_reducible exact mul8 (by with_reducible assumption)) | (with_reducible exact mul100 (by with_reducible assumption)) | mul_fits)) | ((with_reducible refine' v_item ?k0_90 ?k1_90 ?k2_90 (fun _ => ?_) ?kd_90 ?ke_90); (case kd_90 => with_unfolding_all rfl); (case ke_90 => (intro _; with_unfolding_all rfl)); (case k0_90 => first | (with_reducible assumption) | decide | assumption); (case k1_90 => first | omega | exact Int.lt_of_lt_of_le (by with_reducible assumption) (by decide)); (case k2_90 => first | omega | decide)) | ((with_reducible refine' e_builtin1 ?kf_90 ?kx_90 ?kb_90 ?kv_90 ?kn_90 ?_ ?kh_90); (case kf_90 => k_is); (case kx_90 => exact rfl); (case kb_90 => exact rfl); (case kv_90 => boot_fast); (case kn_90 => decide); (case kh_90 => exact rfl)) | (with_reducible refine ⟨_, _, rfl, ?_⟩) | ((with_reducible refine' r_k ?kc_90 ?kr_90 ?_); (case kc_90 => first | exact k_letter _ _ _ _ _ | (refine' k_iccf_of _ _ _ _ _ _ _ ?xa_90 ?xb_90; (case xa_90 => omega); (case xb_90 => omega)) | (refine' k_number _ _ _ _ _ _ _ _ _ _ _ _ ?x0_90 ?xU_90 ?xc_90 ?xK_90 ?xD_90; (case xK_90 => assumption); (case xD_90 => assumption); (case xU_90 => k_updF); (case xc_90 => k_mem); (case x0_90 => first | decide | omega))); (case kr_90 => decide)) | ((with_reducible refine' s_pair ?_ ?k1_90 ?k2_90 ?ks_90 ?kw_90); (case k1_90 => exact rfl); (case k2_90 => exact rfl); (case ks_90 => exact rfl); (case kw_90 => exact rfl)) | ((with_reducible refine' e_cell ?kx_90 ?kb_90 ?kc_90 ?km_90 ?kd_90 ?_); (case kx_90 => exact rfl); (case kb_90 => exact rfl); (case kc_90 => assumption); (case km_90 => k_mem); (case kd_90 => assumption)) | ((with_reducible refine' x_cell ?kc_90 ?km_90 ?kd_90 ?_ ?kk_90 ?kx_90 ?kb_90); (case kx_90 => exact rfl); (case kk_90 => exact rfl); (case kb_90 => exact rfl); (case kc_90 => exact rfl); (case km_90 => k_mem); (case kd_90 => assumption)) | ((with_reducible refine' x_own ?km_90 ?ko_90 ?kv_90 ?_ ?kk_90 ?kl_90 ?kb_90); (case kl_90 => exact rfl); (case kk_90 => exact rfl); (case kb_90 => exact rfl); (case ko_90 => assumption); (case kv_90 => assumption); (case km_90 => k_mem)) | ((with_reducible refine' x_call ?kf_90 ?kv_90 ?kx_90 ?kg_90 ?kk_90 ?kb_90 ?ke_90 ?kp_90 ?_); (case kf_90 => k_is); (case kv_90 => k_is); (case kx_90 => exact rfl); (case kg_90 => exact rfl); (case kk_90 => exact rfl); (case kb_90 => exact rfl); (case ke_90 => exact rfl); (case kp_90 => exact rfl)) | ((with_reducible refine' v_tupItem ?km_90 ?k0_90 ?k1_90 ?kx_90 ?_ ?kd_90); (case kd_90 => with_unfolding_all rfl); (case km_90 => k_mem); (case k0_90 => decide); (case k1_90 => decide); (case kx_90 => exact rfl)) | ((with_reducible refine' v_rowAt ?km_90 ?kr_90 ?k0_90 ?k1_90 ?kz_90 (fun _ _ _ _ _ _ => ?_) ?kd_90); (case kd_90 => with_unfolding_all rfl); (case km_90 => k_mem); (case kr_90 => assumption); (case k0_90 => assumption); (case k1_90 => first | assumption | omega); (case kz_90 => assumption)) | ((with_reducible refine' e_join ?_ ?km_90 ?ke_90); (case km_90 => exact rfl); (case ke_90 => exact rfl)) | ((with_reducible refine' v_lenL ?km_90 ?kz_90 (fun _ => ?_)); (case km_90 => k_mem); (case kz_90 => assumption)) | ((with_reducible refine' s_unpack2 ?_ ?k1_90 ?k2_90 ?ks_90 ?kw_90); (case k1_90 => exact rfl); (case k2_90 => exact rfl); (case ks_90 => exact rfl); (case kw_90 => exact rfl)) | ((with_reducible refine' v_itemI ?km_90 ?ki_90 ?k0_90 ?k1_90 ?k2_90 (fun _ => ?_) ?kd_90); (case kd_90 => with_unfolding_all rfl); (case km_90 => k_mem); (case ki_90 => assumption); (case k0_90 => assumption); (case k1_90 => assumption); (case k2_90 => assumption)) | ((with_reducible refine' b_same3 ?km_90 ?kn_90 ?kr_90 ?_); (case km_90 => k_mem); (case kn_90 => k_mem); (case kr_90 => decide)) | (with_reducible refine e_bool ?_) | (with_reducible refine t_call ?_) | (with_reducible refine ⟨_, rfl, ?_⟩) | (with_reducible refine e_tuple ?_) | ((with_reducible refine' v_tuple ?kz_90 fun _ _ => ?_); (case kz_90 => exact Nat.le_of_ble_eq_true rfl)) | (with_reducible refine e_list ?_) | ((with_reducible refine' v_list ?kz_90 fun _ _ => ?_); (case kz_90 => exact Nat.le_of_ble_eq_true rfl)) | fail))
      · exact absurd q1 (by assumption)
      · exact absurd q2 (by assumption)
      refine r_k (k_readL _ _ _ _ _ _ _ _ _ hff hrr hgd ly1) (by decide) ?_
      intro a9 w1 w2 w3
      (repeat' (first | with_reducible intro _ | ((with_reducible refine' e_callP ?kf_91 ?kv_91 ?kx_91 ?kb_91 ?ke_91 ?kp_91 fun _ => ?_); (case kf_91 => k_is); (case kv_91 => k_is); (case kx_91 => exact rfl); (case kb_91 => exact rfl); (case ke_91 => exact rfl); (case kp_91 => exact rfl); (with_unfolding_all change Cx.R _ _ _ _ _)) | ((with_reducible refine' t_cmpP ?_ ?km_91); (case km_91 => exact rfl); (first | (with_unfolding_all change Cx.R _ _ _ _ _) | (intro _; (with_unfolding_all change Cx.R _ _ _ _ _)) | (intro _; intro _; (with_unfolding_all change Cx.R _ _ _ _ _)))) | ((with_reducible refine e_binP ?_); (first | (with_unfolding_all change Cx.R _ _ _ _ _) | (intro _; (with_unfolding_all change Cx.R _ _ _ _ _)) | (intro _; intro _; (with_unfolding_all change Cx.R _ _ _ _ _)))) | ((with_reducible refine e_subP ?_); (first | (with_unfolding_all change Cx.R _ _ _ _ _) | (intro _; (with_unfolding_all change Cx.R _ _ _ _ _)) | (intro _; intro _; (with_unfolding_all change Cx.R _ _ _ _ _)))) | ((with_reducible refine' l_plain fun _ => ?_); (with_unfolding_all change Cx.R _ _ _ _ _)) | ((with_reducible refine' s_assign ?_ ?kx_91 ?ks_91); (case kx_91 => exact rfl); (case ks_91 => exact rfl); intro ka) | ((with_reducible refine s_go ?_); (try clear ka); intro _) | (with_reducible refine s_return ?_) | ((with_reducible refine s_if ?_); intro kc) | (with_reducible refine s_skip ?_) | (with_reducible refine on_next ?_) | (with_reducible refine on_ret ?_) | ((with_reducible refine at_true ?_); (try clear kc)) | ((with_reducible refine at_false ?_); (try clear kc)) | ((with_reducible refine at_true' ?_); (try clear kc)) | ((with_reducible refine at_false' ?_); (try clear kc)) | (with_reducible refine e_int fun _ => ?_) | (with_reducible refine e_str fun _ => ?_) | (with_reducible refine e_bin ?_) | (with_reducible refine t_or ?_) | (with_reducible refine t_or_nil ?_) | (with_reducible refine t_not ?_) | (with_reducible refine v_add fun _ => ?_) | (with_reducible refine b_lt (fun _ => ?_) (fun _ => ?_)) | (with_reducible refine b_neS (fun _ => ?_) (fun _ => ?_)) | (with_reducible refine l_nil ?_) | ((with_reducible refine' e_local ?kv_91 ?_); (case kv_91 => exact rfl)) | ((with_reducible refine' e_call ?kf_91 ?kv_91 ?kx_91 ?kb_91 ?ke_91 ?kp_91 ?_); (case kf_91 => k_is); (case kv_91 => k_is); (case kx_91 => exact rfl); (case kb_91 => exact rfl); (case ke_91 => exact rfl); (case kp_91 => exact rfl); intro kb) | ((with_reducible refine' t_cmp ?_ ?km_91); (case km_91 => exact rfl)) | ((with_reducible refine' l_cons ?_ ?ke_91); (case ke_91 => exact rfl)) | ((with_reducible refine' e_from ?kv_91 ?kz_91 ?_); (case kv_91 => exact rfl); (case kz_91 => (rw [sizeLine_eq]; omega))) | (with_reducible refine e_sub ?_) | ((with_reducible refine' v_mul ?km_91 fun _ => ?_); (case km_91 => first | (with_reducible assumption) | (with_reducible exact mul8 (by with_reducible assumption)) | (with_reducible exact mul100 (by with_reducible assumption)) | mul_fits)) | ((with_reducible refine' v_item ?k0_91 ?k1_91 ?k2_91 (fun _ => ?_) ?kd_91 ?ke_91); (case kd_91 => with_unfolding_all rfl); (case ke_91 => (intro _; with_unfolding_all rfl)); (case k0_91 => first | (with_reducible assumption) | decide | assumption); (case k1_91 => first | omega | exact Int.lt_of_lt_of_le (by with_reducible assumption) (by decide)); (case k2_91 => first | omega | decide)) | ((with_reducible refine' e_builtin1 ?kf_91 ?kx_91 ?kb_91 ?kv_91 ?kn_91 ?_ ?kh_91); (case kf_91 => k_is); (case kx_91 => exact rfl); (case kb_91 => exact rfl); (case kv_91 => boot_fast); (case kn_91 => decide); (case kh_91 => exact rfl)) | (with_reducible refine ⟨_, _, rfl, ?_⟩) | ((with_reducible refine' r_k ?kc_91 ?kr_91 ?_); (case kc_91 => first | exact k_letter _ _ _ _ _ | (refine' k_iccf_of _ _ _ _ _ _ _ ?xa_91 ?xb_91; (case xa_91 => omega); (case xb_91 => omega)) | (refine' k_number _ _ _ _ _ _ _ _ _ _ _ _ ?x0_91 ?xU_91 ?xc_91 ?xK_91 ?xD_91; (case xK_91 => assumption); (case xD_91 => assumption); (case xU_91 => k_updF); (case xc_91 => k_mem); (case x0_91 => first | decide | omega))); (case kr_91 => decide)) | ((with_reducible refine' s_pair ?_ ?k1_91 ?k2_91 ?ks_91 ?kw_91); (case k1_91 => exact rfl); (case k2_91 => exact rfl); (case ks_91 => exact rfl); (case kw_91 => exact rfl)) | ((with_reducible refine' e_cell ?kx_91 ?kb_91 ?kc_91 ?km_91 ?kd_91 ?_); (case kx_91 => exact rfl); (case kb_91 => exact rfl); (case kc_91 => assumption); (case km_91 => k_mem); (case kd_91 => assumption)) | ((with_reducible refine' x_cell ?kc_91 ?km_91 ?kd_91 ?_ ?kk_91 ?kx_91 ?kb_91); (case kx_91 => exact rfl); (case kk_91 => exact rfl); (case kb_91 => exact rfl); (case kc_91 => exact rfl); (case km_91 => k_mem); (case kd_91 => assumption)) | ((with_reducible refine' x_own ?km_91 ?ko_91 ?kv_91 ?_ ?kk_91 ?kl_91 ?kb_91); (case kl_91 => exact rfl); (case kk_91 => exact rfl); (case kb_91 => exact rfl); (case ko_91 => assumption); (case kv_91 => assumption); (case km_91 => k_mem)) | ((with_reducible refine' x_call ?kf_91 ?kv_91 ?kx_91 ?kg_91 ?kk_91 ?kb_91 ?ke_91 ?kp_91 ?_); (case kf_91 => k_is); (case kv_91 => k_is); (case kx_91 => exact rfl); (case kg_91 => exact rfl); (case kk_91 => exact rfl); (case kb_91 => exact rfl); (case ke_91 => exact rfl); (case kp_91 => exact rfl)) | ((with_reducible refine' v_tupItem ?km_91 ?k0_91 ?k1_91 ?kx_91 ?_ ?kd_91); (case kd_91 => with_unfolding_all rfl); (case km_91 => k_mem); (case k0_91 => decide); (case k1_91 => decide); (case kx_91 => exact rfl)) | ((with_reducible refine' v_rowAt ?km_91 ?kr_91 ?k0_91 ?k1_91 ?kz_91 (fun _ _ _ _ _ _ => ?_) ?kd_91); (case kd_91 => with_unfolding_all rfl); (case km_91 => k_mem); (case kr_91 => assumption); (case k0_91 => assumption); (case k1_91 => first | assumption | omega); (case kz_91 => assumption)) | ((with_reducible refine' e_join ?_ ?km_91 ?ke_91); (case km_91 => exact rfl); (case ke_91 => exact rfl)) | ((with_reducible refine' v_lenL ?km_91 ?kz_91 (fun _ => ?_)); (case km_91 => k_mem); (case kz_91 => assumption)) | ((with_reducible refine' s_unpack2 ?_ ?k1_91 ?k2_91 ?ks_91 ?kw_91); (case k1_91 => exact rfl); (case k2_91 => exact rfl); (case ks_91 => exact rfl); (case kw_91 => exact rfl)) | ((with_reducible refine' v_itemI ?km_91 ?ki_91 ?k0_91 ?k1_91 ?k2_91 (fun _ => ?_) ?kd_91); (case kd_91 => with_unfolding_all rfl); (case km_91 => k_mem); (case ki_91 => assumption); (case k0_91 => assumption); (case k1_91 => assumption); (case k2_91 => assumption)) | ((with_reducible refine' b_same3 ?km_91 ?kn_91 ?kr_91 ?_); (case km_91 => k_mem); (case kn_91 => k_mem); (case kr_91 => decide)) | (with_reducible refine e_bool ?_) | (with_reducible refine t_call ?_) | (with_reducible refine ⟨_, rfl, ?_⟩) | (with_reducible refine e_tuple ?_) | ((with_reducible refine' v_tuple ?kz_91 fun _ _ => ?_); (case kz_91 => exact Nat.le_of_ble_eq_true rfl)) | (with_reducible refine e_list ?_) | ((with_reducible refine' v_list ?kz_91 fun _ _ => ?_); (case kz_91 => exact Nat.le_of_ble_eq_true rfl)) | fail))
      refine r_conS0 (right _ _ _ (fun p hp => .tail _ (.tail _ (.tail _ (mq p hp)))) (Nat.lt_of_le_of_lt ly2 (by decide))) (by decide) hO hB ?_
      rintro _ _ ⟨rfl, rfl⟩
      (repeat' (first | with_reducible intro _ | ((with_reducible refine' e_callP ?kf_92 ?kv_92 ?kx_92 ?kb_92 ?ke_92 ?kp_92 fun _ => ?_); (case kf_92 => k_is); (case kv_92 => k_is); (case kx_92 => exact rfl); (case kb_92 => exact rfl); (case ke_92 => exact rfl); (case kp_92 => exact rfl); (with_unfolding_all change Cx.R _ _ _ _ _)) | ((with_reducible refine' t_cmpP ?_ ?km_92); (case km_92 => exact rfl); (first | (with_unfolding_all change Cx.R _ _ _ _ _) | (intro _; (with_unfolding_all change Cx.R _ _ _ _ _)) | (intro _; intro _; (with_unfolding_all change Cx.R _ _ _ _ _)))) | ((with_reducible refine e_binP ?_); (first | (with_unfolding_all change Cx.R _ _ _ _ _) | (intro _; (with_unfolding_all change Cx.R _ _ _ _ _)) | (intro _; intro _; (with_unfolding_all change Cx.R _ _ _ _ _)))) | ((with_reducible refine e_subP ?_); (first | (with_unfolding_all change Cx.R _ _ _ _ _) | (intro _; (with_unfolding_all change Cx.R _ _ _ _ _)) | (intro _; intro _; (with_unfolding_all change Cx.R _ _ _ _ _)))) | ((with_reducible refine' l_plain fun _ => ?_); (with_unfolding_all change Cx.R _ _ _ _ _)) | ((with_reducible refine' s_assign ?_ ?kx_92 ?ks_92); (case kx_92 => exact rfl); (case ks_92 => exact rfl); intro ka) | ((with_reducible refine s_go ?_); (try clear ka); intro _) | (with_reducible refine s_return ?_) | ((with_reducible refine s_if ?_); intro kc) | (with_reducible refine s_skip ?_) | (with_reducible refine on_next ?_) | (with_reducible refine on_ret ?_) | ((with_reducible refine at_true ?_); (try clear kc)) | ((with_reducible refine at_false ?_); (try clear kc)) | ((with_reducible refine at_true' ?_); (try clear kc)) | ((with_reducible refine at_false' ?_); (try clear kc)) | (with_reducible refine e_int fun _ => ?_) | (with_reducible refine e_str fun _ => ?_) | (with_reducible refine e_bin ?_) | (with_reducible refine t_or ?_) | (with_reducible refine t_or_nil ?_) | (with_reducible refine t_not ?_) | (with_reducible refine v_add fun _ => ?_) | (with_reducible refine b_lt (fun _ => ?_) (fun _ => ?_)) | (with_reducible refine b_neS (fun _ => ?_) (fun _ => ?_)) | (with_reducible refine l_nil ?_) | ((with_reducible refine' e_local ?kv_92 ?_); (case kv_92 => exact rfl)) | ((with_reducible refine' e_call ?kf_92 ?kv_92 ?kx_92 ?kb_92 ?ke_92 ?kp_92 ?_); (case kf_92 => k_is); (case kv_92 => k_is); (case kx_92 => exact rfl); (case kb_92 => exact rfl); (case ke_92 => exact rfl); (case kp_92 => exact rfl); intro kb) | ((with_reducible refine' t_cmp ?_ ?km_92); (case km_92 => exact rfl)) | ((with_reducible refine' l_cons ?_ ?ke_92); (case ke_92 => exact rfl)) | ((with_reducible refine' e_from ?kv_92 ?kz_92 ?_); (case kv_92 => exact rfl); (case kz_92 => (rw [sizeLine_eq]; omega))) | (with_reducible refine e_sub ?_) | ((with_reducible refine' v_mul ?km_92 fun _ => ?_); (case km_92 => first | (with_reducible assumption) | (with_reducible exact mul8 (by with_reducible assumption)) | (with_reducible exact mul100 (by with_reducible assumption)) | mul_fits)) | ((with_reducible refine' v_item ?k0_92 ?k1_92 ?k2_92 (fun _ => ?_) ?kd_92 ?ke_92); (case kd_92 => with_unfolding_all rfl); (case ke_92 => (intro _; with_unfolding_all rfl)); (case k0_92 => first | (with_reducible assumption) | decide | assumption); (case k1_92 => first | omega | exact Int.lt_of_lt_of_le (by with_reducible assumption) (by decide)); (case k2_92 => first | omega | decide)) | ((with_reducible refine' e_builtin1 ?kf_92 ?kx_92 ?kb_92 ?kv_92 ?kn_92 ?_ ?kh_92); (case kf_92 => k_is); (case kx_92 => exact rfl); (case kb_92 => exact rfl); (case kv_92 => boot_fast); (case kn_92 => decide); (case kh_92 => exact rfl)) | (with_reducible refine ⟨_, _, rfl, ?_⟩) | ((with_reducible refine' r_k ?kc_92 ?kr_92 ?_); (case kc_92 => first | exact k_letter _ _ _ _ _ | (refine' k_iccf_of _ _ _ _ _ _ _ ?xa_92 ?xb_92; (case xa_92 => omega); (case xb_92 => omega)) | (refine' k_number _ _ _ _ _ _ _ _ _ _ _ _ ?x0_92 ?xU_92 ?xc_92 ?xK_92 ?xD_92; (case xK_92 => assumption); (case xD_92 => assumption); (case xU_92 => k_updF); (case xc_92 => k_mem); (case x0_92 => first | decide | omega))); (case kr_92 => decide)) | ((with_reducible refine' s_pair ?_ ?k1_92 ?k2_92 ?ks_92 ?kw_92); (case k1_92 => exact rfl); (case k2_92 => exact rfl); (case ks_92 => exact rfl); (case kw_92 => exact rfl)) | ((with_reducible refine' e_cell ?kx_92 ?kb_92 ?kc_92 ?km_92 ?kd_92 ?_); (case kx_92 => exact rfl); (case kb_92 => exact rfl); (case kc_92 => assumption); (case km_92 => k_mem); (case kd_92 => assumption)) | ((with_reducible refine' x_cell ?kc_92 ?km_92 ?kd_92 ?_ ?kk_92 ?kx_92 ?kb_92); (case kx_92 => exact rfl); (case kk_92 => exact rfl); (case kb_92 => exact rfl); (case kc_92 => exact rfl); (case km_92 => k_mem); (case kd_92 => assumption)) | ((with_reducible refine' x_own ?km_92 ?ko_92 ?kv_92 ?_ ?kk_92 ?kl_92 ?kb_92); (case kl_92 => exact rfl); (case kk_92 => exact rfl); (case kb_92 => exact rfl); (case ko_92 => assumption); (case kv_92 => assumption); (case km_92 => k_mem)) | ((with_reducible refine' x_call ?kf_92 ?kv_92 ?kx_92 ?kg_92 ?kk_92 ?kb_92 ?ke_92 ?kp_92 ?_); (case kf_92 => k_is); (case kv_92 => k_is); (case kx_92 => exact rfl); (case kg_92 => exact rfl); (case kk_92 => exact rfl); (case kb_92 => exact rfl); (case ke_92 => exact rfl); (case kp_92 => exact rfl)) | ((with_reducible refine' v_tupItem ?km_92 ?k0_92 ?k1_92 ?kx_92 ?_ ?kd_92); (case kd_92 => with_unfolding_all rfl); (case km_92 => k_mem); (case k0_92 => decide); (case k1_92 => decide); (case kx_92 => exact rfl)) | ((with_reducible refine' v_rowAt ?km_92 ?kr_92 ?k0_92 ?k1_92 ?kz_92 (fun _ _ _ _ _ _ => ?_) ?kd_92); (case kd_92 => with_unfolding_all rfl); (case km_92 => k_mem); (case kr_92 => assumption); (case k0_92 => assumption); (case k1_92 => first | assumption | omega); (case kz_92 => assumption)) | ((with_reducible refine' e_join ?_ ?km_92 ?ke_92); (case km_92 => exact rfl); (case ke_92 => exact rfl)) | ((with_reducible refine' v_lenL ?km_92 ?kz_92 (fun _ => ?_)); (case km_92 => k_mem); (case kz_92 => assumption)) | ((with_reducible refine' s_unpack2 ?_ ?k1_92 ?k2_92 ?ks_92 ?kw_92); (case k1_92 => exact rfl); (case k2_92 => exact rfl); (case ks_92 => exact rfl); (case kw_92 => exact rfl)) | ((with_reducible refine' v_itemI ?km_92 ?ki_92 ?k0_92 ?k1_92 ?k2_92 (fun _ => ?_) ?kd_92); (case kd_92 => with_unfolding_all rfl); (case km_92 => k_mem); (case ki_92 => assumption); (case k0_92 => assumption); (case k1_92 => assumption); (case k2_92 => assumption)) | ((with_reducible refine' b_same3 ?km_92 ?kn_92 ?kr_92 ?_); (case km_92 => k_mem); (case kn_92 => k_mem); (case kr_92 => decide)) | (with_reducible refine e_bool ?_) | (with_reducible refine t_call ?_) | (with_reducible refine ⟨_, rfl, ?_⟩) | (with_reducible refine e_tuple ?_) | ((with_reducible refine' v_tuple ?kz_92 fun _ _ => ?_); (case kz_92 => exact Nat.le_of_ble_eq_true rfl)) | (with_reducible refine e_list ?_) | ((with_reducible refine' v_list ?kz_92 fun _ _ => ?_); (case kz_92 => exact Nat.le_of_ble_eq_true rfl)) | fail))
      refine s_nil ⟨(), fun p hp => .tail _ (.tail _ (.tail _ (List.mem_append_left _ hp))), fun p hp => .tail _ (.tail _ (.tail _ (List.mem_append_right _ hp))), hoff, (fun _ hp => nomatch hp), fun z h1 _ h3 => ?_, trivial⟩
      have h4 : z ≠ Str.ofString "one" ∧ z ≠ Str.ofString "other" := (by simpa using h3)
      exact (if_neg h4.2).trans ((if_neg h4.1).trans ((if_neg h1).trans (if_neg (fun h => by rw [h3] at h; cases h))))
    · rintro c u8 -
      dsimp -zeta only [within, kstB]
      intro m9
      (repeat' (first | with_reducible intro _ | ((with_reducible refine' e_callP ?kf_93 ?kv_93 ?kx_93 ?kb_93 ?ke_93 ?kp_93 fun _ => ?_); (case kf_93 => k_is); (case kv_93 => k_is); (case kx_93 => exact rfl); (case kb_93 => exact rfl); (case ke_93 => exact rfl); (case kp_93 => exact rfl); (with_unfolding_all change Cx.R _ _ _ _ _)) | ((with_reducible refine' t_cmpP ?_ ?km_93); (case km_93 => exact rfl); (first | (with_unfolding_all change Cx.R _ _ _ _ _) | (intro _; (with_unfolding_all change Cx.R _ _ _ _ _)) | (intro _; intro _; (with_unfolding_all change Cx.R _ _ _ _ _)))) | ((with_reducible refine e_binP ?_); (first | (with_unfolding_all change Cx.R _ _ _ _ _) | (intro _; (with_unfolding_all change Cx.R _ _ _ _ _)) | (intro _; intro _; (with_unfolding_all change Cx.R _ _ _ _ _)))) | ((with_reducible refine e_subP ?_); (first | (with_unfolding_all change Cx.R _ _ _ _ _) | (intro _; (with_unfolding_all change Cx.R _ _ _ _ _)) | (intro _; intro _; (with_unfolding_all change Cx.R _ _ _ _ _)))) | ((with_reducible refine' l_plain fun _ => ?_); (with_unfolding_all change Cx.R _ _ _ _ _)) | ((with_reducible refine' s_assign ?_ ?kx_93 ?ks_93); (case kx_93 => exact rfl); (case ks_93 => exact rfl); intro ka) | ((with_reducible refine s_go ?_); (try clear ka); intro _) | (with_reducible refine s_return ?_) | ((with_reducible refine s_if ?_); intro kc) | (with_reducible refine s_skip ?_) | (with_reducible refine on_next ?_) | (with_reducible refine on_ret ?_) | ((with_reducible refine at_true ?_); (try clear kc)) | ((with_reducible refine at_false ?_); (try clear kc)) | ((with_reducible refine at_true' ?_); (try clear kc)) | ((with_reducible refine at_false' ?_); (try clear kc)) | (with_reducible refine e_int fun _ => ?_) | (with_reducible refine e_str fun _ => ?_) | (with_reducible refine e_bin ?_) | (with_reducible refine t_or ?_) | (with_reducible refine t_or_nil ?_) | (with_reducible refine t_not ?_) | (with_reducible refine v_add fun _ => ?_) | (with_reducible refine b_lt (fun _ => ?_) (fun _ => ?_)) | (with_reducible refine b_neS (fun _ => ?_) (fun _ => ?_)) | (with_reducible refine l_nil ?_) | ((with_reducible refine' e_local ?kv_93 ?_); (case kv_93 => exact rfl)) | ((with_reducible refine' e_call ?kf_93 ?kv_93 ?kx_93 ?kb_93 ?ke_93 ?kp_93 ?_); (case kf_93 => k_is); (case kv_93 => k_is); (case kx_93 => exact rfl); (case kb_93 => exact rfl); (case ke_93 => exact rfl); (case kp_93 => exact rfl); intro kb) | ((with_reducible refine' t_cmp ?_ ?km_93); (case km_93 => exact rfl)) | ((with_reducible refine' l_cons ?_ ?ke_93); (case ke_93 => exact rfl)) | ((with_reducible refine' e_from ?kv_93 ?kz_93 ?_); (case kv_93 => exact rfl); (case kz_93 => (rw [sizeLine_eq]; omega))) | (with_reducible refine e_sub ?_) | ((with_reducible refine' v_mul ?km_93 fun _ => ?_); (case km_93 => first | (with_reducible assumption) | (with_reducible exact mul8 (by with_reducible assumption)) | (with_reducible exact mul100 (by with_reducible assumption)) | mul_fits)) | ((with_reducible refine' v_item ?k0_93 ?k1_93 ?k2_93 (fun _ => ?_) ?kd_93 ?ke_93); (case kd_93 => with_unfolding_all rfl); (case ke_93 => (intro _; with_unfolding_all rfl)); (case k0_93 => first | (with_reducible assumption) | decide | assumption); (case k1_93 => first | omega | exact Int.lt_of_lt_of_le (by with_reducible assumption) (by decide)); (case k2_93 => first | omega | decide)) | ((with_reducible refine' e_builtin1 ?kf_93 ?kx_93 ?kb_93 ?kv_93 ?kn_93 ?_ ?kh_93); (case kf_93 => k_is); (case kx_93 => exact rfl); (case kb_93 => exact rfl); (case kv_93 => boot_fast); (case kn_93 => decide); (case kh_93 => exact rfl)) | (with_reducible refine ⟨_, _, rfl, ?_⟩) | ((with_reducible refine' r_k ?kc_93 ?kr_93 ?_); (case kc_93 => first | exact k_letter _ _ _ _ _ | (refine' k_iccf_of _ _ _ _ _ _ _ ?xa_93 ?xb_93; (case xa_93 => omega); (case xb_93 => omega)) | (refine' k_number _ _ _ _ _ _ _ _ _ _ _ _ ?x0_93 ?xU_93 ?xc_93 ?xK_93 ?xD_93; (case xK_93 => assumption); (case xD_93 => assumption); (case xU_93 => k_updF); (case xc_93 => k_mem); (case x0_93 => first | decide | omega))); (case kr_93 => decide)) | ((with_reducible refine' s_pair ?_ ?k1_93 ?k2_93 ?ks_93 ?kw_93); (case k1_93 => exact rfl); (case k2_93 => exact rfl); (case ks_93 => exact rfl); (case kw_93 => exact rfl)) | ((with_reducible refine' e_cell ?kx_93 ?kb_93 ?kc_93 ?km_93 ?kd_93 ?_); (case kx_93 => exact rfl); (case kb_93 => exact rfl); (case kc_93 => assumption); (case km_93 => k_mem); (case kd_93 => assumption)) | ((with_reducible refine' x_cell ?kc_93 ?km_93 ?kd_93 ?_ ?kk_93 ?kx_93 ?kb_93); (case kx_93 => exact rfl); (case kk_93 => exact rfl); (case kb_93 => exact rfl); (case kc_93 => exact rfl); (case km_93 => k_mem); (case kd_93 => assumption)) | ((with_reducible refine' x_own ?km_93 ?ko_93 ?kv_93 ?_ ?kk_93 ?kl_93 ?kb_93); (case kl_93 => exact rfl); (case kk_93 => exact rfl); (case kb_93 => exact rfl); (case ko_93 => assumption); (case kv_93 => assumption); (case km_93 => k_mem)) | ((with_reducible refine' x_call ?kf_93 ?kv_93 ?kx_93 ?kg_93 ?kk_93 ?kb_93 ?ke_93 ?kp_93 ?_); (case kf_93 => k_is); (case kv_93 => k_is); (case kx_93 => exact rfl); (case kg_93 => exact rfl); (case kk_93 => exact rfl); (case kb_93 => exact rfl); (case ke_93 => exact rfl); (case kp_93 => exact rfl)) | ((with_reducible refine' v_tupItem ?km_93 ?k0_93 ?k1_93 ?kx_93 ?_ ?kd_93); (case kd_93 => with_unfolding_all rfl); (case km_93 => k_mem); (case k0_93 => decide); (case k1_93 => decide); (case kx_93 => exact rfl)) | ((with_reducible refine' v_rowAt ?km_93 ?kr_93 ?k0_93 ?k1_93 ?kz_93 (fun _ _ _ _ _ _ => ?_) ?kd_93); (case kd_93 => with_unfolding_all rfl); (case km_93 => k_mem); (case kr_93 => assumption); (case k0_93 => assumption); (case k1_93 => first | assumption | omega); (case kz_93 => assumption)) | ((with_reducible refine' e_join ?_ ?km_93 ?ke_93); (case km_93 => exact rfl); (case ke_93 => exact rfl)) | ((with_reducible refine' v_lenL ?km_93 ?kz_93 (fun _ => ?_)); (case km_93 => k_mem); (case kz_93 => assumption)) | ((with_reducible refine' s_unpack2 ?_ ?k1_93 ?k2_93 ?ks_93 ?kw_93); (case k1_93 => exact rfl); (case k2_93 => exact rfl); (case ks_93 => exact rfl); (case kw_93 => exact rfl)) | ((with_reducible refine' v_itemI ?km_93 ?ki_93 ?k0_93 ?k1_93 ?k2_93 (fun _ => ?_) ?kd_93); (case kd_93 => with_unfolding_all rfl); (case km_93 => k_mem); (case ki_93 => assumption); (case k0_93 => assumption); (case k1_93 => assumption); (case k2_93 => assumption)) | ((with_reducible refine' b_same3 ?km_93 ?kn_93 ?kr_93 ?_); (case km_93 => k_mem); (case kn_93 => k_mem); (case kr_93 => decide)) | (with_reducible refine e_bool ?_) | (with_reducible refine t_call ?_) | (with_reducible refine ⟨_, rfl, ?_⟩) | (with_reducible refine e_tuple ?_) | ((with_reducible refine' v_tuple ?kz_93 fun _ _ => ?_); (case kz_93 => exact Nat.le_of_ble_eq_true rfl)) | (with_reducible refine e_list ?_) | ((with_reducible refine' v_list ?kz_93 fun _ _ => ?_); (case kz_93 => exact Nat.le_of_ble_eq_true rfl)) | fail))
      rfl
end

end Mine
theorem PySem.Challenge.cw_pf0093_01_holds : PySem.Challenge.rw_pf0093_01.Holds :=
  Mine.lawAll
