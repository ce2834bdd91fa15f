import PyProof.Rows.All
import Wide.All
import OpenK.AllK
import Wide.FinOn
import Lean
import PySem.Challenge.RW_nt0628_01
open PySem PySem.W PyProof.Rows
set_option Elab.async false
namespace Mine
open PySem.Calls
/-- the text's top without the three rows that name the file -/
noncomputable def vw : Program := PySem.W.view PySem.Challenge.pw_nt0628_01 [1, 3, 4, 5, 6, 7, 8, 9, 10, 11, 12, 13, 14, 16, 17, 18, 19, 20, 21, 22, 23]
/-- what is left behind the boot: the run of the top and the looks at its end -/
theorem left_run {p q : Program} {loose : List Str} {Xt : Shared → Bool} {α : Type} {Yf : Shared → α} {Ya : World → α} {N : Nat} (e : opening p = plainProg p.main.scope.names) (hN : Nat.ble 600 N = true) (f : ∀ s, fenceModules? p s = some s)
    (h : ∀ (w : World) (os : OsState), (topFrom treeTable p w N ⟨boot_heap w.params, Array.mk [], boot_drawn, boot_toks, os⟩).map (fun s => (openSeen q loose (importedModules p.main.body) Xt true s, Yf s)) = some (openGood q loose, Ya w)) : LeftO p q loose Xt Yf Ya N := fun w => by
  obtain ⟨⟨h', gs, d, k, os⟩, e1, e2⟩ := Option.map_eq_some_iff.mp (boot_open e hN f w)
  obtain ⟨rfl, rfl, rfl, rfl⟩ : h' = boot_heap w.params ∧ gs = Array.mk [] ∧ d = boot_drawn ∧ k = boot_toks := by simpa using e2
  unfold openEnds
  rw [e1]
  exact h w os
local macro_rules | `(tactic| o_head $H) => `(tactic| (refine holds_open (q := vw) (loose := []) (Xt := fun s => xlAt vw [] s && recOk (RowW.records (OpenRow.toRowW PySem.Challenge.rw_nt0628_01.row)) s) (XP := XL vw []) (Yf := Hook.obs $H) (Ya := Hook.val $H) (YP := Hook.says $H) (N := 1924) ?hl (Hook.of $H) (Hook.keeps $H) (fun s e => xl_of s (Bool.and_eq_true_iff.mp e).1) XL.keeps (by rfl) (by rfl) (by rfl) (fun s e => recFacts_of (Bool.and_eq_true_iff.mp e).2) (by rfl) (by first | assumption | decide +kernel) (by decide +kernel) ⟨rfl, rfl, rfl, rfl, rfl, by decide +kernel⟩ ?hw ?hc; (case hl => exact left_run (by kernel_rfl) rfl (fun s => by kernel_rfl) (fun w os => by first | (unfold topFrom; rewrite [PySem.W.Fast.te14082659384304107361, PySem.W.Fast.te14364793385576792824, PySem.W.Fast.te4187177175401517315]; kernel_rfl) | kernel_rfl))))
set_option maxRecDepth 100000 in
set_option maxHeartbeats 8000000 in
open_top hd for PySem.Challenge.rw_nt0628_01
/-- the head turns the lines for a module's top on; the walks below want them off -/
theorem top_off : True := by
  w_top off
  trivial
end Mine

set_option Elab.async false
set_option maxRecDepth 100000
namespace Mine
open PySem PySem.W PyProof.Rows PySem.Calls PySem.Spec

local macro_rules | `(tactic| walk_at $s:str) => `(tactic| k_extra $s)


abbrev PR : Program := PySem.Challenge.rw_nt0628_01.row.prog
theorem big_is : (2 : Nat) ^ 24 = 16777216 := by decide

theorem room0 {d b a R : Nat} (h : d + a < R) (hb : b ≤ a) : d + b < R := Nat.lt_of_le_of_lt (Nat.add_le_add_left hb d) h
theorem room1 {d k b a R : Nat} (h : d + a < R) (hb : k + b ≤ a) : d + k + b < R := by rw [Nat.add_assoc]; exact room0 h hb
theorem room2 {d j k b a R : Nat} (h : d + a < R) (hb : j + k + b ≤ a) : d + j + k + b < R := by rw [Nat.add_assoc, Nat.add_assoc, ← Nat.add_assoc j]; exact room0 h hb
theorem lt_trans2 {a b c : Nat} (h : b < c) (h' : a < b) : a < c := Nat.lt_trans h' h
section
variable {prog : Program} {w : World} {A : Around} {E : Value → Shared → Prop} {s : Shared} {h₀ : Heap} {L D l : Addr} {m : Str → Option Value} {news : List (Addr × Obj)} {g : Obj → List (Addr × Obj)} {vs ws : List Value} {n n₂ : Nat} {k x : Int} {t u : Tok} {v : Value}

theorem my_len {Q : Value → Shared → Prop} (N : News h₀ L s.heap news) (hm : (D, listOf vs.toArray n) ∈ news) (hf : vs.length < 2 ^ 62) (h : Q (.int (vs.length : Nat) (s.toks + 1)) { s with toks := s.toks + 1 + 1 }) :
    wpAny (model prog w) A (call (.builtin "len") [.ref D]) Q E s :=
  KM.len_K N hm (by rw [List.size_toArray]) hf h

theorem my_get {Q : Value → Shared → Prop} (N : News h₀ L s.heap news) (hm : (D, listOf vs.toArray n) ∈ news) (h0 : 0 ≤ k) (h1 : k < vs.length) (hfit : k < 2 ^ 63) (h : Q (vs.getD k.toNat .none) s) :
    wpAny (model prog w) A (getItem (.ref D) (.int k u)) Q E s := by
  have hx : vs[k.toNat]? = some (vs.getD k.toNat .none) := by
    rw [List.getD_eq_getElem?_getD, List.getElem?_eq_getElem (by omega)]; rfl
  exact wpAny_getItem_list (PySem.IsL.isList (n := n) (N _ hm).1) h0 hfit (by simpa using hx) h
theorem my_item {value slice : PySem.Expr} {Q : Value → Shared → Prop} (N : News h₀ L s.heap news) (hm : (D, listOf vs.toArray n) ∈ news) (h0 : 0 ≤ k) (h1 : k < vs.length) (hfit : k < 2 ^ 63) (h : Q (vs.getD k.toNat .none) s)
    (hs : subscripted slice false (.ref D) (.int k u) = operate [.ref D, .int k u] (getItem (.ref D) (.int k u)) := by with_unfolding_all rfl) :
    wpAny (model prog w) A (subscriptTail value slice (.ref D) (.int k u)) Q E s :=
  tail_any (PySem.IsL.isList (n := n) (N _ hm).1).typeIs slot_list_getitem.lookup (my_get N hm h0 h1 hfit h) hs

/-- a list of the ledger turned by a function on its items -/
theorem my_turn {h : Heap} {f : Array Value → Array Value} {Q : Heap → List (Addr × Obj) → Prop} (F : Fr h₀ L h m) (N : News h₀ L h news) (U : UpdF D (listOf vs.toArray n) news g) (he : f vs.toArray = ws.toArray)
    (hk : ∀ h' n', Fr h₀ L h' m → News h₀ L h' (g (listOf ws.toArray n')) → Q h' (g (listOf ws.toArray n'))) :
    Q (h.update D (Obj.mapSeq f)) (g (listOf ws.toArray (if ws.toArray.size == vs.toArray.size then n else n + 1))) := by
  obtain ⟨pre, post, rfl, hg, a, b⟩ := U.split
  have z := N (D, listOf vs.toArray n) (List.mem_append.mpr (.inr (.head _)))
  refine hk _ _ (F.change (Heap.SameBut.update ..) z.2.1 z.2.2) ?_
  rw [hg]
  exact ki_turn f N a b he rfl

theorem my_set {Q : Unit → Shared → Prop} (F : Fr h₀ L s.heap m) (N : News h₀ L s.heap news) (U : UpdF D (listOf vs.toArray n) news g) (h0 : 0 ≤ k) (h1 : k < vs.length) (hfit : k < 2 ^ 63)
    (h : ∀ h' n', Fr h₀ L h' m → News h₀ L h' (g (listOf (vs.set k.toNat v).toArray n')) → Q () { s with heap := h' }) :
    wpAny (model prog w) A (setItem (.ref D) (.int k t) v) Q E s := by
  have z : s.heap.get? D = some (listOf vs.toArray n) := by
    obtain ⟨pre, post, rfl, hg, a, b⟩ := U.split
    exact (N (D, listOf vs.toArray n) (List.mem_append.mpr (.inr (.head _)))).1
  refine ki_setAt z h0 hfit (by rw [List.size_toArray]; exact h1) ?_
  refine my_turn (f := (·.setIfInBounds k.toNat v)) (ws := vs.set k.toNat v) (Q := fun h' _ => Q () { s with heap := h' }) F N U ?_ (fun h' n' F' N' => h h' n' F' N')
  apply Array.toList_inj.mp
  simp

theorem my_append {Q : Value → Shared → Prop} (F : Fr h₀ L s.heap m) (N : News h₀ L s.heap news) (U : UpdF D (listOf vs.toArray n) news g) (hsz : vs.length ≤ 16777215)
    (h : ∀ h' n', Fr h₀ L h' m → News h₀ L h' (g (listOf (vs ++ [v]).toArray n')) → Q .none { s with heap := h' }) :
    wpAny (model prog w) A (call (.builtin "list.append") [.ref D, v]) Q E s := by
  have z : s.heap.get? D = some (listOf vs.toArray n) := by
    obtain ⟨pre, post, rfl, hg, a, b⟩ := U.split
    exact (N (D, listOf vs.toArray n) (List.mem_append.mpr (.inr (.head _)))).1
  refine call_meets PySem.F.slot_list_append ⟨_, z, rfl⟩ PySem.F.entry_list_append (PySem.F.args_list_append_2 _ _) (PySem.list_append D vs.toArray n v (by rw [List.size_toArray, sizeLine_eq]; omega)) ⟨z, ?_⟩
  refine my_turn (f := (·.push v)) (ws := vs ++ [v]) (Q := fun h' _ => Q .none { s with heap := h' }) F N U (by simp) (fun h' n' F' N' => h h' n' F' N')
end

/-- a goal at which the walk is to stand still -/
def Stop (P : Prop) : Prop := P
theorem Stop.out {P : Prop} (h : Stop P) : P := h


abbrev excMro : List Value := [.type "Exception", .type "BaseException", .type "object"]

theorem api_cls {P : Params} {h : Heap} (X : (Mine.hd.heap_39 P).In h) : ∃ nm q bs sn sub ab col dd k0 k1 k2 k3 k5,
    h.get? 31 = some (excClassObj nm q 31 30 bs excMro true sn sub ab col dd k0 k1 k2 k3 k5 "Exception.__new__") :=
  ⟨_, _, _, _, _, _, _, _, _, _, _, _, _, X 31 _ rfl⟩

theorem strKeys_of (es : Array DictEntry) (h : (es.toList.all fun e => match e.key with | .str _ _ => true | _ => false) = true) : StrKeys es := by
  intro e he
  have := List.all_eq_true.mp h e (Array.mem_toList_iff.mpr he)
  revert this
  cases e.key <;> intro this <;> first | exact ⟨_, _, rfl⟩ | cases this

theorem api_ns {P : Params} {h : Heap} (X : (Mine.hd.heap_39 P).In h) : ∃ mN, h.Ns 30 mN ∧ mN (Str.ofString "__init__") = some (.ref 28) ∧ mN (Str.ofString "__setattr__") = none ∧ mN (Str.ofString "text") = none := by
  refine ⟨_, ⟨_, _, _, X 30 _ rfl, rfl, ?_, fun _ => rfl⟩, ?_, ?_, ?_⟩
  · exact strKeys_of _ (by rfl)
  · rfl
  · rfl
  · rfl

theorem api_fn {P : Params} {h : Heap} (X : (Mine.hd.heap_39 P).In h) : ∃ o, h.get? 28 = some o ∧ o.cls = .type "function" :=
  ⟨_, X 28 _ rfl, rfl⟩

theorem api_noText : typeLookup (.type "Exception") (Str.ofString "text") = pure none := by rw [typeLookup_type, builtinLookup_eq_fast]; kernel_rfl

abbrev apiObj (t : Addr) (dd : Option Addr) : Obj := { cls := .ref 31, dict := dd, data := .fields #[.ref t, .none, .none, .none, .bool false, .none] }
abbrev tupObj (vs : List Value) : Obj := { cls := .type "tuple", data := .seq vs.toArray }

section
variable {w : World} {A : Around} {E : Value → Shared → Prop} {s : Shared} {h₀ : Heap} {L e t : Addr} {m : Str → Option Value} {news : List (Addr × Obj)} {v : Value} {k : Tok}

/-- self.text = v on a fresh ApiError of the ledger's head -/
theorem api_setattr {Q : Unit → Shared → Prop} (F : Fr h₀ L s.heap m) (X : (Mine.hd.heap_39 w.params).In h₀) (N : News h₀ L s.heap ((e, apiObj t none) :: news)) (hne : ∀ q ∈ news, q.1 ≠ e)
    (h : ∀ h' tk' dd, Fr h₀ L h' m → News h₀ L h' ((e, apiObj t dd) :: news) → Q () { s with heap := h', toks := tk' }) :
    wpAny (model PR w) A (setAttr (.ref e) (Str.ofString "text") v) Q E s := by
  have X' := X.keeps F.keep
  obtain ⟨nm, q, bs, sn, sub, ab, col, dd, k0, k1, k2, k3, k5, hC⟩ := api_cls X'
  obtain ⟨mN, hn, hi, hs, ht⟩ := api_ns X'
  have he := (N _ (.head _)).1
  have heC : e ≠ 31 := fun q => by rw [q, hC] at he; cases he
  obtain ⟨hp, g, d, tk, os⟩ := s
  refine store_attr (mA := fun _ => none) PySem.F.store_Exception hC hn hs ht api_noText heC ⟨_, he, rfl, (fun c q => (nomatch q)), .inl ⟨rfl, fun _ => rfl⟩⟩ ?_
  intro h' tk' I hk hsame
  obtain ⟨o₁, ho₁, c1, c2, c3, -⟩ := hsame _ he
  have keep : ∀ b o, b ≠ e → hp.get? b = some o → h'.get? b = some o := fun b o nb hb => hk b o nb (fun o₀ dx h0 hd => by rw [he] at h0; cases h0; cases hd) hb
  have eo : o₁ = apiObj t o₁.dict := by
    obtain ⟨a1, a2, a3, a4⟩ := o₁
    simp only at c1 c2 c3
    subst c1 c2 c3
    rfl
  refine h h' tk' o₁.dict ?_ ?_
  · obtain ⟨oL, a1, a2, hoL, a3⟩ := F.ns
    have hLe : L ≠ e := fun q => (N _ (.head _)).2.1 q.symm
    exact ⟨⟨oL, a1, a2, keep _ _ hLe hoL, a3⟩, fun b o hb => keep b o (fun q => by have := (N _ (.head _)).2.2; rw [q] at hb; rw [this] at hb; cases hb) (F.keep b o hb), F.above⟩
  · intro p hp'
    rcases List.mem_cons.mp hp' with rfl | hp'
    · exact ⟨by rw [← eo]; exact ho₁, (N _ (.head _)).2⟩
    · have z := N p (.tail _ hp')
      exact ⟨keep _ _ (hne p hp') z.1, z.2⟩
end

local macro_rules | `(tactic| k_all) => `(tactic| assumption)
local macro_rules | `(tactic| k_ne) => `(tactic| first | with_reducible assumption | exact Ne.symm (by with_reducible assumption) | exact neN (Nat.ne_of_lt (by walk_at "my lt")) | exact neN (Nat.ne_of_gt (by walk_at "my lt")) | (refine neN ?_; (try dsimp only); (repeat ((with_reducible rename (_ ≠ _) => zz9); clear zz9)); omega))
local macro_rules | `(tactic| k_room) => `(tactic| first | exact room1 (by with_reducible assumption) (by decide) | exact room2 (by with_reducible assumption) (by decide) | ((try simp only [depth_mark, depth_under_make, depth_under_kw, depth_in1, depth_deeper, depth_caller] at *); (try dsimp only [ktrTop] at *); omega))
theorem lines_03_pre : True := by
  k_with "my lt" => first | with_reducible assumption | (with_reducible exact Nat.lt_succ_self _) | exact lt_trans2 (by with_reducible assumption) (by walk_at "my lt")
  k_with "my om" => first | with_reducible assumption | exact Nat.lt_of_lt_of_le (by with_reducible assumption) (by decide) | exact Int.le_trans (by with_reducible assumption) (by with_reducible assumption) | ((repeat ((with_reducible rename (_ ≠ _) => zz9); clear zz9)); omega) | omega
  k_with "my fact" => first | walk_at "my om" | ((simp only [List.length_append, List.length_cons, List.length_nil, List.length_take, List.length_drop, List.length_set, List.length_replicate] at *); omega)
  k_with "call builtin:len" => (k_here; (with_reducible show wpAny _ _ (call (Value.builtin "len") [Value.ref _]) _ _ _); k_dflt (refine' my_len (by k_asm) (by k_mem) (by walk_at "my fact") ?_; k_whole))
  k_with "subscriptTail" => (k_here; (with_reducible show wpAny _ _ (subscriptTail _ _ (Value.ref _) (Value.int _ _)) _ _ _); (with_unfolding_all refine' my_item (by k_asm) (by k_mem) (by walk_at "my fact") (by walk_at "my fact") (by walk_at "my fact") ?_ (by with_unfolding_all rfl); k_whole))
  k_with "setItem ref int" => (k_here; (with_reducible show wpAny _ _ (setItem (Value.ref _) (Value.int _ _) _) _ _ _); k_dflt (refine' my_set (by k_asm) (by k_asm) (by k_updF) (by walk_at "my fact") (by walk_at "my fact") (by walk_at "my fact") ?_; k_whole); intro h' n' F' N'; (try dsimp only at N'); (try k_sweep))
  k_with "call builtin:list.append" => (k_here; (with_reducible show wpAny _ _ (call (Value.builtin _) [Value.ref _, _]) _ _ _); k_dflt (refine' my_append (by k_asm) (by k_asm) (by k_updF) (by walk_at "my fact") ?_; k_whole); intro h' n' F' N'; (try dsimp only at N'); (try k_sweep))
  k_with "my units" => first | exact room1 (by with_reducible assumption) (by decide) | exact room2 (by with_reducible assumption) (by decide) | (have hcL9 := cLine_is; (try simp only [units_in1, units_deeper, Around.mark_units, units_caller] at *); (try dsimp only [ktrTop] at *); omega)
  k_with "eval Call" => (k_here; (with_reducible show wpAny _ _ (eval (PySem.Expr.Call (PySem.Expr.Name _ _) _ [] _) _) _ _ _); k_dflt (refine PyProof.Rows.Call_ ?_))
  trivial
set_option maxHeartbeats 4000000 in
theorem api_call {w : World} {p : Program} {loose : List Str} {mean : ExcName → Option Value} {mg mb : Str → Option Value}
    {dp un : Nat} {gd : Option (List Code)} {cn : Str} {cs : Scope} {a : Addr} {ccd : Value} {cl : List (Str × Addr)} {outer : List Env} {A₀ : Around} {base h₀ : Heap} {L : Addr} {m : Str → Option Value} {s : Shared} {Q E : Value → Shared → Prop}
    {news : List (Addr × Obj)} {v : Value}
    (B : Below A₀ base outer h₀) (F : Fr h₀ L s.heap m) (X : (Mine.hd.heap_39 w.params).In h₀) (N : News h₀ L s.heap news) (T : Top p loose mean mg mb h₀) (hk : cs.kind = .function)
    (hd : dp + 3 < recursionLimit)
    (hret : ∀ h' tk' e t dd, Fr h₀ L h' m → News h₀ L h' ((e, apiObj t dd) :: (t, tupObj [v]) :: news) → (∀ q ∈ news, q.1 ≠ e) → (∀ q ∈ news, q.1 ≠ t) → Q (.ref e) { s with heap := h', toks := tk' }) :
    wpAny (model PySem.Challenge.rw_nt0628_01.row.prog w) (ktrTop dp un gd cn cs L a ccd cl outer) (call (.ref 31) [v]) Q E s := by
  revert X; k_fill; intro X
  have X' := X.keeps F.keep
  obtain ⟨nm, q, bs, sn, sub, ab, col, dd, k0, k1, k2, k3, k5, hC⟩ := api_cls X'
  obtain ⟨mN, hn, hi, hs, ht⟩ := api_ns X'
  obtain ⟨o28, ho28, hc28⟩ := api_fn X'
  clear hs ht
  obtain ⟨hp, g, d, tk, os⟩ := s
  refine wpAny_call_exc_init PySem.F.excBase_Exception hC hn hi ho28 hc28 ?_
  intro h' e M
  obtain ⟨mk, mn, t, he, htn, ht'⟩ := M
  have F1 : Fr h₀ L h' m := by
    obtain ⟨oL, a1, a2, hoL, a3⟩ := F.ns
    exact ⟨⟨oL, a1, a2, mk _ _ hoL, a3⟩, fun b o hb => mk _ _ (F.keep b o hb), F.above⟩
  have fresh : ∀ b, hp.get? b = none → h₀.get? b = none := fun b hb => by
    cases q : h₀.get? b with
    | none => rfl
    | some o => have := F.keep _ _ q; rw [hb] at this; cases this
  have neL : ∀ b, hp.get? b = none → b ≠ L := fun b hb q => by
    obtain ⟨oL, a1, a2, hoL, a3⟩ := F.ns
    rw [q] at hb; rw [hb] at hoL; cases hoL
  have N1 : News h₀ L h' ((e, apiObj t none) :: (t, tupObj [v]) :: news) := by
    intro p hp'
    rcases List.mem_cons.mp hp' with rfl | hp'
    · exact ⟨he, neL _ mn, fresh _ mn⟩
    rcases List.mem_cons.mp hp' with rfl | hp'
    · exact ⟨ht', neL _ htn, fresh _ htn⟩
    · exact ⟨mk _ _ (N p hp').1, (N p hp').2⟩
  have off : ∀ q ∈ ((t, tupObj [v]) :: news : List (Addr × Obj)), q.1 ≠ e := by
    intro p hp' q
    rcases List.mem_cons.mp hp' with rfl | hp'
    · simp only at q; rw [q] at ht'; rw [ht'] at he; cases he
    · have := (N p hp').1; rw [q, mn] at this; cases this
  have offt : ∀ q ∈ news, q.1 ≠ t := by
    intro p hp' q
    have := (N p hp').1; rw [q, htn] at this; cases this
  clear mk mn he htn ht' fresh neL hC hn hi ho28 hc28 X' N F
  refine wpAny_call ?_
  k_dflt cell_enter
  k_steps
  refine api_setattr (by assumption) (by assumption) (by assumption) off ?_
  intro h2 tk2 dd2 F2 N2
  k_steps
  (with_reducible rename News h₀ L _ _ => kN)
  exact hret _ _ _ _ _ (by assumption) kN (fun q hq => off q (.tail _ hq)) offt

section
variable {M : Model} {A : Around} {E : Value → Shared → Prop} {env : Env} {s : Shared}
variable {nm q : Str} {C N : Addr} {bs bm : List Value} {hdct : Bool} {sn : List Str} {sub : List Value} {ab : Bool} {col : Option Bool} {dd : Option Addr} {k0 k1 k2 k3 k5 : Option Value} {newId : String}
theorem raiseStmt_made {x : Sem Value} {Q : Flow → Shared → Prop} (hbase : bm.contains (.type "BaseException") = true) (hh : A.handled = none)
    (h : wpAny M A x (fun v s₁ => ∃ e t d, v = .ref e ∧ s₁.heap.get? C = some (excClassObj nm q C N bs bm hdct sn sub ab col dd k0 k1 k2 k3 k5 newId) ∧
      s₁.heap.get? e = some { cls := .ref C, dict := d, data := .fields #[.ref t, .none, .none, .none, .bool false, .none] } ∧ E (.ref e) s₁) E s) :
    wpAny M A (raiseStmt env (some x) none) Q E s := by
  have hcB : (Value.ref C :: bm).contains (.type "BaseException") = true := by rw [List.contains_cons, hbase, Bool.or_true]
  unfold raiseStmt
  refine wpAny_bind (wpAny_mono h (fun v s₁ h₁ => ?_) fun _ _ x => x)
  obtain ⟨e, t, d, rfl, hC, he, hE⟩ := h₁
  obtain ⟨hp, g, d, tk, os⟩ := s₁
  repeat (first | with_reducible refine wpAny_loadPart_at he ?_ | with_reducible refine wpAny_loadPart_at hC ?_ | (with_reducible refine wpAny_isSubtype_exc hC ?_; rw [hcB]) | wp_step)
  exact wpAny_raiseNew_none hh hE
end

def Raising (h₀ : Heap) (L : Addr) (E : Value → Shared → Prop) (v : Value) (s₁ : Shared) : Prop :=
  ∃ e t d m' news, v = .ref e ∧ Fr h₀ L s₁.heap m' ∧ News h₀ L s₁.heap ((e, apiObj t d) :: news) ∧ E (.ref e) s₁
theorem Raising.intro {h₀ : Heap} {L : Addr} {E : Value → Shared → Prop} {s₁ : Shared} {e t : Addr} {d : Option Addr} {m' : Str → Option Value} {news : List (Addr × Obj)} (F : Fr h₀ L s₁.heap m') (N : News h₀ L s₁.heap ((e, apiObj t d) :: news)) (h : E (.ref e) s₁) : Raising h₀ L E (.ref e) s₁ := ⟨e, t, d, m', news, rfl, F, N, h⟩
/-- a raise statement that makes an ApiError: the call is walked, then this -/
theorem api_raise {w : World} {A : Around} {E : Value → Shared → Prop} {env : Env} {s : Shared} {h₀ : Heap} {L : Addr} {m : Str → Option Value} {x : PySem.Expr} {pos : Pos} {Q : Flow → Shared → Prop} (X : (Mine.hd.heap_39 w.params).In h₀) (_F : Fr h₀ L s.heap m) (hh : A.handled = none)
    (h : wpAny (model PySem.Challenge.rw_nt0628_01.row.prog w) A (eval x env) (fun v s₁ => Raising h₀ L E v s₁) E s) :
    wpAny (model PySem.Challenge.rw_nt0628_01.row.prog w) A (exec (.Raise (some x) none pos) env) Q E s := by
  obtain ⟨nm, q, bs, sn, sub, ab, col, dd, k0, k1, k2, k3, k5, hC⟩ := api_cls X
  rw [arm_exec_Raise]
  refine wpAny_bind (wpAny_standAt ?_)
  simp only [evalOpt, Option.map]
  refine raiseStmt_made (C := 31) (nm := nm) (q := q) (N := 30) (bs := bs) (bm := excMro) (hdct := true) (sn := sn) (sub := sub) (ab := ab) (col := col) (dd := dd) (k0 := k0) (k1 := k1) (k2 := k2) (k3 := k3) (k5 := k5) (newId := "Exception.__new__") (by decide) hh ?_
  refine wpAny_bind (wpAny_mono h (fun v s₁ h₁ => ?_) fun _ _ x => x)
  obtain ⟨e, t, d, m', news, rfl, F', N', hE⟩ := h₁
  exact wpAny_bind (wpAny_standAt (wpAny_pure ⟨e, t, d, rfl, F'.keep _ _ hC, (N' _ (.head _)).1, hE⟩))

section
variable {M : Model} {A : Around} {E : Value → Shared → Prop} {s' : Shared} {base g g₂ h : Heap} {outer : List Env} {L e t : Addr} {m : Str → Option Value} {env : Env} {Q : Unit → Shared → Prop} {news : List (Addr × Obj)}

theorem frames_mem {b : Addr} (hf : env.frame = some L) (hm : b ∈ (env :: outer).filterMap (·.frame)) : b = L ∨ b ∈ outer.filterMap (·.frame) := by
  obtain ⟨env', he, hf'⟩ := List.mem_filterMap.mp hm
  rcases List.mem_cons.mp he with rfl | he
  · rw [hf] at hf'; exact .inl (Option.some.inj hf').symm
  · exact .inr (List.mem_filterMap.mpr ⟨env', he, hf'⟩)

theorem leave_api {vs : List Value} {dd : Option Addr} (K : Below A base outer g) (hf : env.frame = some L) (hke : env.scope.kind = .function) (F : Fr g L s'.heap m) (N : News g L s'.heap ((e, apiObj t dd) :: (t, tupObj vs) :: news))
    (ne : ∀ q ∈ news, q.1 ≠ e) (nt : ∀ q ∈ news, q.1 ≠ t)
    (hQ : ∀ h', RaisedS base g outer e (.ref 31) t vs news h' → g.UpToSlots h' → Q () { s' with heap := h' }) :
    wpAny M (A.deeper env) (leaving env (.ref e)) Q E s' := by
  have gL : g.get? L = none := kts_self F
  have KF : s'.heap.FunFrames base (env :: outer) := .cons (by rw [hke]; decide) hf F.ns (fresh_of_stays K.stays gL) (K.frames.of_keeps fun b o hb _ => ⟨o, F.keep b o hb, rfl⟩)
  have hin : ∀ env' ∈ (env :: outer), ∀ b, env'.frame = some b → b ∈ e :: t :: (env :: outer).filterMap (·.frame) := fun env' he b hb => .tail _ (.tail _ (List.mem_filterMap.mpr ⟨env', he, hb⟩))
  have Ne := N _ (.head _)
  have Nt := N _ (.tail _ (.head _))
  have gb : ∀ b o, g.get? b = some o → b ∉ outer.filterMap (·.frame) → (hideAll s'.heap (e :: t :: (env :: outer).filterMap (·.frame))).get? b = some o := fun b o q nm => hideAll_get _ (F.keep b o q) fun hm => by
    rcases List.mem_cons.mp hm with z | hm
    · rw [z, Ne.2.2] at q; cases q
    rcases List.mem_cons.mp hm with z | hm
    · rw [z, Nt.2.2] at q; cases q
    rcases frames_mem hf hm with z | z
    · rw [z, gL] at q; cases q
    · exact nm z
  have st : base.StaysIn (hideAll s'.heap (e :: t :: (env :: outer).filterMap (·.frame))) := fun b o q => gb b o (K.stays b o q) fun hm => by
    rw [(K.frames.mem hm).1] at q; cases q
  have hl : ∀ q ∈ news, (hideAll s'.heap (e :: t :: (env :: outer).filterMap (·.frame))).get? q.1 = some q.2 ∧ g.get? q.1 = none ∧ base.get? q.1 = none := fun q hq => by
    have Nq := N q (.tail _ (.tail _ hq))
    refine ⟨hideAll_get _ Nq.1 fun hm => ?_, Nq.2.2, fresh_of_stays K.stays Nq.2.2⟩
    rcases List.mem_cons.mp hm with z | hm
    · exact ne q hq z
    rcases List.mem_cons.mp hm with z | hm
    · exact nt q hq z
    rcases frames_mem hf hm with z | z
    · exact Nq.2.1 z
    · obtain ⟨o, ho, _⟩ := (K.frames.mem z).2
      rw [Nq.2.2] at ho; cases ho
  have hB : (hideAll s'.heap (e :: t :: (env :: outer).filterMap (·.frame))).get? e = none := hideAll_none _ (.head _)
  refine wpAny_leaving_firstW (a0 := .ref t) (base := hideAll s'.heap (e :: t :: (env :: outer).filterMap (·.frame))) (Around.frames_deeper K.stack) (funFrames_hide KF hin) hf Ne.1 (fun b o hb => of_hideAll _ hb) hB rfl rfl rfl fun h' hL => ?_
  obtain ⟨k1, ⟨_, _, k2⟩, k3, k4⟩ := hL
  exact hQ h' ⟨⟨_, st, gb, hl, ⟨k1, hB, k2, k3⟩, hideAll_none _ (.tail _ (.head _))⟩, Heap.TupAt.of_slots ⟨_, _, Nt.1, rfl, rfl⟩ k4⟩ ((Heap.UpToSlots.of_keeps F.keep).trans k4)

theorem leave_api2 {cls : Value} {vs : List Value} (K : Below A base outer g) (hf : env.frame = some L) (F : Fr g L g₂ m) (R : RaisedS base g₂ (env :: outer) e cls t vs news s'.heap) (hsm : g₂.UpToSlots s'.heap)
    (hQ : ∀ h', RaisedS base g outer e cls t vs news h' → g.UpToSlots h' → Q () { s' with heap := h' }) :
    wpAny M (A.deeper env) (leaving env (.ref e)) Q E s' := by
  obtain ⟨⟨B, hB, hBG, hl, hfl, hnew⟩, htup⟩ := R
  exact wpAny_leaves_onW (Around.frames_deeper K.stack) hf hfl fun h' x1 x2 =>
    hQ h' ⟨⟨B, hB, fun b o q nm => hBG b o (F.keep b o q) (fun hm => by
      rcases frames_mem hf hm with z | z
      · rw [z, kts_self F] at q
        cases q
      · exact nm z), fun q hq => ⟨(hl q hq).1, kts_none F.keep (hl q hq).2.1, (hl q hq).2.2⟩, x1, hnew⟩, htup.of_slots x2⟩ ((Heap.UpToSlots.of_keeps F.keep).trans (hsm.trans x2))
end

/-- what a call that throws an ApiError hands its caller (the frame L of env) -/
def Thrown (base h₀ : Heap) (env : Env) (outer : List Env) (L : Addr) (m : Str → Option Value) (news : List (Addr × Obj)) (s : Shared) (E : Value → Shared → Prop) : Prop :=
  ∀ e t vs h' tk g₂, Fr h₀ L g₂ m → RaisedS base g₂ (env :: outer) e (.ref 31) t vs news h' → g₂.UpToSlots h' → E (.ref e) { s with heap := h', toks := tk }

def placeOf (i b t : Int) : Option Int :=
  if 0 < i then (if b + i - 1 < t then some (b + i - 1) else some (-1))
  else if i = 0 ∨ i ≤ -10000 ∨ t + i < b then none else some (t + i)

theorem lines_05_raise : True := by
  k_with "exec Raise some none" => (k_here; k_dflt (refine' api_raise (by k_asm) (by k_asm) (by exact rfl) ?_); (try k_fold))
  k_with "call ref" => (k_here; (with_reducible show wpAny _ _ (call (Value.ref 31) [_]) _ _ _); k_dflt (refine' api_call (by k_asm) (by k_asm) (by k_asm) (by k_asm) (by k_asm) (by first | exact rfl | assumption) (by k_room) ?_; k_whole); intro h' tk' e' t' dd' F' N' ne' nt'; (try dsimp only))
  k_with "Raising" => (k_here; (refine' Raising.intro (by k_asm) (by k_asm) ?_))
  k_with "leaving ref" => (k_here; k_dflt (first
  | (refine' leave_api (by k_asm) (by exact rfl) (by exact rfl) (by k_asm) (by k_asm) (by k_asm) (by k_asm) ?_; k_whole; intro h' R' U')
  | (refine' leave_api2 (by k_asm) (by exact rfl) (by k_asm) (by k_asm) (by k_asm) ?_; k_whole; intro h' R' U')))
  trivial

def TurnEnd {σ : Type} (h₀ : Heap) (L : Addr) (x : Str) (M : σ → Str → Option Value) (Led : σ → List (Addr × Obj)) (J : σ → Prop) (own : List (Addr × Obj)) (adr : List Addr) (s₁ s₂ : Shared) : Prop :=
  ∃ h' tk m' news' c, s₂ = { s₁ with heap := h', toks := tk } ∧ Fr h₀ L h' m' ∧ News h₀ L h' news' ∧ (∀ p ∈ Led c, p ∈ news') ∧ (∀ p ∈ own, p ∈ news') ∧ (Led c).map (·.1) = adr ∧ J c ∧ ∀ y, y ≠ x → m' y = M c y
def TPost {σ : Type} (h₀ : Heap) (L : Addr) (x : Str) (M : σ → Str → Option Value) (Led : σ → List (Addr × Obj)) (J : σ → Prop) (own : List (Addr × Obj)) (adr : List Addr) (s₁ : Shared) (Q : Flow → Shared → Prop) (f : Flow) (s₂ : Shared) : Prop :=
  match f with
  | .ret v => Q (.ret v) s₂
  | .brk => Q .next s₂
  | _ => TurnEnd h₀ L x M Led J own adr s₁ s₂
theorem TPost.next {σ : Type} {h₀ : Heap} {L : Addr} {x : Str} {M : σ → Str → Option Value} {Led : σ → List (Addr × Obj)} {J : σ → Prop} {own : List (Addr × Obj)} {adr : List Addr} {s₁ : Shared} {Q : Flow → Shared → Prop} {h' : Heap} {tk : Nat} {m' : Str → Option Value} {news' : List (Addr × Obj)} (c : σ)
    (F : Fr h₀ L h' m') (N : News h₀ L h' news') (hn : ∀ p ∈ Led c, p ∈ news') (ho : ∀ p ∈ own, p ∈ news') (ha : (Led c).map (·.1) = adr) (hj : J c) (hm : ∀ y, y ≠ x → m' y = M c y) :
    TPost h₀ L x M Led J own adr s₁ Q .next { s₁ with heap := h', toks := tk } := ⟨h', tk, m', news', c, rfl, F, N, hn, ho, ha, hj, hm⟩
theorem TPost.ret {σ : Type} {h₀ : Heap} {L : Addr} {x : Str} {M : σ → Str → Option Value} {Led : σ → List (Addr × Obj)} {J : σ → Prop} {own : List (Addr × Obj)} {adr : List Addr} {s₁ s₂ : Shared} {Q : Flow → Shared → Prop} {v : Value} (h : Q (.ret v) s₂) :
    TPost h₀ L x M Led J own adr s₁ Q (.ret v) s₂ := h

section
variable {prog : Program} {w : World} {A : Around} {E : Value → Shared → Prop} {s : Shared} {env : Env} {h₀ : Heap} {x : Str} {body : List Stmt} {Q : Flow → Shared → Prop}

theorem frame_split {L : Addr} {h : Heap} {m m' : Str → Option Value} (F : Fr h₀ L h m) (hm : ∀ y, y ≠ x → m y = m' y) : Fr h₀ L h (fun y => if y = x then m x else m' y) := by
  have e : m = fun y => if y = x then m x else m' y := by
    funext y
    by_cases hy : y = x
    · simp [hy]
    · simp [hy, hm y hy]
  exact e ▸ F
theorem frame_over {L : Addr} {h : Heap} {m m' : Str → Option Value} {v : Option Value} (F : Fr h₀ L h (fun y => if y = x then v else m y)) (hm : ∀ y, y ≠ x → m y = m' y) : Fr h₀ L h (fun y => if y = x then v else m' y) := by
  have e : (fun y => if y = x then v else m y) = fun y => if y = x then v else m' y := by
    funext y
    by_cases hy : y = x
    · simp [hy]
    · simp [hy, hm y hy]
  exact e ▸ F

theorem my_range {σ : Type} {r : Addr} {a b st : Int} {t₀ u₀ v₀ : Tok} {n : Nat} {m₀ : Str → Option Value} (M : σ → Str → Option Value) (Led : σ → List (Addr × Obj)) (J : Nat → σ → Prop) (c₀ : σ)
    (hh : A.handled = none) (hr : IsRange s.heap r a b st t₀ u₀ v₀) (hsmall : Builtin.Range.small a b st = true) (hn : Builtin.Range.rangeSize a b st = (n : Int)) (F : Fr h₀ env.locals s.heap m₀) (N : News h₀ env.locals s.heap (Led c₀)) (hj : J 0 c₀) (hm : ∀ y, y ≠ x → m₀ y = M c₀ y)
    (turn : ∀ i c t h tk own, i < n → OwnOff own ((Led c₀).map (·.1)) → (Led c).map (·.1) = (Led c₀).map (·.1) → J i c → Fr h₀ env.locals h (fun y => if y = x then some (.int (a + (i : Nat) * st) t) else M c y) → News h₀ env.locals h (Led c ++ own) →
      wpAny (model prog w) A (execs body env) (TPost h₀ env.locals x M Led (J (i + 1)) own ((Led c₀).map (·.1)) { s with heap := h, toks := tk } Q) E { s with heap := h, toks := tk })
    (done : ∀ c u h tk, J n c → Fr h₀ env.locals h (fun y => if y = x then u else M c y) → News h₀ env.locals h (Led c) → Q .next { s with heap := h, toks := tk }) :
    wpAny (model prog w) A (pyIter (.ref r)) (fun it s₂ => LoopAtV prog w A h₀ env x body Q E it s₂) E s := by
  refine wpAny_pyIter_range hr hsmall ?_
  have W : Walks prog w A s.heap.objs.size [s.heap.objs.size] [s.heap.objs.size] n (fun i v => i < n ∧ ∃ t, v = .int (a + i * st) t)
      (fun i h => IsRangeIter h s.heap.objs.size (a + (i : Nat) * st) ((n : Int) - (i : Nat)) st) := (Walks.range hh _ a st n).bound
  refine loop_invN (fun i m nx => ∃ c, nx = Led c ∧ J i c ∧ ∀ y, y ≠ x → m y = M c y) W ?_ ?_ ?_ ?_ (by show IsRangeIter _ _ _ _ _; rw [hn]; simpa using Heap.get?_push_size _ rfl) (F.push _) (fun p hp => ⟨Heap.get?_push_of_some _ (N p hp).1, (N p hp).2⟩) ⟨c₀, rfl, hj, hm⟩ ?_ ?_
  · intro hm
    exact absurd F.ns.lt ((List.mem_singleton.mp hm) ▸ Nat.lt_irrefl _)
  · intro b hb
    rw [List.mem_singleton.mp hb]
    exact next_is_new F
  · intro p hp hI
    exact absurd (Heap.lt_size (N p hp).1) ((List.mem_singleton.mp hI) ▸ Nat.lt_irrefl _)
  · intro p hp hI
    exact absurd (Heap.lt_size (N p hp).1) ((List.mem_singleton.mp hI) ▸ Nat.lt_irrefl _)
  · rintro i v m₁ nx h tk own hi ⟨_, t, rfl⟩ hadr hoff ⟨c, rfl, hJ, hm₁⟩ F₁ N₁
    refine wpAny_mono (turn i c t h tk own hi hoff hadr hJ (frame_over F₁ hm₁) N₁) (fun f s₂ p => ?_) fun _ _ e => e
    cases f with
    | ret v => exact p
    | brk => exact p
    | next =>
      obtain ⟨h', tk', m', news', c', e, F', N', q1, q2, q3, q4, q5⟩ := p
      exact ⟨h', tk', m', news', Led c', e, F', N', q1, q2, q3, c', rfl, q4, q5⟩
    | cont =>
      obtain ⟨h', tk', m', news', c', e, F', N', q1, q2, q3, q4, q5⟩ := p
      exact ⟨h', tk', m', news', Led c', e, F', N', q1, q2, q3, c', rfl, q4, q5⟩
  · rintro m₁ nx h tk ⟨c, rfl, hJ, hm₁⟩ F₁ N₁
    exact done c _ h tk hJ (frame_split F₁ hm₁) N₁

theorem my_range0 {σ : Type} {r : Addr} {a b st : Int} {t₀ u₀ v₀ : Tok} {m₀ : Str → Option Value} (n : Nat) (Led : σ → List (Addr × Obj)) (J : Nat → σ → Prop) (c₀ : σ)
    (hh : A.handled = none) (hr : IsRange s.heap r a b st t₀ u₀ v₀) (hsmall : Builtin.Range.small a b st = true) (hn : Builtin.Range.rangeSize a b st = (n : Int)) (F : Fr h₀ env.locals s.heap m₀) (N : News h₀ env.locals s.heap (Led c₀)) (hj : J 0 c₀)
    (turn : ∀ i c t h tk own, i < n → OwnOff own ((Led c₀).map (·.1)) → (Led c).map (·.1) = (Led c₀).map (·.1) → J i c → Fr h₀ env.locals h (fun y => if y = x then some (.int (a + (i : Nat) * st) t) else m₀ y) → News h₀ env.locals h (Led c ++ own) →
      wpAny (model prog w) A (execs body env) (TPost h₀ env.locals x (fun _ => m₀) Led (J (i + 1)) own ((Led c₀).map (·.1)) { s with heap := h, toks := tk } Q) E { s with heap := h, toks := tk })
    (done : ∀ c u h tk, J n c → Fr h₀ env.locals h (fun y => if y = x then u else m₀ y) → News h₀ env.locals h (Led c) → Q .next { s with heap := h, toks := tk }) :
    wpAny (model prog w) A (pyIter (.ref r)) (fun it s₂ => LoopAtV prog w A h₀ env x body Q E it s₂) E s :=
  my_range (fun _ => m₀) Led J c₀ hh hr hsmall hn F N hj (fun _ _ => rfl) turn done

/-- a for over a list of the ledger that the loop leaves alone; the list stands in every Led c -/
theorem my_forList {σ : Type} {l : Addr} {vs : List Value} {nn : Nat} {m₀ : Str → Option Value} (M : σ → Str → Option Value) (Led : σ → List (Addr × Obj)) (J : Nat → σ → Prop) (c₀ : σ)
    (hh : A.handled = none) (hl : ∀ c, (l, listOf vs.toArray nn) ∈ Led c) (F : Fr h₀ env.locals s.heap m₀) (N : News h₀ env.locals s.heap (Led c₀)) (hj : J 0 c₀) (hm : ∀ y, y ≠ x → m₀ y = M c₀ y)
    (turn : ∀ i v c h tk own, i < vs.length → vs[i]? = some v → OwnOff own ((Led c₀).map (·.1)) → (Led c).map (·.1) = (Led c₀).map (·.1) → J i c → Fr h₀ env.locals h (fun y => if y = x then some v else M c y) → News h₀ env.locals h (Led c ++ own) →
      wpAny (model prog w) A (execs body env) (TPost h₀ env.locals x M Led (J (i + 1)) own ((Led c₀).map (·.1)) { s with heap := h, toks := tk } Q) E { s with heap := h, toks := tk })
    (done : ∀ c u h tk, J vs.length c → Fr h₀ env.locals h (fun y => if y = x then u else M c y) → News h₀ env.locals h (Led c) → Q .next { s with heap := h, toks := tk }) :
    wpAny (model prog w) A (pyIter (.ref l)) (fun it s₂ => LoopAtV prog w A h₀ env x body Q E it s₂) E s := by
  have hol : s.heap.get? l = some (listOf vs.toArray nn) := (N _ (hl c₀)).1
  have hls : s.heap.IsList l vs.toArray := ⟨_, hol, rfl, nn, rfl⟩
  have hne : l ≠ s.heap.objs.size := Nat.ne_of_lt (Heap.lt_size hol)
  refine wpAny_pyIter_list hls ?_
  have W := Walks.list (prog := prog) (w := w) hh s.heap.objs.size l hne vs.toArray
  have hlen : vs.toArray.size = vs.length := by simp
  rw [hlen] at W
  refine ⟨_, _, _, vs.length, _, _, m₀, Led c₀, (fun i m nx => nx.map (·.1) = (Led c₀).map (·.1) ∧ ∃ c, nx = Led c ∧ J i c ∧ ∀ y, y ≠ x → m y = M c y), rfl, W, ?_, ?_, ?_, ⟨⟨_, Heap.get?_push_size _ rfl, rfl, rfl⟩, hls.at fun o e => Heap.get?_push_of_some _ e⟩, F.push _, (fun p hp => ⟨Heap.get?_push_of_some _ (N p hp).1, (N p hp).2⟩), ⟨rfl, c₀, rfl, hj, hm⟩, ?_, ?_⟩
  · intro hm
    rcases List.mem_cons.mp hm with e | hm
    · exact absurd F.ns.lt (e ▸ Nat.lt_irrefl _)
    · exact (N _ (hl c₀)).2.1 ((List.mem_singleton.mp hm).symm)
  · intro b hb
    rw [List.mem_singleton.mp hb]
    exact next_is_new F
  · intro p hp hI
    exact absurd (Heap.lt_size (N p hp).1) ((List.mem_singleton.mp hI) ▸ Nat.lt_irrefl _)
  · rintro i v m₁ news₁ s₁ own ⟨hh', tk', rfl⟩ hin hP ⟨hadr, c, rfl, hJ, hm₁⟩ hoff hown hget hfp _ F₁ N₁
    have hsep : OwnOff (own.filter fun p => decide (p.1 = s.heap.objs.size)) ((Led c₀).map (·.1)) := by
      intro p hp b hb e
      obtain ⟨q, hq, rfl⟩ := List.mem_map.mp hb
      have h1 : p.1 = s.heap.objs.size := by simpa using (List.mem_filter.mp hp).2
      exact absurd (Heap.lt_size (N q hq).1) (by rw [← e, h1]; exact Nat.lt_irrefl _)
    have hlt' : i < vs.length := hin
    have hP' : vs[i]? = some v := by simpa using hP
    have N₂ : News h₀ env.locals hh' (Led c ++ own.filter fun p => decide (p.1 = s.heap.objs.size)) := fun p hp => N₁ p ((List.mem_append.mp hp).elim (fun h => List.mem_append.mpr (.inr h)) fun h => List.mem_append.mpr (.inl ((List.mem_filter.mp h).1)))
    have hlo : hh'.get? l = some (listOf vs.toArray nn) := (N₁ _ (List.mem_append.mpr (.inr (hl c)))).1
    refine wpAny_mono (turn i v c hh' tk' _ hlt' hP' hsep hadr hJ (frame_over F₁ hm₁) N₂) (fun f s₂ p => ?_) fun _ _ e => e
    have fin : TurnEnd h₀ env.locals x M Led (J (i + 1)) (own.filter fun p => decide (p.1 = s.heap.objs.size)) ((Led c₀).map (·.1)) { s with heap := hh', toks := tk' } s₂ →
        LoopStepU h₀ env.locals [s.heap.objs.size] own (fun m nx => nx.map (·.1) = (Led c₀).map (·.1) ∧ ∃ c, nx = Led c ∧ J (i + 1) c ∧ ∀ y, y ≠ x → m y = M c y) { s with heap := hh', toks := tk' } .next s₂ := by
      rintro ⟨h', tk, m', news', c', e, F', N', hn, ho, ha, hj', hm'⟩
      refine ⟨rfl, h', tk, m', Led c', e, F', fun p hp => ?_, fun p hp => ?_, ha, c', rfl, hj', hm'⟩
      · rcases List.mem_append.mp hp with h | h
        · by_cases hI : p.1 = s.heap.objs.size
          · exact N' p (ho p (List.mem_filter.mpr ⟨h, by simpa using hI⟩))
          · have h1 : p.1 = l := by
              rcases List.mem_cons.mp (hown p h) with h2 | h2
              · exact absurd h2 hI
              · exact List.mem_singleton.mp h2
            have h2 : hh'.get? p.1 = some p.2 := hget p h
            rw [h1, hlo] at h2
            have h3 : p = (l, listOf vs.toArray nn) := Prod.ext h1 (Option.some.inj h2).symm
            rw [h3]
            exact N' _ (hn _ (hl c'))
        · exact N' p (hn p h)
      · have h1 : p.1 ∈ (Led c').map (·.1) := List.mem_map.mpr ⟨p, hp, rfl⟩
        rw [ha] at h1
        obtain ⟨q, hq, e⟩ := List.mem_map.mp h1
        intro hI
        exact absurd (Heap.lt_size (N q hq).1) (by rw [e, List.mem_singleton.mp hI]; exact Nat.lt_irrefl _)
    cases f with
    | ret v => exact .ret p
    | brk => exact .brk p
    | next => exact .next (fin p)
    | cont => exact .cont (fin p)
  · rintro h' tk m' news' F' N' _ ⟨_, c, rfl, hJ, hm₁⟩
    exact done c _ h' tk hJ (frame_split F' hm₁) N'
end

theorem lines_07_loop : True := by
  k_with "pyIter ref" => (k_here; refine Stop.out ?_)
  trivial
set_option maxHeartbeats 4000000 in
theorem place_of_c {w : World} {p : Program} {loose : List Str} {mean : ExcName → Option Value} {mg mb : Str → Option Value}
    {dp un : Nat} {gd : Option (List Code)} {cn : Str} {cs : Scope} {a : Addr} {ccd : Value} {cl : List (Str × Addr)} {outer : List Env} {A₀ : Around} {base h₀ : Heap} {L : Addr} {m : Str → Option Value} {s : Shared} {Q E : Value → Shared → Prop} {news : List (Addr × Obj)}
    {i b t : Int} {ti tb tt : Tok}
    (B : Below A₀ base outer h₀) (F : Fr h₀ L s.heap m) (X : (Mine.hd.heap_39 w.params).In h₀) (N : News h₀ L s.heap news) (T : Top p loose mean mg mb h₀) (hk : cs.kind = .function)
    (hd : dp + 5 < recursionLimit) (_hu : un + 100 < cLine)
    (hret : ∀ r, placeOf i b t = some r → ∀ t h' tk', Fr h₀ L h' m → News h₀ L h' news → Q (.int r t) { s with heap := h', toks := tk' })
    (hthr : placeOf i b t = none → Thrown base h₀ (envX cn cs L a ccd cl) outer L m news s E) :
    wpAny (model PySem.Challenge.rw_nt0628_01.row.prog w) (ktrTop dp un gd cn cs L a ccd cl outer) (call (.ref 41) [.int i ti, .int b tb, .int t tt]) Q E s := by
  revert X; k_fill; intro X
  refine wpAny_call ?_
  k_dflt cell_enter
  k_steps
  all_goals (first
    | ((with_reducible rename News h₀ L _ _ => kN); exact hret _ (by simp only [placeOf]; split <;> (try split) <;> first | rfl | (exfalso; omega)) _ _ _ (by assumption) kN)
    | exact hthr (by simp only [placeOf]; split <;> (try split) <;> first | rfl | (exfalso; omega)) _ _ _ _ _ _ (by assumption) (by assumption) (by assumption))

theorem lines_11_placeof : True := by
  k_with "call ref" => (k_here; (with_reducible show wpAny _ _ (call (Value.ref 41) [Value.int _ _, Value.int _ _, Value.int _ _]) _ _ _); k_dflt (refine' place_of_c (by k_asm) (by k_asm) (by k_asm) (by k_asm) (by k_asm) (by first | exact rfl | assumption) (by k_room) (by walk_at "my units") ?_ ?_); ((intro r' hr' t' h' tk' F' N'; (try dsimp only))); (rotate_left; ((intro hz'; unfold Thrown; intro e' t' vs' h' tk' g2' F' R' U'; (try dsimp only)))))
  trivial

def takenPlace (i b t : Int) : Option Int := match placeOf i b t with
  | some r => if r < 0 then none else some r
  | none => none
set_option maxHeartbeats 4000000 in
theorem taken_place_c {w : World} {p : Program} {loose : List Str} {mean : ExcName → Option Value} {mg mb : Str → Option Value}
    {dp un : Nat} {gd : Option (List Code)} {cn : Str} {cs : Scope} {a : Addr} {ccd : Value} {cl : List (Str × Addr)} {outer : List Env} {A₀ : Around} {base h₀ : Heap} {L : Addr} {m : Str → Option Value} {s : Shared} {Q E : Value → Shared → Prop} {news : List (Addr × Obj)}
    {i b t : Int} {ti tb tt : Tok}
    (B : Below A₀ base outer h₀) (F : Fr h₀ L s.heap m) (X : (Mine.hd.heap_39 w.params).In h₀) (N : News h₀ L s.heap news) (T : Top p loose mean mg mb h₀) (hk : cs.kind = .function)
    (hd : dp + 10 < recursionLimit) (hu : un + 200 < cLine)
    (hret : ∀ r, takenPlace i b t = some r → ∀ t h' tk', Fr h₀ L h' m → News h₀ L h' news → Q (.int r t) { s with heap := h', toks := tk' })
    (hthr : takenPlace i b t = none → Thrown base h₀ (envX cn cs L a ccd cl) outer L m news s E) :
    wpAny (model PySem.Challenge.rw_nt0628_01.row.prog w) (ktrTop dp un gd cn cs L a ccd cl outer) (call (.ref 48) [.int i ti, .int b tb, .int t tt]) Q E s := by
  revert X; k_fill; intro X
  refine wpAny_call ?_
  k_dflt cell_enter
  k_steps
  all_goals (first
    | ((with_reducible rename News h₀ L _ _ => kN); (with_reducible rename placeOf _ _ _ = some _ => hr); exact hret _ (by simp only [takenPlace, hr]; rw [if_neg (by omega)]) _ _ _ (by assumption) kN)
    | ((with_reducible rename placeOf _ _ _ = some _ => hr); exact hthr (by simp only [takenPlace, hr]; rw [if_pos (by omega)]) _ _ _ _ _ _ (by assumption) (by assumption) (by assumption))
    | ((with_reducible rename placeOf _ _ _ = none => hr); exact hthr (by simp only [takenPlace, hr]) _ _ _ _ _ _ (by assumption) (by assumption) (by assumption)))

def absVal (i b t : Int) : Option Int := if 0 < i ∨ i ≤ -10000 then some i else (placeOf i b t).map fun r => r - b + 1
set_option maxHeartbeats 4000000 in
theorem absolute_c {w : World} {p : Program} {loose : List Str} {mean : ExcName → Option Value} {mg mb : Str → Option Value}
    {dp un : Nat} {gd : Option (List Code)} {cn : Str} {cs : Scope} {a : Addr} {ccd : Value} {cl : List (Str × Addr)} {outer : List Env} {A₀ : Around} {base h₀ : Heap} {L : Addr} {m : Str → Option Value} {s : Shared} {Q E : Value → Shared → Prop} {news : List (Addr × Obj)}
    {i b t : Int} {ti tb tt : Tok}
    (B : Below A₀ base outer h₀) (F : Fr h₀ L s.heap m) (X : (Mine.hd.heap_39 w.params).In h₀) (N : News h₀ L s.heap news) (T : Top p loose mean mg mb h₀) (hk : cs.kind = .function)
    (hd : dp + 10 < recursionLimit) (hu : un + 200 < cLine)
    (hret : ∀ r, absVal i b t = some r → ∀ t h' tk', Fr h₀ L h' m → News h₀ L h' news → Q (.int r t) { s with heap := h', toks := tk' })
    (hno : absVal i b t ≠ none) :
    wpAny (model PySem.Challenge.rw_nt0628_01.row.prog w) (ktrTop dp un gd cn cs L a ccd cl outer) (call (.ref 55) [.int i ti, .int b tb, .int t tt]) Q E s := by
  revert X; k_fill; intro X
  refine wpAny_call ?_
  k_dflt cell_enter
  k_steps
  all_goals (first
    | ((with_reducible rename News h₀ L _ _ => kN); (with_reducible rename placeOf _ _ _ = some _ => hr); exact hret _ (by simp only [absVal, hr]; rw [if_neg (by omega)]; rfl) _ _ _ (by assumption) kN)
    | ((with_reducible rename News h₀ L _ _ => kN); exact hret _ (by simp only [absVal]; rw [if_pos (by omega)]) _ _ _ (by assumption) kN)
    | ((with_reducible rename placeOf _ _ _ = none => hr); exact absurd (by simp only [absVal, hr]; rw [if_neg (by omega)]; rfl) hno))

set_option maxHeartbeats 4000000 in
theorem need_c {w : World} {p : Program} {loose : List Str} {mean : ExcName → Option Value} {mg mb : Str → Option Value}
    {dp un : Nat} {gd : Option (List Code)} {cn : Str} {cs : Scope} {a : Addr} {ccd : Value} {cl : List (Str × Addr)} {outer : List Env} {A₀ : Around} {base h₀ : Heap} {L : Addr} {m : Str → Option Value} {s : Shared} {Q E : Value → Shared → Prop} {news : List (Addr × Obj)}
    {b t k : Int} {tb tt tk : Tok}
    (B : Below A₀ base outer h₀) (F : Fr h₀ L s.heap m) (X : (Mine.hd.heap_39 w.params).In h₀) (N : News h₀ L s.heap news) (T : Top p loose mean mg mb h₀) (hk : cs.kind = .function)
    (hd : dp + 5 < recursionLimit) (_hu : un + 100 < cLine)
    (hret : k ≤ t - b → ∀ h' tk', Fr h₀ L h' m → News h₀ L h' news → Q .none { s with heap := h', toks := tk' })
    (hthr : t - b < k → Thrown base h₀ (envX cn cs L a ccd cl) outer L m news s E) :
    wpAny (model PySem.Challenge.rw_nt0628_01.row.prog w) (ktrTop dp un gd cn cs L a ccd cl outer) (call (.ref 97) [.int b tb, .int t tt, .int k tk]) Q E s := by
  revert X; k_fill; intro X
  refine wpAny_call ?_
  k_dflt cell_enter
  k_steps
  all_goals (first
    | ((with_reducible rename News h₀ L _ _ => kN); exact hret (by omega) _ _ (by assumption) kN)
    | exact hthr (by omega) _ _ _ _ _ _ (by assumption) (by assumption) (by assumption))

theorem lines_13_leaf : True := by
  k_with "call ref" => (k_here; (with_reducible show wpAny _ _ (call (Value.ref 48) [Value.int _ _, Value.int _ _, Value.int _ _]) _ _ _); k_dflt (refine' taken_place_c (by k_asm) (by k_asm) (by k_asm) (by k_asm) (by k_asm) (by first | exact rfl | assumption) (by k_room) (by walk_at "my units") ?_ ?_); ((intro r' hr' t' h' tk' F' N'; (try dsimp only))); (rotate_left; ((intro hz'; unfold Thrown; intro e' t' vs' h' tk' g2' F' R' U'; (try dsimp only)))))
  k_with "call ref" => (k_here; (with_reducible show wpAny _ _ (call (Value.ref 97) [Value.int _ _, Value.int _ _, Value.int _ _]) _ _ _); k_dflt (refine' need_c (by k_asm) (by k_asm) (by k_asm) (by k_asm) (by k_asm) (by first | exact rfl | assumption) (by k_room) (by walk_at "my units") ?_ ?_); ((intro hz' h' tk' F' N'; (try dsimp only))); (rotate_left; ((intro hz'; unfold Thrown; intro e' t' vs' h' tk' g2' F' R' U'; (try dsimp only)))))
  trivial

theorem led_split {h₀ h : Heap} {L D : Addr} {o : Obj} {news : List (Addr × Obj)} {g : Obj → List (Addr × Obj)} (N : News h₀ L h news) (U : UpdF D o news g) :
    ∃ rest, News h₀ L h ((D, o) :: rest) ∧ (∀ q ∈ rest, q.1 ≠ D) ∧ ∀ h' o', News h₀ L h' ((D, o') :: rest) → News h₀ L h' (g o') := by
  obtain ⟨pre, post, rfl, hg, a, b⟩ := U.split
  refine ⟨pre ++ post, fun p hp => N p ?_, fun q hq => (List.mem_append.mp hq).elim (a q) (b q), fun h' o' N' p hp => ?_⟩
  · rcases List.mem_cons.mp hp with rfl | hp
    · exact List.mem_append_right _ (.head _)
    · exact (List.mem_append.mp hp).elim (fun z => List.mem_append_left _ z) fun z => List.mem_append_right _ (.tail _ z)
  · rw [hg] at hp
    refine N' p ?_
    rcases List.mem_append.mp hp with hp | hp
    · exact .tail _ (List.mem_append_left _ hp)
    · rcases List.mem_cons.mp hp with rfl | hp
      · exact .head _
      · exact .tail _ (List.mem_append_right _ hp)

def pushL (vs : List Value) (i : Nat) (v : Value) : List Value := if i < vs.length then vs.set i v else vs ++ [v]

set_option maxHeartbeats 4000000 in
theorem push_c0 {w : World} {p : Program} {loose : List Str} {mean : ExcName → Option Value} {mg mb : Str → Option Value}
    {dp un : Nat} {gd : Option (List Code)} {cn : Str} {cs : Scope} {a : Addr} {ccd : Value} {cl : List (Str × Addr)} {outer : List Env} {A₀ : Around} {base h₀ : Heap} {L : Addr} {m : Str → Option Value} {s : Shared} {Q E : Value → Shared → Prop} {news : List (Addr × Obj)}
    {st : Addr} {vs : List Value} {n : Nat} {top : Int} {tk : Tok} {v : Value}
    (B : Below A₀ base outer h₀) (F : Fr h₀ L s.heap m) (X : (Mine.hd.heap_39 w.params).In h₀) (N : News h₀ L s.heap ((st, listOf vs.toArray n) :: news)) (hoff : ∀ q ∈ news, q.1 ≠ st) (T : Top p loose mean mg mb h₀) (hk : cs.kind = .function)
    (hd : dp + 5 < recursionLimit) (_hu : un + 100 < cLine) (h0 : 0 ≤ top) (h2 : vs.length < 1000000)
    (hret : ∀ n' t h' tk', Fr h₀ L h' m → News h₀ L h' ((st, listOf (pushL vs top.toNat v).toArray n') :: news) → Q (.int (top + 1) t) { s with heap := h', toks := tk' }) :
    wpAny (model PySem.Challenge.rw_nt0628_01.row.prog w) (ktrTop dp un gd cn cs L a ccd cl outer) (call (.ref 62) [.ref st, .int top tk, v]) Q E s := by
  revert X; k_fill; intro X
  refine wpAny_call ?_
  k_dflt cell_enter
  k_steps
  all_goals ((with_reducible rename News h₀ L _ _ => kN); first | exact hret _ _ _ _ (by assumption) (by unfold pushL; rw [if_pos (by omega)]; exact kN) | exact hret _ _ _ _ (by assumption) (by unfold pushL; rw [if_neg (by omega)]; exact kN))

theorem push_c {w : World} {p : Program} {loose : List Str} {mean : ExcName → Option Value} {mg mb : Str → Option Value}
    {dp un : Nat} {gd : Option (List Code)} {cn : Str} {cs : Scope} {a : Addr} {ccd : Value} {cl : List (Str × Addr)} {outer : List Env} {A₀ : Around} {base h₀ : Heap} {L : Addr} {m : Str → Option Value} {s : Shared} {Q E : Value → Shared → Prop} {news : List (Addr × Obj)}
    {st : Addr} {vs : List Value} {n : Nat} {top : Int} {tk : Tok} {v : Value} {g : Obj → List (Addr × Obj)}
    (B : Below A₀ base outer h₀) (F : Fr h₀ L s.heap m) (X : (Mine.hd.heap_39 w.params).In h₀) (N : News h₀ L s.heap news) (T : Top p loose mean mg mb h₀) (hk : cs.kind = .function) (hd : dp + 5 < recursionLimit) (hu : un + 100 < cLine)
    (U : UpdF st (listOf vs.toArray n) news g) (h0 : 0 ≤ top) (h2 : vs.length < 1000000)
    (hret : ∀ n' t h' tk', Fr h₀ L h' m → News h₀ L h' (g (listOf (pushL vs top.toNat v).toArray n')) → Q (.int (top + 1) t) { s with heap := h', toks := tk' }) :
    wpAny (model PySem.Challenge.rw_nt0628_01.row.prog w) (ktrTop dp un gd cn cs L a ccd cl outer) (call (.ref 62) [.ref st, .int top tk, v]) Q E s := by
  obtain ⟨rest, N1, off, back⟩ := led_split N U
  exact push_c0 B F X N1 off T hk hd hu h0 h2 (fun n' t h' tk' F' N' => hret n' t h' tk' F' (back _ _ N'))

theorem lines_15_push : True := by
  k_with "call ref" => (k_here; (with_reducible show wpAny _ _ (call (Value.ref 62) [Value.ref _, Value.int _ _, _]) _ _ _); k_dflt (refine' push_c (by k_asm) (by k_asm) (by k_asm) (by k_asm) (by k_asm) (by first | exact rfl | assumption) (by k_room) (by walk_at "my units") (by k_updF) (by walk_at "my fact") (by walk_at "my fact") ?_; k_whole); intro n' t' h' tk' F' N'; (try dsimp only at N'); (try dsimp only))
  trivial

set_option maxHeartbeats 4000000 in
theorem replace_c0 {w : World} {p : Program} {loose : List Str} {mean : ExcName → Option Value} {mg mb : Str → Option Value}
    {dp un : Nat} {gd : Option (List Code)} {cn : Str} {cs : Scope} {a : Addr} {ccd : Value} {cl : List (Str × Addr)} {outer : List Env} {A₀ : Around} {base h₀ : Heap} {L : Addr} {m : Str → Option Value} {s : Shared} {Q E : Value → Shared → Prop} {news : List (Addr × Obj)}
    {st : Addr} {vs : List Value} {n : Nat} {pl top : Int} {tk tp : Tok}
    (B : Below A₀ base outer h₀) (F : Fr h₀ L s.heap m) (X : (Mine.hd.heap_39 w.params).In h₀) (N : News h₀ L s.heap ((st, listOf vs.toArray n) :: news)) (hoff : ∀ q ∈ news, q.1 ≠ st) (T : Top p loose mean mg mb h₀) (hk : cs.kind = .function)
    (hd : dp + 5 < recursionLimit) (_hu : un + 100 < cLine) (h0 : 0 ≤ pl) (h1 : pl < top) (h2 : top ≤ vs.length) (h3 : vs.length < 1000000)
    (hret : ∀ n' t h' tk', Fr h₀ L h' m → News h₀ L h' ((st, listOf (vs.set pl.toNat (vs.getD (top - 1).toNat .none)).toArray n') :: news) → Q (.int (top - 1) t) { s with heap := h', toks := tk' }) :
    wpAny (model PySem.Challenge.rw_nt0628_01.row.prog w) (ktrTop dp un gd cn cs L a ccd cl outer) (call (.ref 90) [.ref st, .int pl tp, .int top tk]) Q E s := by
  revert X; k_fill; intro X
  refine wpAny_call ?_
  k_dflt cell_enter
  k_steps
  all_goals ((with_reducible rename News h₀ L _ _ => kN); exact hret _ _ _ _ (by assumption) kN)


def remL (vs : List Value) (pl top : Nat) : List Value := vs.take pl ++ ((vs.take top).drop (pl + 1) ++ vs.drop (top - 1))
theorem remL_length {vs : List Value} {pl top : Nat} (h1 : pl < top) (h2 : top ≤ vs.length) : (remL vs pl top).length = vs.length := by
  simp only [remL, List.length_append, List.length_take, List.length_drop]; lia
theorem remL_zero {vs : List Value} {pl : Nat} (h : pl < vs.length) : remL vs pl (pl + 1) = vs := by
  unfold remL
  rw [List.drop_eq_nil_of_le (by simp; lia), List.nil_append, Nat.add_sub_cancel, List.take_append_drop]
theorem remL_get {vs : List Value} {pl top j : Nat} (h1 : pl < top) (h2 : top ≤ vs.length) : (remL vs pl top)[j]? = if pl ≤ j ∧ j + 1 < top then vs[j + 1]? else vs[j]? := by
  unfold remL
  simp only [List.getElem?_append, List.getElem?_drop, List.getElem?_take, List.length_take, List.length_drop]
  repeat' split
  all_goals first | rfl | (exfalso; lia) | (congr 1; lia)
theorem remL_step {vs : List Value} {pl top : Nat} (h1 : pl < top) (h2 : top < vs.length) : (remL vs pl top).set (top - 1) ((remL vs pl top).getD top .none) = remL vs pl (top + 1) := by
  apply List.ext_getElem?
  intro j
  rw [List.getElem?_set, remL_length h1 (by lia), remL_get h1 (by lia), remL_get (by lia) (by lia), List.getD_eq_getElem?_getD, remL_get h1 (by lia)]
  rw [if_neg (show ¬ (pl ≤ top ∧ top + 1 < top) by lia), List.getElem?_eq_getElem h2]
  repeat' split
  all_goals first | rfl | (exfalso; lia) | (rw [show j + 1 = top by lia, List.getElem?_eq_getElem h2]; rfl)


theorem rangeSize_up (a b : Int) (n : Nat) (h : (b - a).toNat = n) : Builtin.Range.rangeSize a b 1 = (n : Int) := by
  subst h
  unfold Builtin.Range.rangeSize
  simp only [show ((1 : Int) > 0) by decide, if_true, Int.ediv_one]
  split <;> omega
theorem small_up {a b : Int} (ha : -(2 ^ 62) ≤ a) (ha' : a < 2 ^ 62) (hb : -(2 ^ 62) ≤ b) (hb' : b < 2 ^ 62) : Builtin.Range.small a b 1 = true := by
  unfold Builtin.Range.small Builtin.Range.rangeSize
  simp only [Builtin.Range.rangeFitsLong, Bool.and_eq_true, Bool.or_eq_true, decide_eq_true_eq, beq_iff_eq, show ((1 : Int) > 0) by decide, if_true, Int.ediv_one]
  split <;> omega
theorem led_sub {α : Type} {x : α} {rest own : List α} : ∀ p ∈ x :: rest, p ∈ x :: (rest ++ own) := fun p hp => by
  rcases List.mem_cons.mp hp with rfl | hp
  · exact .head _
  · exact .tail _ (List.mem_append_left _ hp)
theorem own_sub {α : Type} {x : α} {rest own : List α} : ∀ p ∈ own, p ∈ x :: (rest ++ own) := fun _ hp => .tail _ (List.mem_append_right _ hp)
theorem offs {own : List (Addr × Obj)} {st : Addr} {rest : List (Addr × Obj)} {adr : List Addr} (h : OwnOff own (st :: adr)) (hr : ∀ q ∈ rest, q.1 ≠ st) : ∀ q ∈ rest ++ own, q.1 ≠ st :=
  fun q hq => (List.mem_append.mp hq).elim (hr q) fun z => h q z st (.head _)

set_option maxHeartbeats 4000000 in
theorem remove_c0 {w : World} {p : Program} {loose : List Str} {mean : ExcName → Option Value} {mg mb : Str → Option Value}
    {dp un : Nat} {gd : Option (List Code)} {cn : Str} {cs : Scope} {a : Addr} {ccd : Value} {cl : List (Str × Addr)} {outer : List Env} {A₀ : Around} {base h₀ : Heap} {L : Addr} {m : Str → Option Value} {s : Shared} {Q E : Value → Shared → Prop} {news : List (Addr × Obj)}
    {st : Addr} {vs : List Value} {n : Nat} {pl top : Int} {tk tp : Tok}
    (B : Below A₀ base outer h₀) (F : Fr h₀ L s.heap m) (X : (Mine.hd.heap_39 w.params).In h₀) (N : News h₀ L s.heap ((st, listOf vs.toArray n) :: news)) (hoff : ∀ q ∈ news, q.1 ≠ st) (T : Top p loose mean mg mb h₀) (hk : cs.kind = .function)
    (hd : dp + 5 < recursionLimit) (_hu : un + 100 < cLine) (h0 : 0 ≤ pl) (h1 : pl < top) (h2 : top ≤ vs.length) (h3 : vs.length < 1000000)
    (hret : ∀ n' t h' tk', Fr h₀ L h' m → News h₀ L h' ((st, listOf (remL vs pl.toNat top.toNat).toArray n') :: news) → Q (.int (top - 1) t) { s with heap := h', toks := tk' }) :
    wpAny (model PySem.Challenge.rw_nt0628_01.row.prog w) (ktrTop dp un gd cn cs L a ccd cl outer) (call (.ref 76) [.ref st, .int pl tp, .int top tk]) Q E s := by
  revert X; k_fill; intro X
  refine wpAny_call ?_
  k_dflt cell_enter
  k_steps
  unfold Stop
  (with_reducible rename Fr _ _ _ _ => kF)
  (with_reducible rename News _ _ _ _ => kN)
  (with_reducible rename IsRange _ _ _ _ _ _ _ _ => kR)
  refine' my_range0 (σ := List Value × Nat) (top - 1 - pl).toNat (fun c => (st, listOf c.1.toArray c.2) :: news) (fun i c => c.1 = remL vs pl.toNat (pl.toNat + i + 1)) (vs, n) rfl kR ?k1 ?k2 kF kN ?k3 ?turn ?done
  case k1 => exact small_up (by omega) (by omega) (by omega) (by omega)
  case k2 => exact rangeSize_up _ _ _ rfl
  case k3 => (show vs = remL vs pl.toNat (pl.toNat + 0 + 1)); exact (remL_zero (by omega)).symm
  case turn =>
    rintro i ⟨ws, n₁⟩ t h tk' own hi hown hadr hJ F1 N1
    simp only at hJ N1
    subst hJ
    have hoffs := offs hown hoff
    have hlen := remL_length (vs := vs) (pl := pl.toNat) (top := pl.toNat + i + 1) (by omega) (by omega)
    simp only [List.cons_append] at N1
    k_steps
    (with_reducible rename Fr _ _ _ _ => F2)
    (with_reducible rename News _ _ _ _ => N2)
    have e1 : (pl + (i : Int) * 1).toNat = pl.toNat + i + 1 - 1 := by omega
    have e2 : (pl + (i : Int) * 1 + 1).toNat = pl.toNat + i + 1 := by omega
    rw [e1, e2, remL_step (by omega) (by omega)] at N2
    exact TPost.next (_, _) F2 N2 led_sub own_sub rfl rfl (fun y hy => if_neg hy)
  case done =>
    rintro ⟨ws, n₁⟩ u h tk' hJ F1 N1
    simp only at hJ N1
    subst hJ
    k_steps
    (with_reducible rename News h₀ L _ _ => kN)
    rw [show pl.toNat + (top - 1 - pl).toNat + 1 = top.toNat by omega] at kN
    exact hret _ _ _ _ (by assumption) kN


def shU (vs : List Value) (lo top : Nat) : List Value := vs.take (lo + 1) ++ ((vs.take (top - 1)).drop lo ++ vs.drop top)
theorem shU_length {vs : List Value} {lo top : Nat} (h1 : lo < top) (h2 : top ≤ vs.length) : (shU vs lo top).length = vs.length := by
  simp only [shU, List.length_append, List.length_take, List.length_drop]; lia
theorem shU_get {vs : List Value} {lo top j : Nat} (h1 : lo < top) (h2 : top ≤ vs.length) : (shU vs lo top)[j]? = if lo < j ∧ j < top then vs[j - 1]? else vs[j]? := by
  unfold shU
  simp only [List.getElem?_append, List.getElem?_drop, List.getElem?_take, List.length_take, List.length_drop]
  repeat' split
  all_goals first | rfl | (exfalso; lia) | (congr 1; lia)
theorem shU_zero {vs : List Value} {top : Nat} (h0 : 0 < top) (h : top ≤ vs.length) : shU vs (top - 1) top = vs := by
  apply List.ext_getElem?
  intro j
  rw [shU_get (by lia) h, if_neg (by lia)]
theorem shU_step {vs : List Value} {lo top : Nat} (h0 : 0 < lo) (h1 : lo < top) (h2 : top ≤ vs.length) : (shU vs lo top).set lo ((shU vs lo top).getD (lo - 1) .none) = shU vs (lo - 1) top := by
  apply List.ext_getElem?
  intro j
  rw [List.getElem?_set, shU_length h1 h2, shU_get h1 h2, shU_get (by lia) h2, List.getD_eq_getElem?_getD, shU_get h1 h2]
  rw [if_neg (show ¬ (lo < lo - 1 ∧ lo - 1 < top) by lia), List.getElem?_eq_getElem (show lo - 1 < vs.length by lia)]
  repeat' split
  all_goals first | rfl | (exfalso; lia) | (subst_vars; rw [List.getElem?_eq_getElem (show _ - 1 < vs.length by lia)]; rfl)
def insL (vs : List Value) (pl top : Nat) : List Value := (shU vs pl top).set pl (vs.getD (top - 1) .none)

set_option maxHeartbeats 4000000 in
theorem insert_c0 {w : World} {p : Program} {loose : List Str} {mean : ExcName → Option Value} {mg mb : Str → Option Value}
    {dp un : Nat} {gd : Option (List Code)} {cn : Str} {cs : Scope} {a : Addr} {ccd : Value} {cl : List (Str × Addr)} {outer : List Env} {A₀ : Around} {base h₀ : Heap} {L : Addr} {m : Str → Option Value} {s : Shared} {Q E : Value → Shared → Prop} {news : List (Addr × Obj)}
    {st : Addr} {vs : List Value} {n : Nat} {pl top : Int} {tk tp : Tok}
    (B : Below A₀ base outer h₀) (F : Fr h₀ L s.heap m) (X : (Mine.hd.heap_39 w.params).In h₀) (N : News h₀ L s.heap ((st, listOf vs.toArray n) :: news)) (hoff : ∀ q ∈ news, q.1 ≠ st) (T : Top p loose mean mg mb h₀) (hk : cs.kind = .function)
    (hd : dp + 5 < recursionLimit) (_hu : un + 100 < cLine) (h0 : 0 ≤ pl) (h1 : pl < top) (h2 : top ≤ vs.length) (h3 : vs.length < 1000000)
    (hret : ∀ n' h' tk', Fr h₀ L h' m → News h₀ L h' ((st, listOf (insL vs pl.toNat top.toNat).toArray n') :: news) → Q .none { s with heap := h', toks := tk' }) :
    wpAny (model PySem.Challenge.rw_nt0628_01.row.prog w) (ktrTop dp un gd cn cs L a ccd cl outer) (call (.ref 83) [.ref st, .int pl tp, .int top tk]) Q E s := by
  revert X; k_fill; intro X
  refine wpAny_call ?_
  k_dflt cell_enter
  k_steps
  unfold Stop
  (with_reducible rename Fr _ _ _ _ => kF)
  (with_reducible rename News _ _ _ _ => kN)
  (with_reducible rename IsRange _ _ _ _ _ _ _ _ => kR)
  refine' my_range0 (σ := List Value × Nat) (top - 1 - pl).toNat (fun c => (st, listOf c.1.toArray c.2) :: news) (fun i c => c.1 = shU vs (top.toNat - 1 - i) top.toNat) (vs, n) rfl kR ?k1 ?k2 kF kN ?k3 ?turn ?done
  case k1 => exact small_down (by omega) (by omega) (by omega) (by omega)
  case k2 => exact rangeSize_downNat _ _
  case k3 => (show vs = shU vs (top.toNat - 1 - 0) top.toNat); exact (shU_zero (by omega) (by omega)).symm
  case turn =>
    rintro i ⟨ws, n₁⟩ t h tk' own hi hown hadr hJ F1 N1
    simp only at hJ N1
    subst hJ
    have hoffs := offs hown hoff
    have hlen := shU_length (vs := vs) (lo := top.toNat - 1 - i) (top := top.toNat) (by omega) (by omega)
    simp only [List.cons_append] at N1
    k_steps
    (with_reducible rename Fr _ _ _ _ => F2)
    (with_reducible rename News _ _ _ _ => N2)
    have e1 : (top - 1 + (i : Int) * -1).toNat = top.toNat - 1 - i := by omega
    have e2 : (top - 1 + (i : Int) * -1 - 1).toNat = top.toNat - 1 - i - 1 := by omega
    rw [e1, e2, shU_step (by omega) (by omega) (by omega), show top.toNat - 1 - i - 1 = top.toNat - 1 - (i + 1) by omega] at N2
    exact TPost.next (_, _) F2 N2 led_sub own_sub rfl rfl (fun y hy => if_neg hy)
  case done =>
    rintro ⟨ws, n₁⟩ u h tk' hJ F1 N1
    simp only at hJ N1
    rw [show top.toNat - 1 - (top - 1 - pl).toNat = pl.toNat by omega] at hJ
    subst hJ
    have hlen := shU_length (vs := vs) (lo := pl.toNat) (top := top.toNat) (by omega) (by omega)
    k_steps
    (with_reducible rename News h₀ L _ _ => kN)
    rw [show (top - 1).toNat = top.toNat - 1 by omega] at kN
    exact hret _ _ _ (by assumption) kN


def WPost {σ : Type} (h₀ : Heap) (L : Addr) (M : σ → Str → Option Value) (Led : σ → List (Addr × Obj)) (J : Nat → σ → Prop) (s : Shared) (Q : Flow → Shared → Prop) (n : Nat) (f : Flow) (s₃ : Shared) : Prop :=
  match f with
  | .next | .cont => ∃ h' tk m' news' c n', s₃ = { s with heap := h', toks := tk } ∧ Fr h₀ L h' m' ∧ News h₀ L h' news' ∧ (∀ p ∈ Led c, p ∈ news') ∧ n' < n ∧ J n' c ∧ ∀ y, m' y = M c y
  | .brk => Q .next s₃
  | .ret v => Q (.ret v) s₃
theorem WPost.next {σ : Type} {h₀ : Heap} {L : Addr} {M : σ → Str → Option Value} {Led : σ → List (Addr × Obj)} {J : Nat → σ → Prop} {s : Shared} {Q : Flow → Shared → Prop} {n tk : Nat} {h' : Heap} {m' : Str → Option Value} {news' : List (Addr × Obj)} (c : σ) (n' : Nat)
    (F : Fr h₀ L h' m') (N : News h₀ L h' news') (hn : ∀ p ∈ Led c, p ∈ news') (hlt : n' < n) (hj : J n' c) (hm : ∀ y, m' y = M c y) : WPost h₀ L M Led J s Q n .next { s with heap := h', toks := tk } :=
  ⟨h', tk, m', news', c, n', rfl, F, N, hn, hlt, hj, hm⟩

section
variable {prog : Program} {w : World} {A : Around} {E : Value → Shared → Prop} {Q : Flow → Shared → Prop} {s : Shared} {env : Env} {h₀ : Heap} {L : Addr}
theorem my_while {σ : Type} {test : PySem.Expr} {body : List Stmt} {pos : Pos} {m₀ : Str → Option Value} (x : Str) (val : σ → Value) (Led : σ → List (Addr × Obj)) (J : Nat → σ → Prop) (c₀ : σ) (n₀ : Nat)
    (F : Fr h₀ L s.heap m₀) (N : News h₀ L s.heap (Led c₀)) (hx : m₀ x = some (val c₀)) (hj : J n₀ c₀)
    (turn : ∀ n c h tk, J n c → Fr h₀ L h (fun y => if y = x then some (val c) else m₀ y) → News h₀ L h (Led c) →
      wpAny (model prog w) A (isTrue test env (eval test env)) (fun b s₂ =>
        if b = true then wpAny (model prog w) A (execs body env) (WPost h₀ L (fun c y => if y = x then some (val c) else m₀ y) Led J s Q n) E s₂ else Q .next s₂) E { s with heap := h, toks := tk })
    (hE : PassesOwn (model prog w) A env E := by passes_own) :
    wpAny (model prog w) A (exec (.While test body [] pos) env) Q E s := by
  have hm₀ : m₀ = fun y => if y = x then some (val c₀) else m₀ y := by
    funext y
    by_cases hy : y = x
    · simp [hy, hx]
    · simp [hy]
  refine wpAny_While (codeAny_whileLoop (fun n s' => ∃ h₁ tk₁ m₁ news₁ c, s' = { s with heap := h₁, toks := tk₁ } ∧ Fr h₀ L h₁ m₁ ∧ News h₀ L h₁ news₁ ∧ (∀ p ∈ Led c, p ∈ news₁) ∧ J n c ∧ m₁ = fun y => if y = x then some (val c) else m₀ y) ?_ n₀ ⟨s.heap, s.toks, m₀, Led c₀, c₀, rfl, F, N, fun _ h => h, hj, hm₀⟩)
  rintro n s' ⟨h₁, tk₁, m₁, news₁, c, rfl, F₁, N₁, hn, hJ, rfl⟩
  refine wpAny_mono (turn n c h₁ tk₁ hJ F₁ (fun p hp => N₁ p (hn p hp))) (fun b s₂ h₂ => ?_) hE
  cases b with
  | false =>
    simp only [Bool.false_eq_true, if_false] at h₂ ⊢
    exact wpAny_execs_nil h₂
  | true =>
    simp only [if_true] at h₂ ⊢
    refine wpAny_mono h₂ (fun f s₃ h₃ => ?_) hE
    cases f with
    | next =>
      obtain ⟨h', tk, m₂, news₂, c', n', rfl, F₂, N₂, hn', hlt, J₂, hm'⟩ := h₃
      exact ⟨n', hlt, h', tk, m₂, news₂, c', rfl, F₂, N₂, hn', J₂, funext hm'⟩
    | cont =>
      obtain ⟨h', tk, m₂, news₂, c', n', rfl, F₂, N₂, hn', hlt, J₂, hm'⟩ := h₃
      exact ⟨n', hlt, h', tk, m₂, news₂, c', rfl, F₂, N₂, hn', J₂, funext hm'⟩
    | brk => exact h₃
    | ret v => exact h₃
end

def padL (vs : List Value) (top : Nat) : Nat → List Value
  | 0 => vs
  | k + 1 => padL (pushL vs top .none) (top + 1) k
theorem pushL_length {vs : List Value} {i : Nat} {v : Value} : (pushL vs i v).length = if i < vs.length then vs.length else vs.length + 1 := by
  unfold pushL; split <;> simp

theorem lines_22_while : True := by
  k_with "exec While Compare cons nil" => (k_here; refine Stop.out ?_)
  trivial
theorem over_over {x : Str} {v v₁ : Value} {m₀ : Str → Option Value} (y : Str) : (if y = x then some v else if y = x then some v₁ else m₀ y) = if y = x then some v else m₀ y := by
  by_cases hy : y = x <;> simp [hy]
theorem WPost.nextI {σ : Type} {h₀ : Heap} {L : Addr} {x : Str} {val : σ → Value} {m₀ : Str → Option Value} {Led : σ → List (Addr × Obj)} {J : Nat → σ → Prop} {s : Shared} {Q : Flow → Shared → Prop} {n tk : Nat} {h' : Heap} {news' : List (Addr × Obj)} {z : Int} {t : Tok} {v₁ : Value} (mkc : Tok → σ) (n' : Nat)
    (F : Fr h₀ L h' (fun y => if y = x then some (.int z t) else if y = x then some v₁ else m₀ y)) (N : News h₀ L h' news') (hv : ∀ t, val (mkc t) = .int z t) (hn : ∀ t, ∀ p ∈ Led (mkc t), p ∈ news') (hlt : n' < n) (hj : ∀ t, J n' (mkc t)) :
    WPost h₀ L (fun c y => if y = x then some (val c) else m₀ y) Led J s Q n .next { s with heap := h', toks := tk } :=
  WPost.next (mkc t) n' F N (hn t) hlt (hj t) (fun y => by rw [hv]; exact over_over y)
structure SetTopC where
  ws : List Value
  n : Nat
  top : Int
  tk : Tok
set_option maxHeartbeats 4000000 in
theorem set_top_c0 {w : World} {p : Program} {loose : List Str} {mean : ExcName → Option Value} {mg mb : Str → Option Value}
    {dp un : Nat} {gd : Option (List Code)} {cn : Str} {cs : Scope} {a : Addr} {ccd : Value} {cl : List (Str × Addr)} {outer : List Env} {A₀ : Around} {base h₀ : Heap} {L : Addr} {m : Str → Option Value} {s : Shared} {Q E : Value → Shared → Prop} {news : List (Addr × Obj)}
    {st : Addr} {vs : List Value} {n : Nat} {b top ix : Int} {tb tk ti : Tok}
    (B : Below A₀ base outer h₀) (F : Fr h₀ L s.heap m) (X : (Mine.hd.heap_39 w.params).In h₀) (N : News h₀ L s.heap ((st, listOf vs.toArray n) :: news)) (hoff : ∀ q ∈ news, q.1 ≠ st) (T : Top p loose mean mg mb h₀) (hk : cs.kind = .function)
    (hd : dp + 10 < recursionLimit) (hu : un + 200 < cLine) (h0 : 0 ≤ b) (h1 : b ≤ top) (h2 : top ≤ vs.length) (h3 : vs.length < 900000) (h4 : b + ix < 900000)
    (hret : (0 ≤ ix ∨ -(ix + 1) ≤ top - b) → ∀ n' t h' tk', Fr h₀ L h' m → News h₀ L h' ((st, listOf (padL vs top.toNat (if 0 ≤ ix then (b + ix - top).toNat else 0)).toArray n') :: news) → Q (.int (if 0 ≤ ix then b + ix else top + ix + 1) t) { s with heap := h', toks := tk' })
    (hthr : ix < 0 → top - b < -(ix + 1) → Thrown base h₀ (envX cn cs L a ccd cl) outer L m ((st, listOf vs.toArray n) :: news) s E) :
    wpAny (model PySem.Challenge.rw_nt0628_01.row.prog w) (ktrTop dp un gd cn cs L a ccd cl outer) (call (.ref 69) [.ref st, .int b tb, .int top tk, .int ix ti]) Q E s := by
  revert X; k_fill; intro X
  refine wpAny_call ?_
  k_dflt cell_enter
  k_steps
  · exact hthr (by omega) (by omega) _ _ _ _ _ _ (by assumption) (by assumption) (by assumption)
  · (with_reducible rename News h₀ L _ _ => kN)
    have h5 := hret (.inr (by omega))
    rw [if_neg (show ¬ 0 ≤ ix by omega), if_neg (show ¬ 0 ≤ ix by omega)] at h5
    exact h5 _ _ _ _ (by assumption) kN
  · unfold Stop
    have h5 := hret (.inl (by omega))
    rw [if_pos (show 0 ≤ ix by omega), if_pos (show 0 ≤ ix by omega)] at h5
    clear hret hthr
    (with_reducible rename Fr _ _ _ _ => kF)
    (with_reducible rename News _ _ _ _ => kN)
    refine' my_while (σ := SetTopC) (Str.ofString "top") (fun c => .int c.top c.tk) (fun c => (st, listOf c.ws.toArray c.n) :: news)
      (fun k c => top ≤ c.top ∧ c.top ≤ c.ws.length ∧ (c.ws.length ≤ vs.length ∨ (c.ws.length : Int) ≤ b + ix) ∧ k = (b + ix - c.top).toNat ∧ padL c.ws c.top.toNat k = padL vs top.toNat (b + ix - top).toNat) ⟨vs, n, top, _⟩ (b + ix - top).toNat kF kN rfl ?k1 ?turn ?hE
    case k1 => exact ⟨Int.le_refl _, h2, .inl (Nat.le_refl _), rfl, rfl⟩
    case hE => passes_own
    case turn =>
      rintro k ⟨ws, n₁, t1, tk1⟩ h tk2 hJ F1 N1
      simp only at hJ N1 F1
      obtain ⟨j1, j2, j3, j4, j5⟩ := hJ
      k_steps
      · (with_reducible rename Fr _ _ _ _ => F2)
        (with_reducible rename News _ _ _ _ => N2)
        obtain ⟨k', rfl⟩ : ∃ k', k = k' + 1 := ⟨k - 1, by omega⟩
        have hl := @pushL_length ws t1.toNat .none
        refine WPost.nextI (fun t => ⟨pushL ws t1.toNat .none, _, t1 + 1, t⟩) k' F2 N2 (fun _ => rfl) (fun _ _ h => h) (Nat.lt_succ_self _) (fun t => ⟨?_, ?_, ?_, ?_, ?_⟩)
        · show top ≤ t1 + 1; omega
        · show t1 + 1 ≤ ((pushL ws t1.toNat .none).length : Int); rw [hl]; split <;> omega
        · show (pushL ws t1.toNat .none).length ≤ vs.length ∨ ((pushL ws t1.toNat .none).length : Int) ≤ b + ix; rw [hl]; split <;> omega
        · show k' = (b + ix - (t1 + 1)).toNat; omega
        · show padL (pushL ws t1.toNat .none) (t1 + 1).toNat k' = _
          rw [show (t1 + 1).toNat = t1.toNat + 1 by omega]; exact j5
      · (with_reducible rename News h₀ L _ _ => kN)
        have k0 : k = 0 := by omega
        subst k0
        change ws = _ at j5
        subst j5
        exact h5 _ _ _ _ (by assumption) kN


theorem pick_ab {vs : List Value} {a b : Int} (h0 : 0 ≤ a) (h1 : a ≤ b) (h2 : b ≤ vs.length) : kms_pick vs.toArray.toList (some a) (some b) = (vs.take b.toNat).drop a.toNat := by
  obtain ⟨x, rfl⟩ := Int.eq_ofNat_of_zero_le h0
  obtain ⟨y, rfl⟩ := Int.eq_ofNat_of_zero_le (show 0 ≤ b by lia)
  have e := kms_pick_eq vs.toArray (some (x : Int)) (some (y : Int))
  rw [slicePick_run vs.toArray x y (by rw [List.size_toArray]; lia) (by lia)] at e
  have e' := congrArg Array.toList e
  simp only at e' ⊢
  rw [← e', List.drop_take]
  rfl
theorem pick_b {vs : List Value} {b : Int} (h0 : 0 ≤ b) : kms_pick vs.toArray.toList none (some b) = vs.take b.toNat := by
  obtain ⟨y, rfl⟩ := Int.eq_ofNat_of_zero_le h0
  have e := kms_pick_eq vs.toArray none (some (y : Int))
  rw [slicePick_upto' vs.toArray y] at e
  have e' := congrArg Array.toList e
  simp only at e' ⊢
  exact e'.symm
theorem pick_a {vs : List Value} {a : Int} (h0 : 0 ≤ a) : kms_pick vs.toArray.toList (some a) none = vs.drop a.toNat := by
  obtain ⟨y, rfl⟩ := Int.eq_ofNat_of_zero_le h0
  have e := kms_pick_eq vs.toArray (some (y : Int)) none
  rw [slicePick_from' vs.toArray y] at e
  have e' := congrArg Array.toList e
  simp only at e' ⊢
  exact e'.symm

section
variable {prog : Program} {w : World} {A : Around} {E : Value → Shared → Prop} {s : Shared} {h₀ : Heap} {L l : Addr} {m : Str → Option Value} {news : List (Addr × Obj)} {vs zs : List Value} {n : Nat} {vl vu : Value} {lo hi : Option Int} {value slice : PySem.Expr} {Q : Value → Shared → Prop}
theorem my_slice (F : Fr h₀ L s.heap m) (N : News h₀ L s.heap news) (hm : (l, listOf vs.toArray n) ∈ news) (pl : IsPart vl lo) (pu : IsPart vu hi) (e : kms_pick vs.toArray.toList lo hi = zs) (hz : vs.length < 1000000)
    (h : ∀ D h', Fr h₀ L h' m → News h₀ L h' ((D, listOf zs.toArray 0) :: news) → (∀ p ∈ news, p.1 < D) → Q (.ref D) { s with heap := h' })
    (hs : subscripted slice false (.ref l) (.ref s.heap.objs.size) = operate [.ref s.heap.objs.size, .ref l] (getItem (.ref l) (.ref s.heap.objs.size))) (ht : ∀ r, letTemporaryGo value (.ref l) r = pure ()) :
    wpAny (model prog w) A (subscriptTail value slice (.ref l) (.ref s.heap.objs.size)) Q E { s with heap := s.heap.push { cls := .type "slice", data := .fields #[vl, vu, .none] } } :=
  kms_slice_lit F N (News.isList N hm) pl pu e h hs ht (by rw [List.size_toArray, sizeLine_eq]; lia)
end

theorem of_allLt {d : Addr} : ∀ {l : List (Addr × Obj)}, AllLt d l → ∀ p ∈ l, p.1 < d
  | [], _, _, h => nomatch h
  | _ :: _, h, _, .head _ => h.1
  | _ :: _, h, p, .tail _ hp => of_allLt h.2 p hp

theorem lines_25_slice : True := by
  k_with "my pick" => first | exact pick_ab (by walk_at "my fact") (by walk_at "my fact") (by walk_at "my fact") | exact pick_b (by walk_at "my fact") | exact pick_a (by walk_at "my fact")
  k_with "subscriptTail Name Slice ref ref" => (k_here; (with_reducible show wpAny _ _ (subscriptTail _ (PySem.Expr.Slice _ _ none _) (Value.ref _) (Value.ref _)) _ _ _); k_dflt (refine' my_slice (by k_asm) (by k_asm) (by k_mem) (by kmk_part) (by kmk_part) (by walk_at "my pick") (by walk_at "my fact") ?_ (by with_unfolding_all rfl) (by kmk_pure)); intro D' h' F' N' l1; (try k_lt l1); (try k_sweep))
  trivial
set_option maxHeartbeats 4000000 in
theorem take_c0 {w : World} {p : Program} {loose : List Str} {mean : ExcName → Option Value} {mg mb : Str → Option Value}
    {dp un : Nat} {gd : Option (List Code)} {cn : Str} {cs : Scope} {a : Addr} {ccd : Value} {cl : List (Str × Addr)} {outer : List Env} {A₀ : Around} {base h₀ : Heap} {L : Addr} {m : Str → Option Value} {s : Shared} {Q E : Value → Shared → Prop} {news : List (Addr × Obj)}
    {st : Addr} {vs : List Value} {n : Nat} {b top k : Int} {tb tk ti : Tok}
    (B : Below A₀ base outer h₀) (F : Fr h₀ L s.heap m) (X : (Mine.hd.heap_39 w.params).In h₀) (N : News h₀ L s.heap news) (hst : (st, listOf vs.toArray n) ∈ news) (T : Top p loose mean mg mb h₀) (hk : cs.kind = .function)
    (hd : dp + 10 < recursionLimit) (hu : un + 200 < cLine) (h0 : 0 ≤ b) (h1 : b ≤ top) (h2 : top ≤ vs.length) (h3 : vs.length < 900000) (h4 : 0 ≤ k)
    (hret : k ≤ top - b → ∀ sl tp t h' tk', Fr h₀ L h' m → News h₀ L h' ((tp, tupObj [.ref sl, .int (top - k) t]) :: (sl, listOf ((vs.take top.toNat).drop (top - k).toNat).toArray 0) :: news) → (∀ q ∈ news, q.1 < sl) → sl < tp → Q (.ref tp) { s with heap := h', toks := tk' })
    (hthr : top - b < k → Thrown base h₀ (envX cn cs L a ccd cl) outer L m news s E) :
    wpAny (model PySem.Challenge.rw_nt0628_01.row.prog w) (ktrTop dp un gd cn cs L a ccd cl outer) (call (.ref 104) [.ref st, .int b tb, .int top tk, .int k ti]) Q E s := by
  revert X; k_fill; intro X
  refine wpAny_call ?_
  k_dflt cell_enter
  k_steps
  · exact hthr (by omega) _ _ _ _ _ _ (by assumption) (by assumption) (by assumption)
  · (with_reducible rename News h₀ L _ _ => kN)
    exact hret (by omega) _ _ _ _ _ (by assumption) kN (by first | assumption | exact of_allLt (by assumption)) (ltN (by omega))

section
variable {prog : Program} {w : World} {A : Around} {E : Value → Shared → Prop} {s : Shared} {env : Env} {h₀ : Heap} {x z : Str} {body : List Stmt} {Q : Flow → Shared → Prop}
theorem my_forList1 {σ : Type} {l : Addr} {vs : List Value} {nn : Nat} {m₀ : Str → Option Value} (z : Str) (val : σ → Value) (Led : σ → List (Addr × Obj)) (J : Nat → σ → Prop) (c₀ : σ)
    (hh : A.handled = none) (hl : ∀ c, (l, listOf vs.toArray nn) ∈ Led c) (F : Fr h₀ env.locals s.heap m₀) (N : News h₀ env.locals s.heap (Led c₀)) (hj : J 0 c₀) (hz : m₀ z = some (val c₀))
    (turn : ∀ i v c h tk own, i < vs.length → vs[i]? = some v → OwnOff own ((Led c₀).map (·.1)) → (Led c).map (·.1) = (Led c₀).map (·.1) → J i c → Fr h₀ env.locals h (fun y => if y = x then some v else if y = z then some (val c) else m₀ y) → News h₀ env.locals h (Led c ++ own) →
      wpAny (model prog w) A (execs body env) (TPost h₀ env.locals x (fun c y => if y = z then some (val c) else m₀ y) Led (J (i + 1)) own ((Led c₀).map (·.1)) { s with heap := h, toks := tk } Q) E { s with heap := h, toks := tk })
    (done : ∀ c u h tk, J vs.length c → Fr h₀ env.locals h (fun y => if y = x then u else if y = z then some (val c) else m₀ y) → News h₀ env.locals h (Led c) → Q .next { s with heap := h, toks := tk }) :
    wpAny (model prog w) A (pyIter (.ref l)) (fun it s₂ => LoopAtV prog w A h₀ env x body Q E it s₂) E s :=
  my_forList (fun c y => if y = z then some (val c) else m₀ y) Led J c₀ hh hl F N hj (fun y _ => by
    by_cases hy : y = z
    · simp [hy, hz]
    · simp [hy]) turn done
theorem TPost.nextI {σ : Type} {L : Addr} {val : σ → Value} {m₀ : Str → Option Value} {Led : σ → List (Addr × Obj)} {J : σ → Prop} {own : List (Addr × Obj)} {adr : List Addr} {s₁ : Shared} {h' : Heap} {tk : Nat} {news' : List (Addr × Obj)} {q : Int} {t : Tok} {v v₁ : Value} (mkc : Tok → σ)
    (F : Fr h₀ L h' (fun y => if y = z then some (.int q t) else if y = x then some v else if y = z then some v₁ else m₀ y)) (N : News h₀ L h' news') (hv : ∀ t, val (mkc t) = .int q t) (hn : ∀ t, ∀ p ∈ Led (mkc t), p ∈ news') (ho : ∀ p ∈ own, p ∈ news') (ha : ∀ t, (Led (mkc t)).map (·.1) = adr) (hj : ∀ t, J (mkc t)) :
    TPost h₀ L x (fun c y => if y = z then some (val c) else m₀ y) Led J own adr s₁ Q .next { s₁ with heap := h', toks := tk } :=
  TPost.next (mkc t) F N (hn t) ho (ha t) (hj t) (fun y hy => by
    rw [hv]
    by_cases hz : y = z
    · simp [hz]
    · simp [hz, hy])
end
theorem drop_of_get {α : Type} {l : List α} {i : Nat} {v : α} (h : l[i]? = some v) : l.drop i = v :: l.drop (i + 1) := by
  obtain ⟨h1, h2⟩ := List.getElem?_eq_some_iff.mp h
  rw [List.drop_eq_getElem_cons h1, h2]
theorem led_sub3 {α : Type} {a b c : α} {rest own : List α} : ∀ p ∈ a :: b :: c :: rest, p ∈ a :: b :: c :: (rest ++ own) := fun p hp => by
  simp only [List.mem_cons, List.mem_append] at hp ⊢; grind
theorem own_sub3 {α : Type} {a b c : α} {rest own : List α} : ∀ p ∈ own, p ∈ a :: b :: c :: (rest ++ own) := fun _ hp => .tail _ (.tail _ (.tail _ (List.mem_append_right _ hp)))
theorem drop23 {α : Type} {a b c d : α} {rest : List α} : ∀ p ∈ a :: d :: rest, p ∈ a :: b :: c :: d :: rest := fun p hp => by
  simp only [List.mem_cons] at hp ⊢; grind

theorem lines_27_take : True := by
  k_with "call ref" => (k_here; (with_reducible show wpAny _ _ (call (Value.ref 104) [Value.ref _, Value.int _ _, Value.int _ _, Value.int _ _]) _ _ _); k_dflt (refine' take_c0 (by k_asm) (by k_asm) (by k_asm) (by k_asm) (by k_mem) (by k_asm) (by first | exact rfl | assumption) (by k_room) (by walk_at "my units") (by walk_at "my fact") (by walk_at "my fact") (by walk_at "my fact") (by walk_at "my fact") (by walk_at "my fact") ?_ ?_); ((intro hz' sl' tp' t' h' tk' F' N' l1 l2; (try dsimp only); (try k_lt l1); (try k_lt2 l2))); (rotate_left; ((intro hz'; unfold Thrown; intro e' t' vs' h' tk' g2' F' R' U'; (try dsimp only)))))
  k_with "TPost" => (k_here; (with_reducible show TPost _ _ _ _ _ _ _ _ _ _ (Flow.ret _) _); refine TPost.ret ?_)
  trivial
theorem lines_27_take2 : True := by
  k_with "exec For Name Name cons nil" => (k_here; (rename Fr _ _ _ _ => lF'); (with_unfolding_all refine' PyProof.Rows.For_invVF lF' (by exact rfl) (by exact rfl) ?_; k_whole))
  k_with "exec For Name BinOp cons nil" => (k_here; (rename Fr _ _ _ _ => lF'); (with_unfolding_all refine' PyProof.Rows.For_invVF lF' (by exact rfl) (by exact rfl) ?_; k_whole))
  k_with "my sub" => (intro p9 hp9; (simp only [List.mem_cons, List.mem_append] at hp9 ⊢); grind)
  trivial
/-- the values pushed one by one -/
def pushAll (os : List Value) (free : Nat) : List Value → List Value
  | [] => os
  | v :: r => pushAll (pushL os free v) (free + 1) r
set_option maxHeartbeats 4000000 in
theorem move_c0 {w : World} {p : Program} {loose : List Str} {mean : ExcName → Option Value} {mg mb : Str → Option Value}
    {dp un : Nat} {gd : Option (List Code)} {cn : Str} {cs : Scope} {a : Addr} {ccd : Value} {cl : List (Str × Addr)} {outer : List Env} {A₀ : Around} {base h₀ : Heap} {L : Addr} {m : Str → Option Value} {s : Shared} {Q E : Value → Shared → Prop} {news : List (Addr × Obj)}
    {st ot : Addr} {vs os : List Value} {n n₂ : Nat} {b top k free : Int} {tb tk ti tf : Tok}
    (B : Below A₀ base outer h₀) (F : Fr h₀ L s.heap m) (X : (Mine.hd.heap_39 w.params).In h₀) (N : News h₀ L s.heap ((ot, listOf os.toArray n₂) :: news)) (hst : (st, listOf vs.toArray n) ∈ news) (hoff : ∀ q ∈ news, q.1 ≠ ot) (T : Top p loose mean mg mb h₀) (hk : cs.kind = .function)
    (hd : dp + 15 < recursionLimit) (hu : un + 300 < cLine) (h0 : 0 ≤ b) (h1 : b ≤ top) (h2 : top ≤ vs.length) (h3 : vs.length < 900000) (h4 : 0 ≤ k) (h5 : k ≤ top - b) (h6 : 0 ≤ free) (h7 : free ≤ os.length) (h8 : os.length + vs.length < 900000)
    (hret : ∀ tp n' t t₂ h' tk', Fr h₀ L h' m → News h₀ L h' ((tp, tupObj [.int (top - k) t, .int (free + k) t₂]) :: (ot, listOf (pushAll os free.toNat ((vs.take top.toNat).drop (top - k).toNat)).toArray n') :: news) → (∀ q ∈ news, q.1 < tp) → ot < tp → Q (.ref tp) { s with heap := h', toks := tk' }) :
    wpAny (model PySem.Challenge.rw_nt0628_01.row.prog w) (ktrTop dp un gd cn cs L a ccd cl outer) (call (.ref 111) [.ref st, .int b tb, .int top tk, .ref ot, .int free tf, .int k ti]) Q E s := by
  revert X; k_fill; intro X
  have hst' : (st, listOf vs.toArray n) ∈ (ot, listOf os.toArray n₂) :: news := .tail _ hst
  refine wpAny_call ?_
  k_dflt cell_enter
  k_steps
  · exfalso; omega
  · unfold Stop
    (with_reducible rename Fr _ _ _ _ => kF)
    (with_reducible rename News _ _ _ _ => kN)
    have hVl : ((vs.take top.toNat).drop (top - k).toNat).length = k.toNat := by simp only [List.length_drop, List.length_take]; omega
    refine' my_forList1 (σ := SetTopC) (Str.ofString "other_top") (fun c => .int c.top c.tk) (fun c => (_, _) :: (_, listOf ((vs.take top.toNat).drop (top - k).toNat).toArray 0) :: (ot, listOf c.ws.toArray c.n) :: news)
      (fun i c => c.top = free + (i : Int) ∧ pushAll c.ws c.top.toNat (((vs.take top.toNat).drop (top - k).toNat).drop i) = pushAll os free.toNat ((vs.take top.toNat).drop (top - k).toNat) ∧ c.top ≤ c.ws.length ∧ c.ws.length ≤ os.length + i) ⟨os, n₂, free, tf⟩ rfl ?hl kF kN ?k1 rfl ?turn ?done
    case hl => exact fun c => .tail _ (.head _)
    case k1 => exact ⟨by simp, by simp, h7, Nat.le_refl _⟩
    case turn =>
      rintro i v ⟨ws, n₁, t1, tk1⟩ h tk2 own hi hv hown hadr hJ F1 N1
      simp only at hJ N1 F1
      obtain ⟨j1, j2, j3, j4⟩ := hJ
      have hoffs : ∀ q ∈ news ++ own, q.1 ≠ ot := fun q hq => (List.mem_append.mp hq).elim (hoff q) fun z => hown q z ot (by simp)
      simp only [List.cons_append] at N1
      rw [hVl] at hi
      k_steps
      (with_reducible rename Fr _ _ _ _ => F2)
      (with_reducible rename News _ _ _ _ => N2)
      have hl := @pushL_length ws t1.toNat v
      rw [drop_of_get hv] at j2
      refine TPost.nextI (fun t => ⟨pushL ws t1.toNat v, _, t1 + 1, t⟩) F2 N2 (fun _ => rfl) (fun _ => led_sub3) own_sub3 (fun _ => rfl) (fun t => ⟨?_, ?_, ?_, ?_⟩)
      · show t1 + 1 = free + ((i + 1 : Nat) : Int); omega
      · show pushAll (pushL ws t1.toNat v) (t1 + 1).toNat _ = _
        rw [show (t1 + 1).toNat = t1.toNat + 1 by omega]; exact j2
      · show t1 + 1 ≤ ((pushL ws t1.toNat v).length : Int); rw [hl]; split <;> omega
      · show (pushL ws t1.toNat v).length ≤ os.length + (i + 1); rw [hl]; split <;> omega
    case done =>
      rintro ⟨ws, n₁, t1, tk1⟩ u h tk2 hJ F1 N1
      simp only at hJ N1 F1
      obtain ⟨j1, j2, j3, j4⟩ := hJ
      rw [List.drop_length] at j2
      change ws = _ at j2
      rw [hVl] at j1
      subst j1
      subst j2
      k_steps
      (with_reducible rename News h₀ L _ _ => kN)
      rw [show free + ((k.toNat : Nat) : Int) = free + k by omega] at kN
      refine hret _ _ _ _ _ _ (by assumption) (fun p hp => kN p (drop23 p hp)) ?_ (ltN (by omega))
      (with_reducible rename _ ∧ _ ∧ _ ∧ AllLt _ _ => l9)
      exact of_allLt l9.2.2.2


def dat : Value → PyData
  | .int i _ => .int i
  | .str x _ => .str x
  | _ => .none
def PlainV : Value → Prop
  | .none => True
  | .int _ _ => True
  | .str x _ => PyData.strOk x = true
  | _ => False
def PlainL (vs : List Value) : Prop := ∀ v ∈ vs, PlainV v
theorem PlainL.cons_iff {v : Value} {vs : List Value} : PlainL (v :: vs) ↔ PlainV v ∧ PlainL vs := by
  unfold PlainL; simp
theorem readsAll_plain {h : Heap} : ∀ {vs : List Value}, PlainL vs → ReadsAll h vs (vs.map dat) []
  | [], _ => .nil
  | v :: vs, p => by
    obtain ⟨p1, p2⟩ := PlainL.cons_iff.mp p
    have r := readsAll_plain (h := h) p2
    have q : Reads h v (dat v) [] := by
      cases v <;> first | exact p1.elim | exact .none | exact .int _ _ | exact .str _ _
    simpa using ReadsAll.cons q r
theorem canLayAll0_plain : ∀ {vs : List Value}, PlainL vs → PyData.canLayAll0 (vs.map dat) = true
  | [], _ => by simp [PyData.canLayAll0]
  | v :: vs, p => by
    obtain ⟨p1, p2⟩ := PlainL.cons_iff.mp p
    have r := canLayAll0_plain p2
    have q : PyData.canLay0 (dat v) = true := by
      cases v <;> first | exact p1.elim | (simp only [dat, PyData.canLay0]; done) | (simp only [dat, PyData.canLay0]; exact p1)
    simp only [List.map_cons, PyData.canLayAll0, q, r, Bool.and_self]
theorem depthAll_plain : ∀ vs : List Value, PyData.depthAll (vs.map dat) ≤ 1
  | [] => by simp [PyData.depthAll]
  | v :: vs => by
    have r := depthAll_plain vs
    have q : PyData.depth (dat v) ≤ 1 := by cases v <;> simp [dat, PyData.depth]
    simp only [List.map_cons, PyData.depthAll]
    lia
theorem shaped_plain {vs : List Value} (p : PlainL vs) : SeqAt.shaped (.list (vs.map dat)) = true := by
  have h1 := depthAll_plain vs
  have h2 : PyData.depth (.list (vs.map dat)) ≤ 64 := by simp only [PyData.depth]; lia
  show (PyData.canLay0 (.list (vs.map dat)) && decide (PyData.depth (.list (vs.map dat)) ≤ 64)) = true
  rw [Bool.and_eq_true]
  exact ⟨by simp only [PyData.canLay0]; exact canLayAll0_plain p, decide_eq_true h2⟩
theorem noMix_plain : ∀ vs : List Value, SeqAt.noMixAll (vs.map dat) (vs.map dat) = true
  | [] => by simp [SeqAt.noMixAll]
  | v :: vs => by
    have q : SeqAt.noMix (dat v) (dat v) = true := by cases v <;> simp [dat, SeqAt.noMix]
    simp [SeqAt.noMixAll, q, noMix_plain vs]
theorem same_plain : ∀ vs : List Value, PySem.Spec.sameAll (vs.map dat) (vs.map dat) = true
  | [] => by simp [PySem.Spec.sameAll]
  | v :: vs => by
    have q : PySem.Spec.same (dat v) (dat v) = true := by cases v <;> simp [dat, PySem.Spec.same]
    simp [PySem.Spec.sameAll, q, same_plain vs]

section
variable {prog : Program} {w : World} {A : Around} {E : Value → Shared → Prop} {s : Shared} {h₀ : Heap} {L a b D : Addr} {m : Str → Option Value} {news : List (Addr × Obj)} {vs us : List Value} {n n₂ : Nat} {g : Obj → List (Addr × Obj)}
theorem reads_plain {h : Heap} (ho : h.get? a = some (listOf vs.toArray n)) (p : PlainL vs) : Reads h (.ref a) (.list (vs.map dat)) [a] :=
  Reads.list ho rfl rfl (by simpa using readsAll_plain p)
theorem my_eq {Q : Value → Shared → Prop} (N : News h₀ L s.heap news) (ha : (a, listOf vs.toArray n) ∈ news) (hb : (b, listOf us.toArray n₂) ∈ news) (pv : PlainL vs) (pu : PlainL us) (e : vs.map dat = us.map dat) (hu : A.units + 64 < cLine)
    (h : Q (.bool true) s) : wpAny (model prog w) A (compareOp .Eq (.ref a) (.ref b)) Q E s :=
  eq_dataH_same (reads_plain (N _ ha).1 pv) (reads_plain (N _ hb).1 pu) (shaped_plain pv) (shaped_plain pu) hu (by simp only [SeqAt.noMix]; rw [← e]; exact noMix_plain vs) (by simp only [PySem.Spec.same]; rw [← e, same_plain]; exact h)
theorem my_ne {Q : Value → Shared → Prop} (N : News h₀ L s.heap news) (ha : (a, listOf vs.toArray n) ∈ news) (hb : (b, listOf us.toArray n₂) ∈ news) (pv : PlainL vs) (pu : PlainL us) (e : vs.map dat = us.map dat) (hu : A.units + 64 < cLine)
    (h : Q (.bool false) s) : wpAny (model prog w) A (compareOp .NotEq (.ref a) (.ref b)) Q E s :=
  ne_dataH_same (reads_plain (N _ ha).1 pv) (reads_plain (N _ hb).1 pu) (shaped_plain pv) (shaped_plain pu) hu (by simp only [SeqAt.noMix]; rw [← e]; exact noMix_plain vs) (by simp only [PySem.Spec.same]; rw [← e, same_plain]; exact h)

theorem my_pop {Q : Value → Shared → Prop} (F : Fr h₀ L s.heap m) (N : News h₀ L s.heap news) (U : UpdF D (listOf vs.toArray n) news g) (h0 : 0 < vs.length) (hsz : vs.length < 1000000)
    (h : ∀ h' n', Fr h₀ L h' m → News h₀ L h' (g (listOf vs.dropLast.toArray n')) → Q (vs.getD (vs.length - 1) .none) { s with heap := h' }) :
    wpAny (model prog w) A (call (.builtin "list.pop") [.ref D]) Q E s := by
  have z : s.heap.get? D = some (listOf vs.toArray n) := by
    obtain ⟨pre, post, rfl, hg, a, b⟩ := U.split
    exact (N (D, listOf vs.toArray n) (List.mem_append.mpr (.inr (.head _)))).1
  have hy : vs.toArray[vs.toArray.size - 1]? = some (vs.getD (vs.length - 1) .none) := by
    rw [List.getD_eq_getElem?_getD, List.getElem?_eq_getElem (show vs.length - 1 < vs.length by lia)]
    simp [List.getElem?_eq_getElem (show vs.length - 1 < vs.length by lia)]
  refine call_meets PySem.F.slot_list_pop ⟨_, z, rfl⟩ PySem.F.entry_list_pop (PySem.F.args_list_pop_1 _) (PySem.MeetsSeq.list_pop_last D vs.toArray n _ hy (by rw [List.size_toArray, sizeLine_eq]; lia)) ⟨z, ?_⟩
  refine my_turn (f := fun xs => xs.eraseIdxIfInBounds (vs.toArray.size - 1)) (ws := vs.dropLast) (Q := fun h' _ => Q _ { s with heap := h' }) F N U ?_ (fun h' n' F' N' => h h' n' F' N')
  apply Array.toList_inj.mp
  simp [Array.eraseIdxIfInBounds, show vs.length - 1 < vs.length by lia, List.eraseIdx_length_sub_one]
theorem my_popAt {Q : Value → Shared → Prop} {k : Int} {u : Tok} (F : Fr h₀ L s.heap m) (N : News h₀ L s.heap news) (U : UpdF D (listOf vs.toArray n) news g) (h0 : 0 ≤ k) (h1 : k < vs.length) (hsz : vs.length < 1000000)
    (h : ∀ h' n', Fr h₀ L h' m → News h₀ L h' (g (listOf (vs.eraseIdx k.toNat).toArray n')) → Q (vs.getD k.toNat .none) { s with heap := h' }) :
    wpAny (model prog w) A (call (.builtin "list.pop") [.ref D, .int k u]) Q E s := by
  have z : s.heap.get? D = some (listOf vs.toArray n) := by
    obtain ⟨pre, post, rfl, hg, a, b⟩ := U.split
    exact (N (D, listOf vs.toArray n) (List.mem_append.mpr (.inr (.head _)))).1
  have hk : k.toNat < vs.length := by lia
  have hy : vs.toArray[k.toNat]? = some (vs.getD k.toNat .none) := by
    rw [List.getD_eq_getElem?_getD, List.getElem?_eq_getElem hk]
    simp [List.getElem?_eq_getElem hk]
  have hs : seqIndex? k vs.toArray.size = some k.toNat := by
    unfold seqIndex?
    simp only [List.size_toArray]
    rw [if_neg (show ¬ k < 0 by lia), if_pos (by simp; lia)]
  refine call_meets PySem.F.slot_list_pop ⟨_, z, rfl⟩ PySem.F.entry_list_pop (PySem.F.args_list_pop_2 _ _) (PySem.MeetsSeq.list_pop_at D vs.toArray n k u k.toNat _ (by simp [Builtin.List.listFitsIndex]; lia) hs hy (by rw [List.size_toArray, sizeLine_eq]; lia)) ⟨z, ?_⟩
  refine my_turn (f := fun xs => xs.eraseIdxIfInBounds k.toNat) (ws := vs.eraseIdx k.toNat) (Q := fun h' _ => Q _ { s with heap := h' }) F N U ?_ (fun h' n' F' N' => h h' n' F' N')
  apply Array.toList_inj.mp
  simp [Array.eraseIdxIfInBounds, hk]
theorem my_insert {Q : Value → Shared → Prop} {k : Int} {u : Tok} {v : Value} (F : Fr h₀ L s.heap m) (N : News h₀ L s.heap news) (U : UpdF D (listOf vs.toArray n) news g) (h0 : 0 ≤ k) (h1 : k ≤ vs.length) (hsz : vs.length < 1000000)
    (h : ∀ h' n', Fr h₀ L h' m → News h₀ L h' (g (listOf (vs.take k.toNat ++ v :: vs.drop k.toNat).toArray n')) → Q .none { s with heap := h' }) :
    wpAny (model prog w) A (call (.builtin "list.insert") [.ref D, .int k u, v]) Q E s := by
  have z : s.heap.get? D = some (listOf vs.toArray n) := by
    obtain ⟨pre, post, rfl, hg, a, b⟩ := U.split
    exact (N (D, listOf vs.toArray n) (List.mem_append.mpr (.inr (.head _)))).1
  refine call_meets PySem.F.slot_list_insert ⟨_, z, rfl⟩ PySem.F.entry_list_insert (PySem.F.args_list_insert_3 _ _ _) (PySem.AutoSeq1.list_insert_list_int_val_1 D vs.toArray n k u v (by simp [Builtin.List.listFitsIndex]; lia) (by rw [List.size_toArray, sizeLine_eq]; lia)) ⟨z, ?_⟩
  refine my_turn (f := fun xs => have k' := if k < 0 then (k + (xs.size : Int)).toNat else min k.toNat xs.size; (xs.extract 0 k').push v ++ xs.extract k') (ws := vs.take k.toNat ++ v :: vs.drop k.toNat) (Q := fun h' _ => Q _ { s with heap := h' }) F N U ?_ (fun h' n' F' N' => h h' n' F' N')
  apply Array.toList_inj.mp
  simp only [if_neg (show ¬ k < 0 by lia), List.size_toArray, Nat.min_eq_left (show k.toNat ≤ vs.length by lia)]
  simp
  rw [List.take_of_length_le (by simp)]
end


theorem wpAny_letGoL {M : Model} {A : Around} {E : Value → Shared → Prop} {s : Shared} {keep : List Value} {Q : Unit → Shared → Prop} (h : Q () s) : ∀ removed : List Value, wpAny M A (PySem.letGo removed keep) Q E s
  | [] => wpAny_pure h
  | _ :: rest => wpAny_bind (wpAny_holding (wpAny_point (wpAny_letGoL h rest)))
theorem bounds_from {k n : Nat} (h : k ≤ n) : sliceBounds (some (k : Int)) none none n = ((k : Int), (n : Int), 1) := by
  simp only [sliceBounds, Option.getD_none]
  simp
  lia

section
variable {prog : Program} {w : World} {A : Around} {E : Value → Shared → Prop} {s : Shared} {h₀ : Heap} {L a b D sl e : Addr} {m : Str → Option Value} {news : List (Addr × Obj)} {vs us : List Value} {n n₂ : Nat} {g : Obj → List (Addr × Obj)}
/-- xs[k:] = [] -/
theorem my_cut {Q : Unit → Shared → Prop} {k : Int} {t : Tok} (F : Fr h₀ L s.heap m) (N : News h₀ L s.heap news) (U : UpdF D (listOf vs.toArray n) news g) (he : (e, listOf #[] n₂) ∈ news) (hne : D ≠ e) (hs : s.heap.IsSliceOf sl (.int k t) .none .none) (h0 : 0 ≤ k) (h1 : k ≤ vs.length) (hsz : vs.length < 1000000)
    (h : ∀ h' n', Fr h₀ L h' m → News h₀ L h' (g (listOf (vs.take k.toNat).toArray n')) → Q () { s with heap := h' }) :
    wpAny (model prog w) A (setItem (.ref D) (.ref sl) (.ref e)) Q E s := by
  have ho : s.heap.get? D = some (listOf vs.toArray n) := by
    obtain ⟨pre, post, rfl, hg, a, b⟩ := U.split
    exact (N (D, listOf vs.toArray n) (List.mem_append.mpr (.inr (.head _)))).1
  have hl : s.heap.IsList D vs.toArray := PySem.IsL.isList (n := n) ho
  have hoe := (N _ he).1
  obtain ⟨os, hos, hcs, hds⟩ := id hs
  have hTs : s.TypeIs (.ref sl) "slice" := ⟨os, hos, hcs⟩
  have hTe : s.TypeIs (.ref e) "list" := ⟨_, hoe, rfl⟩
  unfold setItem
  try with_reducible refine wpAny_holding ?_
  first | refine wpAny_bind (wpAny_pure ?_) | skip
  refine wpAny_bind (wpAny_sequenceKey hl.typeIs (by decide) ?_)
  refine wpAny_bind (wpAny_callSpecial?_slot (name := Str.ofString "__setitem__") hl.typeIs slot_list_setitem
    (wpAny_call_entry slot_list_setitem hl.typeIs entry_list_setitem ?_ (args_list_setitem _ _ _)))
  show wpAny _ _ (Builtin.List.listSubscript? (.ref sl) >>= _) _ _ s
  refine wpAny_bind ?_
  unfold Builtin.List.listSubscript?
  refine wpAny_bind (wpAny_specialOf hTs slice_no_index ?_)
  simp only [Option.isNone_none, if_true]
  refine wpAny_pure ?_
  show wpAny _ _ (typeOf (.ref sl) >>= _) _ _ s
  refine wpAny_bind (wpAny_typeOf hTs ?_)
  rw [if_neg (by decide)]
  rw [listSliceParts_eq]
  refine wpAny_bind (wpAny_bind (wpAny_field hos hds (x := .none) rfl (wpAny_bind (wpAny_listPart .none ?_))))
  rw [if_neg (by decide)]
  refine wpAny_bind (wpAny_field hos hds (x := .int k t) rfl (wpAny_bind (wpAny_listPart (.int k t) ?_)))
  refine wpAny_bind (wpAny_field hos hds (x := .none) rfl (wpAny_bind (wpAny_listPart .none (wpAny_pure ?_))))
  rw [if_neg (show ¬ Builtin.List.listSameRef (.ref D) (.ref e) = true by simp [Builtin.List.listSameRef, hne])]
  refine wpAny_bind ?_
  unfold Builtin.List.listAllItems
  refine wpAny_bind (wpAny_typeOf hTe ?_)
  rw [if_pos (by decide)]
  unfold Builtin.List.listItems
  refine wpAny_bind (m := seqItems? (.ref e)) (wpAny_seqItems hoe rfl (wpAny_pure ?_))
  refine wpAny_bind (wpAny_bind (m := seqItems? (.ref D)) (wpAny_seqItems ho rfl (wpAny_pure ?_)))
  refine wpAny_bind (wpAny_of_eq (sliceIndices_raw (some k) none none _ (by simp)) ?_)
  obtain ⟨j, rfl⟩ := Int.eq_ofNat_of_zero_le h0
  rw [bounds_from (show j ≤ vs.toArray.size by rw [List.size_toArray]; lia)]
  rw [if_pos (by rfl)]
  refine wpAny_bind (wpAny_rule ?_)
  rw [if_neg (by simp [Builtin.List.listTooLong, sizeLine_eq]; lia)]
  refine wpAny_bind (wpAny_updateSeq ho rfl ?_ (by rw [List.size_toArray, sizeLine_eq]; lia) (by simp [sizeLine_eq]; lia))
  refine wpAny_bind (wpAny_letGoL ?_ _)
  refine wpAny_pure ⟨_, rfl, wpAny_pure ?_⟩
  refine my_turn (f := fun xs => xs.extract 0 ((j : Int), (vs.toArray.size : Int), (1 : Int)).1.toNat ++ #[] ++ xs.extract (max ((j : Int), (vs.toArray.size : Int), (1 : Int)).1 ((j : Int), (vs.toArray.size : Int), (1 : Int)).2.1).toNat) (ws := vs.take j) (Q := fun h' _ => Q () { s with heap := h' }) F N U ?_ (fun h' n' F' N' => h h' n' F' N')
  apply Array.toList_inj.mp
  have e1 : (max (j : Int) (vs.toArray.size : Int)).toNat = vs.length := by rw [List.size_toArray]; lia
  simp only [e1]
  simp
end


section
variable {prog : Program} {w : World} {A : Around} {E : Value → Shared → Prop} {s : Shared} {h₀ : Heap} {L a b D : Addr} {m : Str → Option Value} {news : List (Addr × Obj)} {vs us : List Value} {n n₂ : Nat} {g : Obj → List (Addr × Obj)} {v : Value} {x : Int} {u : Tok} {Q : Value → Shared → Prop}
theorem my_add (F : Fr h₀ L s.heap m) (N : News h₀ L s.heap news) (ha : (a, listOf vs.toArray n) ∈ news) (hb : (b, listOf us.toArray n₂) ∈ news) (h1 : vs.length < 1000000) (h2 : us.length < 1000000)
    (h : ∀ D h', Fr h₀ L h' m → News h₀ L h' ((D, listOf (vs ++ us).toArray 0) :: news) → (∀ p ∈ news, p.1 < D) → Q (.ref D) { s with heap := h' }) :
    wpAny (model prog w) A (binaryOp .Add (.ref a) (.ref b)) Q E s :=
  add_lists (vs := vs) (ws := us) (hsz := by rw [sizeLine_eq]; lia) F N (News.isList N ha) (News.isList N hb) (fun h' F' N' => h _ h' F' N' fun p hp => Heap.lt_size (N p hp).1)
theorem my_copy (F : Fr h₀ L s.heap m) (N : News h₀ L s.heap news) (ha : (a, listOf vs.toArray n) ∈ news) (h1 : vs.length < 1000000)
    (h : ∀ D c h', Fr h₀ L h' m → News h₀ L h' ((D, listOf vs.toArray c) :: news) → (∀ q ∈ news, q.1 < D) → Q (.ref D) { s with heap := h' }) :
    wpAny (model prog w) A (call (.type "list") [.ref a]) Q E s :=
  list_copyK F N (News.isList N ha) h (by rw [List.size_toArray, sizeLine_eq]; lia)
theorem rep_flat (v : Value) : ∀ k : Nat, (List.replicate k [v]).flatten = List.replicate k v
  | 0 => rfl
  | k + 1 => by rw [List.replicate_succ, List.flatten_cons, rep_flat v k]; rfl
theorem my_mul (F : Fr h₀ L s.heap m) (N : News h₀ L s.heap news) (ha : (a, listOf [v].toArray n) ∈ news) (hlo : -1000000 ≤ x) (hhi : x < 1000000)
    (h : ∀ D h', Fr h₀ L h' m → News h₀ L h' ((D, listOf (List.replicate x.toNat v).toArray 0) :: news) → (∀ p ∈ news, p.1 < D) → Q (.ref D) { s with heap := h' }) :
    wpAny (model prog w) A (binaryOp .Mult (.ref a) (.int x u)) Q E s := by
  obtain ⟨⟨cls, d, data, sl⟩, ho, hcl, k, hd⟩ := News.isList N ha
  simp only at hcl hd
  subst hcl hd
  refine wpAny_binaryOp_repeat_ref (T := "list") (U := "int") (by decide) ⟨_, ho, rfl⟩ (fun s' => typeIs_int s' x u) noFill_list_mul PySem.F.fills_int_mul PySem.F.slot_int_rmul repeat_list PySem.F.slot_int_index.lookup
    (call_meets PySem.F.slot_int_rmul (typeIs_int s x u) PySem.F.entry_int_rmul (PySem.F.args_int_rmul_2 _ _) (lm_int_rmul_list_any x u a [v].toArray k d sl)
      ⟨ho, rfl, ⟨_, ho, rfl⟩, call_meets PySem.F.slot_list_mul ⟨_, ho, rfl⟩ PySem.F.entry_list_mul (PySem.F.args_list_mul_2 _ _)
        (lm_list_mul_any a [v].toArray k d sl x u (by simp [Builtin.List.listFitsIndex]; lia) (by simp; lia) (by simp [Builtin.List.listTooLong, sizeLine]; lia))
        ⟨ho, ?_⟩⟩)
  have N' := News.push F N { cls := Value.type "list", data := Data.seq (List.foldl (fun x1 x2 => x1 ++ x2) #[] (List.replicate (if [v].toArray.isEmpty = true then 0 else x.toNat) [v].toArray)) }
  rw [listMul_foldl_if, rep_flat] at N'
  rw [listMul_foldl_if, rep_flat]
  exact h _ _ (F.push _) N' (fun p hp => Heap.lt_size (N p hp).1)
theorem my_extend (F : Fr h₀ L s.heap m) (N : News h₀ L s.heap news) (U : UpdF D (listOf vs.toArray n) news g) (hb : (b, listOf us.toArray n₂) ∈ news) (h1 : vs.length < 1000000) (h2 : us.length < 1000000)
    (h : ∀ h' n', Fr h₀ L h' m → News h₀ L h' (g (listOf (vs ++ us).toArray n')) → Q .none { s with heap := h' }) :
    wpAny (model prog w) A (call (.builtin "list.extend") [.ref D, .ref b]) Q E s := by
  have z : s.heap.get? D = some (listOf vs.toArray n) := by
    obtain ⟨pre, post, rfl, hg, a, b⟩ := U.split
    exact (N (D, listOf vs.toArray n) (List.mem_append.mpr (.inr (.head _)))).1
  refine call_meets PySem.F.slot_list_extend ⟨_, z, rfl⟩ PySem.F.entry_list_extend (PySem.F.args_list_extend_2 _ _) (PySem.AutoSeq1.list_extend_list_list_0 D vs.toArray n b us.toArray n₂ (by simp [Builtin.List.listTooLong, sizeLine_eq]; lia) (by rw [List.size_toArray, sizeLine_eq]; lia) (by simp [sizeLine_eq]; lia)) ⟨z, (N _ hb).1, ?_⟩
  refine my_turn (f := fun x => x ++ us.toArray) (ws := vs ++ us) (Q := fun h' _ => Q _ { s with heap := h' }) F N U ?_ (fun h' n' F' N' => h h' n' F' N')
  simp
end


theorem PlainL.take {vs : List Value} (h : PlainL vs) (k : Nat) : PlainL (vs.take k) := fun v hv => h v (List.mem_of_mem_take hv)
theorem PlainL.drop {vs : List Value} (h : PlainL vs) (k : Nat) : PlainL (vs.drop k) := fun v hv => h v (List.mem_of_mem_drop hv)
theorem PlainL.append {vs us : List Value} (h : PlainL vs) (h' : PlainL us) : PlainL (vs ++ us) := fun v hv => (List.mem_append.mp hv).elim (h v) (h' v)
theorem PlainL.nil : PlainL [] := fun _ h => nomatch h
theorem PlainL.cons {v : Value} {vs : List Value} (h : PlainV v) (h' : PlainL vs) : PlainL (v :: vs) := PlainL.cons_iff.mpr ⟨h, h'⟩
theorem PlainL.rep {v : Value} (h : PlainV v) (k : Nat) : PlainL (List.replicate k v) := fun u hu => by rw [(List.mem_replicate.mp hu).2]; exact h
theorem PlainL.getD {vs : List Value} (h : PlainL vs) (k : Nat) : PlainV (vs.getD k .none) := by
  rw [List.getD_eq_getElem?_getD]
  cases q : vs[k]? with
  | none => exact trivial
  | some v => exact h v (List.mem_of_getElem? q)
section
variable {prog : Program} {w : World} {A : Around} {E : Value → Shared → Prop} {s : Shared} {h₀ : Heap} {L D : Addr} {m : Str → Option Value} {news : List (Addr × Obj)} {vs : List Value} {n : Nat} {u : Tok} {Q : Value → Shared → Prop}
theorem my_last {value slice : PySem.Expr} (N : News h₀ L s.heap news) (hm : (D, listOf vs.toArray n) ∈ news) (h0 : 0 < vs.length) (h1 : vs.length < 1000000) (h : Q (vs.getD (vs.length - 1) .none) s)
    (hs : subscripted slice false (.ref D) (.int (-1) u) = operate [.ref D, .int (-1) u] (getItem (.ref D) (.int (-1) u))) :
    wpAny (model prog w) A (subscriptTail value slice (.ref D) (.int (-1) u)) Q E s := by
  have hx : vs[vs.length - 1]? = some (vs.getD (vs.length - 1) .none) := by
    rw [List.getD_eq_getElem?_getD, List.getElem?_eq_getElem (show vs.length - 1 < vs.length by lia)]; rfl
  have hj : seqIndex? (-1) vs.length = some (vs.length - 1) := by
    unfold seqIndex?
    simp only [show ((-1 : Int) < 0) = True by simp, if_true]
    rw [if_pos (by simp; lia)]
    congr 1; lia
  exact kde_neg (PySem.IsL.isList (n := n) (N _ hm).1) (by decide) (by decide) hj hx h hs
end

local macro_rules | `(tactic| k_mem) => `(tactic| assumption)
theorem lines_34_more : True := by
  k_with "my plain" => first | assumption | exact PlainL.nil | (refine PlainL.take ?_ _; walk_at "my plain") | (refine PlainL.drop ?_ _; walk_at "my plain") | (refine PlainL.append ?_ ?_ <;> walk_at "my plain") | (refine PlainL.rep ?_ _; walk_at "my plainV")
  k_with "my plainV" => first | assumption | exact trivial | (refine PlainL.getD ?_ _; walk_at "my plain")
  k_with "my same" => first | with_reducible rfl | exact congrArg (List.map dat) (by with_reducible assumption) | exact congrArg (List.map dat) (Eq.symm (by with_reducible assumption)) | with_reducible assumption
  k_with "compareOp Eq ref ref" => (k_here; (with_reducible show wpAny _ _ (compareOp CmpOp.Eq (Value.ref _) (Value.ref _)) _ _ _); k_dflt (refine' my_eq (by k_asm) (by k_mem) (by k_mem) (by walk_at "my plain") (by walk_at "my plain") (by walk_at "my same") (by walk_at "my units") ?_; k_whole))
  k_with "compareOp NotEq ref ref" => (k_here; (with_reducible show wpAny _ _ (compareOp CmpOp.NotEq (Value.ref _) (Value.ref _)) _ _ _); k_dflt (refine' my_ne (by k_asm) (by k_mem) (by k_mem) (by walk_at "my plain") (by walk_at "my plain") (by walk_at "my same") (by walk_at "my units") ?_; k_whole))
  k_with "call builtin:list.pop" => (k_here; (with_reducible show wpAny _ _ (call (Value.builtin _) [Value.ref _]) _ _ _); k_dflt (refine' my_pop (by k_asm) (by k_asm) (by k_updF) (by walk_at "my fact") (by walk_at "my fact") ?_; k_whole); intro h' n' F' N'; (try dsimp only at N'); (try k_sweep))
  k_with "call builtin:list.pop" => (k_here; (with_reducible show wpAny _ _ (call (Value.builtin _) [Value.ref _, Value.int _ _]) _ _ _); k_dflt (refine' my_popAt (by k_asm) (by k_asm) (by k_updF) (by walk_at "my fact") (by walk_at "my fact") (by walk_at "my fact") ?_; k_whole); intro h' n' F' N'; (try dsimp only at N'); (try k_sweep))
  k_with "call builtin:list.insert" => (k_here; (with_reducible show wpAny _ _ (call (Value.builtin _) [Value.ref _, Value.int _ _, _]) _ _ _); k_dflt (refine' my_insert (by k_asm) (by k_asm) (by k_updF) (by walk_at "my fact") (by walk_at "my fact") (by walk_at "my fact") ?_; k_whole); intro h' n' F' N'; (try dsimp only at N'); (try k_sweep))
  k_with "call builtin:list.extend" => (k_here; (with_reducible show wpAny _ _ (call (Value.builtin _) [Value.ref _, Value.ref _]) _ _ _); k_dflt (refine' my_extend (by k_asm) (by k_asm) (by k_updF) (by k_mem) (by walk_at "my fact") (by walk_at "my fact") ?_; k_whole); intro h' n' F' N'; (try dsimp only at N'); (try k_sweep))
  k_with "getMethod ref" => (k_here; (with_reducible show wpAny _ _ (getMethod (Value.ref _) (PySem.Str.ofString "pop") _) _ _ _); k_dflt (refine' listMethod_K (by k_asm) (by k_mem) PySem.F.slot_list_pop PySem.F.type_list_pop ?_))
  k_with "getMethod ref" => (k_here; (with_reducible show wpAny _ _ (getMethod (Value.ref _) (PySem.Str.ofString "insert") _) _ _ _); k_dflt (refine' listMethod_K (by k_asm) (by k_mem) PySem.F.slot_list_insert PySem.F.type_list_insert ?_))
  k_with "getMethod ref" => (k_here; (with_reducible show wpAny _ _ (getMethod (Value.ref _) (PySem.Str.ofString "extend") _) _ _ _); k_dflt (refine' listMethod_K (by k_asm) (by k_mem) PySem.F.slot_list_extend PySem.F.type_list_extend ?_))
  k_with "binaryOp Add ref ref" => (k_here; (with_reducible show wpAny _ _ (binaryOp _ (Value.ref _) (Value.ref _)) _ _ _); k_dflt (refine' my_add (by k_asm) (by k_asm) (by k_mem) (by k_mem) (by walk_at "my fact") (by walk_at "my fact") ?_; k_whole); intro D' h' F' N' l1; (try k_lt l1); (try k_sweep))
  k_with "binaryOp Mult ref int" => (k_here; (with_reducible show wpAny _ _ (binaryOp _ (Value.ref _) (Value.int _ _)) _ _ _); k_dflt (refine' my_mul (by k_asm) (by k_asm) (by k_mem) (by walk_at "my fact") (by walk_at "my fact") ?_; k_whole); intro D' h' F' N' l1; (try k_lt l1); (try k_sweep))
  k_with "call type:list" => (k_here; (with_reducible show wpAny _ _ (call (Value.type _) [Value.ref _]) _ _ _); k_dflt (refine' my_copy (by k_asm) (by k_asm) (by k_mem) (by walk_at "my fact") ?_; k_whole); intro D' c' h' F' N' l1; (try k_lt l1); (try k_sweep))
  k_with "subscriptTail" => (k_here; (with_reducible show wpAny _ _ (subscriptTail _ _ (Value.ref _) (Value.int (-1) _)) _ _ _); (with_unfolding_all refine' my_last (by k_asm) (by k_mem) (by walk_at "my fact") (by walk_at "my fact") ?_ (by with_unfolding_all rfl); k_whole))
  trivial
set_option maxHeartbeats 4000000 in
theorem law_is_c {w : World} {p : Program} {loose : List Str} {mean : ExcName → Option Value} {mg mb : Str → Option Value}
    {dp un : Nat} {gd : Option (List Code)} {cn : Str} {cs : Scope} {a : Addr} {ccd : Value} {cl : List (Str × Addr)} {outer : List Env} {A₀ : Around} {base h₀ : Heap} {L : Addr} {m : Str → Option Value} {s : Shared} {Q E : Value → Shared → Prop} {news : List (Addr × Obj)}
    {st bl pl : Addr} {vs bs ps : List Value} {n n₂ n₃ : Nat} {b top : Int} {tb tk : Tok}
    (B : Below A₀ base outer h₀) (F : Fr h₀ L s.heap m) (X : (Mine.hd.heap_39 w.params).In h₀) (N : News h₀ L s.heap news) (T : Top p loose mean mg mb h₀) (hk : cs.kind = .function) (hst : (st, listOf vs.toArray n) ∈ news) (hbl : (bl, listOf bs.toArray n₂) ∈ news) (hpl : (pl, listOf ps.toArray n₃) ∈ news)
    (hd : dp + 5 < recursionLimit) (hu : un + 200 < cLine) (h0 : 0 ≤ b) (h1 : b ≤ top) (h2 : top ≤ vs.length) (h3 : vs.length < 900000) (hp : PlainL vs) (hpb : PlainL bs) (hpp : PlainL ps)
    (e1 : vs.take b.toNat = bs) (e2 : (vs.take top.toNat).drop b.toNat = ps) (e3 : top - b = ps.length)
    (hret : ∀ h' tk', Fr h₀ L h' m → News h₀ L h' news → Q (.bool true) { s with heap := h', toks := tk' }) :
    wpAny (model PySem.Challenge.rw_nt0628_01.row.prog w) (ktrTop dp un gd cn cs L a ccd cl outer) (call (.ref 132) [.ref st, .int b tb, .int top tk, .ref bl, .ref pl]) Q E s := by
  revert X; k_fill; intro X
  refine wpAny_call ?_
  k_dflt cell_enter
  k_steps
  all_goals ((with_reducible rename News h₀ L _ _ => kN); first
    | (rw [decide_eq_true (by omega)]; exact hret _ _ (by assumption) (fun p hp => kN p (.tail _ (.tail _ hp))))
    | (exfalso; omega)
    | (exfalso; simp_all; done))

local macro_rules | `(tactic| k_mem) => `(tactic| with_reducible assumption)

def LeaveX (A₀ : Around) (base : Heap) (env : Env) (outer : List Env) (K : Frag) (p : Program) (loose : List Str) (mean : ExcName → Option Value) (mg mb : Str → Option Value) (h₀ : Heap) (L : Addr) (m : Str → Option Value) (g : Heap) (R : Result → Shared → Prop) (v : Value) (s' : Shared) : Prop :=
  ∃ g' L' m' news', KtsTurn ((env :: outer).filterMap (·.frame)) g g' ∧ Fr g' L' s'.heap m' ∧ News g' L' s'.heap news' ∧ ∀ h₀', KtsTurn (outer.filterMap (·.frame)) h₀ h₀' → Fr h₀' L s'.heap m → News h₀' L s'.heap news' → Below A₀ base outer h₀' → K.In h₀' → Top p loose mean mg mb h₀' →
    KtsDicts (outer.filterMap (·.frame)) h₀' → R (.ok (.ret v)) s'
theorem LeaveX.intro {A₀ : Around} {base : Heap} {env : Env} {outer : List Env} {K : Frag} {p : Program} {loose : List Str} {mean : ExcName → Option Value} {mg mb : Str → Option Value} {h₀ : Heap} {L : Addr} {m : Str → Option Value} {g : Heap} {R : Result → Shared → Prop} {v : Value} {s' : Shared} {g' : Heap} {L' : Addr} {m' : Str → Option Value} {news' : List (Addr × Obj)}
    (T : KtsTurn ((env :: outer).filterMap (·.frame)) g g') (F : Fr g' L' s'.heap m') (N : News g' L' s'.heap news')
    (k : ∀ h₀', KtsTurn (outer.filterMap (·.frame)) h₀ h₀' → Fr h₀' L s'.heap m → News h₀' L s'.heap news' → Below A₀ base outer h₀' → K.In h₀' → Top p loose mean mg mb h₀' → KtsDicts (outer.filterMap (·.frame)) h₀' → R (.ok (.ret v)) s') :
    LeaveX A₀ base env outer K p loose mean mg mb h₀ L m g R v s' := ⟨g', L', m', news', T, F, N, k⟩

section
variable {prog : Program} {w : World} {A₀ A : Around} {s : Shared} {base h₀ : Heap} {env : Env} {outer : List Env} {L a f : Addr} {m : Str → Option Value} {news : List (Addr × Obj)} {K : Frag} {p : Program} {loose : List Str} {mean : ExcName → Option Value} {mg mb : Str → Option Value}
    {R : Result → Shared → Prop} {name qual : Str} {params : Arguments} {body : List Stmt} {scope : Scope} {dV kV doc pm cdv ct oc : Value} {an od : Option Addr} {osl : Array (Option Value)} {args : Args} {binds : List (Str × Value)}

theorem ground2 (B : Below A₀ base outer h₀) (F : Fr h₀ L s.heap m) (N : News h₀ L s.heap news) (hA : A.frames = some (env :: outer)) (hf : env.frame = some L) (hke : env.scope.kind = .function) (XB : K.In base) (TB : Top p loose mean mg mb base) (D : KtsDicts (outer.filterMap (·.frame)) h₀) :
    Fr h₀ L (hideAll s.heap (news.map (·.1))) m ∧ Below A base (env :: outer) (hideAll s.heap (news.map (·.1))) ∧ h₀.StaysIn (hideAll s.heap (news.map (·.1))) ∧ KtsDicts ((env :: outer).filterMap (·.frame)) (hideAll s.heap (news.map (·.1))) ∧
      ∀ v s', LeaveX A₀ base env outer K p loose mean mg mb h₀ L m (hideAll s.heap (news.map (·.1))) R v s' → R (.ok (.ret v)) s' := by
  obtain ⟨FG, BG, st, -⟩ := groundX (R := R) B F N hA hf hke
  obtain ⟨oL, es, ep, hLg, hLd, hLk, hLf⟩ := id FG.ns
  refine ⟨FG, BG, st, fun b hb => ?_, fun v s' hl => ?_⟩
  · rcases frames_mem hf hb with rfl | hb
    · exact ⟨oL, es, ep, hLg, hLd⟩
    · obtain ⟨o, es', n', ho', hd'⟩ := D b hb
      exact ⟨o, es', n', st b o ho', hd'⟩
  · obtain ⟨g', L', m', news', T', F', N', k⟩ := hl
    have nL₀ : h₀.get? L = none := kts_self F
    obtain ⟨sl, hs⟩ := T'.up hLg
    obtain ⟨T₁, S₁⟩ := kts_turn_at (h := s'.heap) (fs := outer.filterMap (·.frame)) (g := h₀)
      (fun b hb => by
        obtain ⟨_, o, ho', _⟩ := B.frames.mem hb
        exact ⟨o, ho'⟩)
      (fun b o e nmem => F'.keep b o (T'.other b o (st b o e) (fun q => by
        rcases frames_mem hf q with z | z
        · rw [z, nL₀] at e
          cases e
        · exact nmem z)))
      (fun b o e hm => by
        obtain ⟨sl', hs'⟩ := T'.up (st b o e)
        exact ⟨sl', F'.keep _ _ hs'⟩)
    have B₃ : Below A₀ base outer (ktsHeap s'.heap (outer.filterMap (·.frame)) h₀) := ⟨B.stack, fun b o e => T₁.other b o (B.stays b o e) (fun hm => by
      rw [(B.frames.mem hm).1] at e
      cases e), B.frames.of_keeps fun b o e _ => by
      obtain ⟨sl', hs'⟩ := T₁.up e
      exact ⟨_, hs', rfl⟩⟩
    refine k _ T₁ ⟨⟨_, es, ep, F'.keep _ _ hs, hLd, hLk, hLf⟩, S₁, by rw [T₁.size]; exact F.above⟩ (fun p hp => ⟨(N' p hp).1, fun q => ?_, ?_⟩) B₃ (XB.keeps B₃.stays) (TB.keeps B₃.stays) (D.turn T₁)
    · have := (N' p hp).2.2; rw [q, hs] at this; cases this
    · refine T₁.none_ _ ?_
      cases q : h₀.get? p.1 with
      | none => rfl
      | some o =>
        obtain ⟨sl', hs'⟩ := T'.up (st _ _ q)
        have := (N' p hp).2.2
        rw [hs'] at this
        cases this

theorem code_defX (B : Below A₀ base outer h₀) (F : Fr h₀ L s.heap m) (X₀ : K.In h₀) (N : News h₀ L s.heap news) (T : Top p loose mean mg mb h₀) (XB : K.In base) (TB : Top p loose mean mg mb base) (D : KtsDicts (outer.filterMap (·.frame)) h₀)
    (hA : A.frames = some (env :: outer)) (hf : env.frame = some L) (hke : env.scope.kind = .function)
    (ho : K.lookup f = some ⟨oc, od, .func (fnOf name qual params body scope dV kV doc pm an cdv ct), osl⟩) (hcd : codeIn K cdv qual = true) (hroom : A.depth < recursionLimit)
    (hbind : BindsTo s (fnOf name qual params body scope dV kV doc pm an cdv ct) args binds) (hloc : ∀ y ∈ binds, scope.names.lookup y.1 = some .local)
    (h : ∀ g L' h₁, Fr h₀ L g m → Fr g L' h₁ (fun y => binds.reverse.lookup y) → News g L' h₁ news → Below A base (env :: outer) g → K.In g → Top p loose mean mg mb g → KtsDicts ((env :: outer).filterMap (·.frame)) g →
      wpAny (model prog w) (A.deeper (envOf qual scope L' f cdv)) (execs body (envOf qual scope L' f cdv))
        (fun fl s' => LeaveX A₀ base env outer K p loose mean mg mb h₀ L m g R (match fl with | .ret v => v | _ => .none) s')
        (fun e s' => wpAny (model prog w) (A.deeper (envOf qual scope L' f cdv)) (leaving (envOf qual scope L' f cdv) e) (fun _ s'' => R (.error e) s'') (fun e' s'' => R (.error e') s'') s')
        { s with heap := h₁, toks := s.toks + binds.length })
    (hco : scope.isCoroutine = false) (hgen : scope.isGenerator = false) (hk : scope.kind = .function)
    (hcell : ∀ x ∈ scope.names, x.2 ≠ .cell) : codeAny (model prog w) A (.call (.ref f) args) R s := by
  have X := X₀.keeps F.keep
  obtain ⟨FG, BG, st, DG, lv⟩ := ground2 (R := R) B F N hA hf hke XB TB D
  refine codeAny_call_def (fd := fnOf name qual params body scope dV kV doc pm an cdv ct) (body := body) (binds := binds) hroom (X _ _ ho) rfl (T.nolimit.keeps F.keep) (codeRec_of X hcd) rfl hbind hcell hloc (fun h₁ hns hk₁ => ?_) hco hgen hk
  exact wpAny_mono (h _ s.heap.objs.size h₁ FG ⟨hns, fun b o e => hk₁ b o (of_hideAll _ e), Nat.le_of_eq (hideAll_size _ _)⟩
    (fun p hp => ⟨hk₁ _ _ (N p hp).1, Nat.ne_of_lt (Heap.lt_size (N p hp).1), hideAll_none _ (List.mem_map_of_mem hp)⟩) BG (X₀.keeps st) (T.keeps st) DG) (fun fl s' hl => lv _ _ hl) fun _ _ y => y

theorem code_defXC (B : Below A₀ base outer h₀) (F : Fr h₀ L s.heap m) (X₀ : K.In h₀) (N : News h₀ L s.heap news) (T : Top p loose mean mg mb h₀) (XB : K.In base) (TB : Top p loose mean mg mb base) (D : KtsDicts (outer.filterMap (·.frame)) h₀)
    (hA : A.frames = some (env :: outer)) (hf : env.frame = some L) (hke : env.scope.kind = .function)
    (ho : K.lookup f = some ⟨oc, od, .func (fnOf name qual params body scope dV kV doc pm an cdv ct), osl⟩) (hcd : codeIn K cdv qual = true) (hroom : A.depth < recursionLimit)
    (hbind : BindsTo s (fnOf name qual params body scope dV kV doc pm an cdv ct) args binds) (hkind : (binds.all fun y => scope.names.lookup y.1 == some .local || scope.names.lookup y.1 == some .cell) = true)
    (hnd : ((cellsFrom 0 scope.names []).map (·.1)).Nodup)
    (h : ∀ g L' h₁ tk cells, Fr h₀ L g m → Fr g L' h₁ (bindL (envOfC qual scope L' f cdv).kindOf binds fun _ => none) → News g L' h₁ (cells ++ news) →
      CellsAre (bindC (envOfC qual scope L' f cdv).kindOf binds fun _ => none) (cellsFrom (L' + 1) scope.names []) cells → Below A base (env :: outer) g → K.In g → Top p loose mean mg mb g → KtsDicts ((env :: outer).filterMap (·.frame)) g → (∀ p ∈ news, p.1 < L') →
      wpAny (model prog w) (A.deeper (envOfC qual scope L' f cdv)) (execs body (envOfC qual scope L' f cdv))
        (fun fl s' => LeaveX A₀ base env outer K p loose mean mg mb h₀ L m g R (match fl with | .ret v => v | _ => .none) s')
        (fun e s' => wpAny (model prog w) (A.deeper (envOfC qual scope L' f cdv)) (leaving (envOfC qual scope L' f cdv) e) (fun _ s'' => R (.error e) s'') (fun e' s'' => R (.error e') s'') s')
        { s with heap := h₁, toks := tk })
    (hco : scope.isCoroutine = false) (hgen : scope.isGenerator = false) (hk : scope.kind = .function) : codeAny (model prog w) A (.call (.ref f) args) R s := by
  have X := X₀.keeps F.keep
  obtain ⟨FG, BG, st, DG, lv⟩ := ground2 (R := R) B F N hA hf hke XB TB D
  refine codeAny_call_function hroom (X _ _ ho) rfl hco hgen rfl (codeRec_of X hcd) (hbind _ _ _ _ ?_)
  refine wpAny_newFunctionEnv_cells hk (kindsX hkind _) fun env' he s' x => ?_
  subst he
  refine ⟨(T.nolimit.keeps F.keep).keeps x.toInCall.keep, codeAny_func ?_⟩
  obtain ⟨h₁, tk, rfl, _⟩ := x.done
  have hk₁ := x.toInCall.keep
  obtain ⟨cells, NC, Y⟩ := Cl.news (h₀ := s.heap) (Nat.le_refl _) fun n c hm => ⟨x.cell n c (lookup_of_mem_nodup (cellsFrom_names scope.names 0 (s.heap.objs.size + 1) [] [] rfl ▸ hnd) hm), x.above n c hm⟩
  refine wpAny_mono (h _ s.heap.objs.size h₁ tk cells FG ⟨x.toInCall.ns, fun b o e => hk₁ b o (of_hideAll _ e), Nat.le_of_eq (hideAll_size _ _)⟩ (fun p hp => ?_) Y BG (X₀.keeps st) (T.keeps st) DG (fun p hp => Heap.lt_size (N p hp).1)) (fun fl s' hl => lv _ _ hl) fun _ _ y => y
  rcases List.mem_append.mp hp with hp | hp
  · refine ⟨(NC p hp).1, (NC p hp).2.1, ?_⟩
    cases q : (hideAll s.heap (news.map (·.1))).get? p.1 with
    | none => rfl
    | some o => have := of_hideAll _ q; rw [(NC p hp).2.2] at this; cases this
  · exact ⟨hk₁ _ _ (N p hp).1, Nat.ne_of_lt (Heap.lt_size (N p hp).1), hideAll_none _ (List.mem_map_of_mem hp)⟩
end


/-- what a call of a thing without arguments does: it throws an ApiError, or it comes back; the ledger stands -/
def WorkSpec (w : World) (p : Program) (loose : List Str) (mean : ExcName → Option Value) (mg mb : Str → Option Value) (f : Addr) (news : List (Addr × Obj)) (b : Bool) : Prop :=
  ∀ {dp un : Nat} {gd : Option (List Code)} {cn : Str} {cs : Scope} {a : Addr} {ccd : Value} {cl : List (Str × Addr)} {outer : List Env} {A₀ : Around} {base h₀ : Heap} {L : Addr} {m : Str → Option Value} {s : Shared} {Q E : Value → Shared → Prop},
    Below A₀ base outer h₀ → Fr h₀ L s.heap m → (Mine.hd.heap_39 w.params).In h₀ → News h₀ L s.heap news → Top p loose mean mg mb h₀ → cs.kind = .function → dp + 30 < recursionLimit → un + 500 < cLine →
    (b = false → ∀ r h' tk', Fr h₀ L h' m → News h₀ L h' news → Q r { s with heap := h', toks := tk' }) →
    (b = true → Thrown base h₀ (envX cn cs L a ccd cl) outer L m news s E) →
    wpAny (model PySem.Challenge.rw_nt0628_01.row.prog w) (ktrTop dp un gd cn cs L a ccd cl outer) (call (.ref f) []) Q E s

theorem lines_41_enter : True := by
  k_with "my enterX" => (k_dflt (refine' code_defX (by k_asm) (by k_asm) (by k_asm) (by k_asm) (by k_asm) (by k_asm) (by k_asm) (by k_asm) (by exact rfl) (by exact rfl) (by first | exact rfl | assumption) (by k_is) (by k_is) (by ktr_room) (by exact BindsTo.of_eq rfl) (by exact locs rfl) ?_ (by exact rfl) (by exact rfl) (by exact rfl) (by decide); k_whole); intro g' L' h' FG' F' N' B' X' T' D'; (try dsimp only); (try k_lift B'); (try k_fold))
  k_with "call ref" => (k_here; (with_reducible show wpAny _ _ (call (Value.ref _) []) _ _ _); (rename WorkSpec _ _ _ _ _ _ _ _ _ => hW'); k_dflt (refine' hW' (by k_asm) (by k_asm) (by k_asm) (by k_asm) (by k_asm) (by first | exact rfl | assumption) (by k_room) (by walk_at "my units") ?_ ?_); ((intro hb' r' h' tk' F' N'; (try dsimp only))); (rotate_left; ((intro hb'; unfold Thrown; intro e' t' vs' h' tk' g2' F' R' U'; (try dsimp only)))))
  k_with "callWith ref" => (k_here; (with_reducible show wpAny _ _ (callWith _ (Value.ref _) _ (backTo _ (starEach [] _)) _) _ _ _); k_dflt (refine' callWith_F0 (by exact FnAt.of (by k_asm) (by k_mem)) ?_; k_whole; try dsimp only [List.nil_append, List.cons_append]))
  k_with "LeaveX" => (k_here; k_dflt (refine' LeaveX.intro (by first | assumption | exact KtsTurn.refl) (by k_asm) (by k_asm) ?_; k_whole); intro h0' kT0 kF kN kB kX kT kD; (try dsimp only))
  trivial
set_option maxHeartbeats 4000000 in
theorem refused_c {w : World} {p : Program} {loose : List Str} {mean : ExcName → Option Value} {mg mb : Str → Option Value}
    {dp un : Nat} {gd : Option (List Code)} {cn : Str} {cs : Scope} {a : Addr} {ccd : Value} {cl : List (Str × Addr)} {outer : List Env} {A₀ : Around} {base h₀ : Heap} {L : Addr} {m : Str → Option Value} {s : Shared} {Q E : Value → Shared → Prop} {news : List (Addr × Obj)}
    {f : Addr} {b : Bool} {fn fq : Str} {fp : Arguments} {fb : PySem.Expr} {fs : Scope} {fc : List (Str × Addr)} {fpm fct : Value} {fco : Addr}
    (B : Below A₀ base outer h₀) (F : Fr h₀ L s.heap m) (X : (Mine.hd.heap_39 w.params).In h₀) (N : News h₀ L s.heap news) (T : Top p loose mean mg mb h₀) (hk : cs.kind = .function) (XB : (Mine.hd.heap_39 w.params).In base) (TB : Top p loose mean mg mb base) (D : KtsDicts (outer.filterMap (·.frame)) h₀) (hW : WorkSpec w p loose mean mg mb f news b) (hfn : (f, kla_obj fn fq fp fb fs fc fpm fco fct) ∈ news)
    (hd : dp + 40 < recursionLimit) (hu : un + 600 < cLine)
    (hret : ∀ h₀' h' tk', KtsTurn (outer.filterMap (·.frame)) h₀ h₀' → Fr h₀' L h' m → News h₀' L h' news → Below A₀ base outer h₀' → (Mine.hd.heap_39 w.params).In h₀' → Top p loose mean mg mb h₀' → KtsDicts (outer.filterMap (·.frame)) h₀' → Q (.bool b) { s with heap := h', toks := tk' }) :
    wpAny (model PySem.Challenge.rw_nt0628_01.row.prog w) (ktrTop dp un gd cn cs L a ccd cl outer) (call (.ref 118) [.ref f]) Q E s := by
  revert X; k_fill; intro X
  refine wpAny_call ?_
  walk_at "my enterX"
  k_steps
  · have hb : b = true := by assumption
    subst hb
    (with_reducible rename KtsTurn (List.filterMap _ outer) h₀ _ => kT0)
    exact hret _ _ _ kT0 (by assumption) (by assumption) (by assumption) (by assumption) (by assumption) (by assumption)
  · have hb : b = false := by assumption
    subst hb
    (with_reducible rename KtsTurn (List.filterMap _ outer) h₀ _ => kT0)
    exact hret _ _ _ kT0 (by assumption) (by assumption) (by assumption) (by assumption) (by assumption) (by assumption)

theorem fm2 (q : Int) : q.fmod 2 = q % 2 := Int.fmod_eq_emod_of_nonneg q (by decide)
theorem fm3 (q : Int) : q.fmod 3 = q % 3 := Int.fmod_eq_emod_of_nonneg q (by decide)
theorem fm4 (q : Int) : q.fmod 4 = q % 4 := Int.fmod_eq_emod_of_nonneg q (by decide)
theorem fm5 (q : Int) : q.fmod 5 = q % 5 := Int.fmod_eq_emod_of_nonneg q (by decide)
theorem fm8 (q : Int) : q.fmod 8 = q % 8 := Int.fmod_eq_emod_of_nonneg q (by decide)
theorem fm9 (q : Int) : q.fmod 9 = q % 9 := Int.fmod_eq_emod_of_nonneg q (by decide)
theorem fd2 (q : Int) : q.fdiv 2 = q / 2 := Int.fdiv_eq_ediv_of_nonneg q (by decide)
theorem fd3 (q : Int) : q.fdiv 3 = q / 3 := Int.fdiv_eq_ediv_of_nonneg q (by decide)
theorem fd8 (q : Int) : q.fdiv 8 = q / 8 := Int.fdiv_eq_ediv_of_nonneg q (by decide)

theorem lines_43_fm2 : True := by
  k_with "my fact" => first | walk_at "my om" | ((simp only [fm2, fm3, fm4, fm5, fm8, fm9, fd2, fd3, fd8, List.length_append, List.length_cons, List.length_nil, List.length_take, List.length_drop, List.length_set, List.length_replicate] at *); omega)
  trivial
theorem lines_43_lam : True := by
  k_with "my lamEnter" => (k_dflt (refine' kla_code (by k_asm) (by k_asm) (by k_asm) (by k_asm) (by k_asm) (by exact rfl) (by exact rfl) (by first | exact rfl | assumption) (by k_mem) (by exact codeRec_news (by k_asm) (by k_mem) (by assumption) (by assumption)) (by ktr_room) (by exact rfl) (by exact locs rfl) ?_ (by exact rfl) (by exact rfl) (by exact rfl) (by decide); k_whole); intro g' L' h' FG' F' N' B' X' T'; (try dsimp only); (try k_lift B'); (try k_fold))
  k_with "eval Name" => (k_here; (with_reducible show wpAny _ _ (eval (PySem.Expr.Name _ _) (envX _ _ _ _ _ (List.cons _ _))) _ _ _); k_dflt (refine' nameX_F (by k_asm) (by rfl) (by k_mem) (by k_asm) ?_ (by rfl) (by rfl); k_whole))
  trivial
abbrev noPar : Arguments := { posonlyargs := [], args := [], vararg := none, kwonlyargs := [], kw_defaults := [], kwarg := none, defaults := [] }
abbrev lamScope (names : List (Str × NameKind)) : Scope := { kind := ScopeKind.function, names := names, isGenerator := false, isCoroutine := false, more := [] }
/-- a cell of the ledger and what it holds -/
def CellIn (news : List (Addr × Obj)) (c : Addr) (v : Value) : Prop := ∃ o, (c, o) ∈ news ∧ o.data = .cell (some v)
/-- a code object of the ledger -/
def CodeIn (news : List (Addr × Obj)) (c : Addr) (q : Str) : Prop := ∃ oc vs t, (c, oc) ∈ news ∧ oc.data = .fields vs ∧ vs[1]? = some (.str q t)

set_option maxHeartbeats 4000000 in
theorem lam_place {w : World} {p : Program} {loose : List Str} {mean : ExcName → Option Value} {mg mb : Str → Option Value} {news : List (Addr × Obj)} {f fco ci cb ct : Addr} {fn fq : Str} {fpm fct : Value} {p0 p1 p2 p3 p4 : Pos} {i b t : Int} {ti tb tt : Tok}
    (hf : (f, kla_obj fn fq noPar (.Call (.Name (Str.ofString "place_of") p0) [.Name (Str.ofString "index") p1, .Name (Str.ofString "base") p2, .Name (Str.ofString "top") p3] [] p4)
      (lamScope [(Str.ofString "base", .free), (Str.ofString "index", .free), (Str.ofString "top", .free), (Str.ofString "place_of", .globalImplicit)]) [(Str.ofString "top", ct), (Str.ofString "index", ci), (Str.ofString "base", cb)] fpm fco fct) ∈ news)
    (hc : CodeIn news fco fq) (h1 : CellIn news ci (.int i ti)) (h2 : CellIn news cb (.int b tb)) (h3 : CellIn news ct (.int t tt)) : WorkSpec w p loose mean mg mb f news (placeOf i b t).isNone := by
  obtain ⟨oc, vs, tq, c1, c2, c3⟩ := hc
  obtain ⟨oi, m1, d1⟩ := h1
  obtain ⟨ob, m2, d2⟩ := h2
  obtain ⟨ot, m3, d3⟩ := h3
  unfold WorkSpec
  intro dp un gd cn cs a ccd cl outer A₀ base h₀ L m s Q E B F X N T hk hd hu hret hthr
  revert X; k_fill; intro X
  refine wpAny_call ?_
  walk_at "my lamEnter"
  k_steps
  · (with_reducible rename placeOf _ _ _ = none => hz)
    exact hthr (by rw [hz]; rfl) _ _ _ _ _ _ (by assumption) (by assumption) (by assumption)
  · (with_reducible rename placeOf _ _ _ = some _ => hz)
    (with_reducible rename News h₀ L _ _ => kN)
    exact hret (by rw [hz]; rfl) _ _ _ (by assumption) kN

set_option maxHeartbeats 4000000 in
theorem lam_taken {w : World} {p : Program} {loose : List Str} {mean : ExcName → Option Value} {mg mb : Str → Option Value} {news : List (Addr × Obj)} {f fco ci cb ct : Addr} {fn fq : Str} {fpm fct : Value} {p0 p1 p2 p3 p4 : Pos} {i b t : Int} {ti tb tt : Tok}
    (hf : (f, kla_obj fn fq noPar (.Call (.Name (Str.ofString "taken_place") p0) [.Name (Str.ofString "index") p1, .Name (Str.ofString "base") p2, .Name (Str.ofString "top") p3] [] p4)
      (lamScope [(Str.ofString "base", .free), (Str.ofString "index", .free), (Str.ofString "top", .free), (Str.ofString "taken_place", .globalImplicit)]) [(Str.ofString "top", ct), (Str.ofString "index", ci), (Str.ofString "base", cb)] fpm fco fct) ∈ news)
    (hc : CodeIn news fco fq) (h1 : CellIn news ci (.int i ti)) (h2 : CellIn news cb (.int b tb)) (h3 : CellIn news ct (.int t tt)) : WorkSpec w p loose mean mg mb f news (takenPlace i b t).isNone := by
  obtain ⟨oc, vs, tq, c1, c2, c3⟩ := hc
  obtain ⟨oi, m1, d1⟩ := h1
  obtain ⟨ob, m2, d2⟩ := h2
  obtain ⟨ot, m3, d3⟩ := h3
  unfold WorkSpec
  intro dp un gd cn cs a ccd cl outer A₀ base h₀ L m s Q E B F X N T hk hd hu hret hthr
  revert X; k_fill; intro X
  refine wpAny_call ?_
  walk_at "my lamEnter"
  k_steps
  · (with_reducible rename takenPlace _ _ _ = none => hz)
    exact hthr (by rw [hz]; rfl) _ _ _ _ _ _ (by assumption) (by assumption) (by assumption)
  · (with_reducible rename takenPlace _ _ _ = some _ => hz)
    (with_reducible rename News h₀ L _ _ => kN)
    exact hret (by rw [hz]; rfl) _ _ _ (by assumption) kN

set_option maxHeartbeats 4000000 in
theorem set_top_thr {w : World} {p : Program} {loose : List Str} {mean : ExcName → Option Value} {mg mb : Str → Option Value}
    {dp un : Nat} {gd : Option (List Code)} {cn : Str} {cs : Scope} {a : Addr} {ccd : Value} {cl : List (Str × Addr)} {outer : List Env} {A₀ : Around} {base h₀ : Heap} {L : Addr} {m : Str → Option Value} {s : Shared} {Q E : Value → Shared → Prop} {news : List (Addr × Obj)}
    {st : Addr} {b top ix : Int} {tb tk ti : Tok}
    (B : Below A₀ base outer h₀) (F : Fr h₀ L s.heap m) (X : (Mine.hd.heap_39 w.params).In h₀) (N : News h₀ L s.heap news) (T : Top p loose mean mg mb h₀) (hk : cs.kind = .function) (hd : dp + 10 < recursionLimit) (_hu : un + 200 < cLine) (h0 : ix < 0) (h1 : top - b < -(ix + 1))
    (hthr : Thrown base h₀ (envX cn cs L a ccd cl) outer L m news s E) :
    wpAny (model PySem.Challenge.rw_nt0628_01.row.prog w) (ktrTop dp un gd cn cs L a ccd cl outer) (call (.ref 69) [.ref st, .int b tb, .int top tk, .int ix ti]) Q E s := by
  revert X; k_fill; intro X
  refine wpAny_call ?_
  k_dflt cell_enter
  k_steps
  exact hthr _ _ _ _ _ _ (by assumption) (by assumption) (by assumption)

theorem lines_45_lam : True := by
  k_with "call ref" => (k_here; (with_reducible show wpAny _ _ (call (Value.ref 69) [Value.ref _, Value.int _ _, Value.int _ _, Value.int _ _]) _ _ _); k_dflt (refine' set_top_thr (by k_asm) (by k_asm) (by k_asm) (by k_asm) (by k_asm) (by first | exact rfl | assumption) (by k_room) (by walk_at "my units") (by walk_at "my fact") (by walk_at "my fact") ?_); ((unfold Thrown; intro e' t' vs' h' tk' g2' F' R' U'; (try dsimp only))))
  trivial

set_option maxHeartbeats 4000000 in
theorem lam_settop {w : World} {p : Program} {loose : List Str} {mean : ExcName → Option Value} {mg mb : Str → Option Value} {news : List (Addr × Obj)} {f fco cbase cmany cmore cstack ctop st : Addr} {fn fq : Str} {fpm fct : Value} {p0 p1 p2 p3 p4 p5 p6 p7 p8 p9 p10 p11 p12 : Pos} {b k q t : Int} {tb tk tq tt : Tok} {vs : List Value} {n : Nat}
    (hf : (f, kla_obj fn fq noPar (.Call (.Name (Str.ofString "set_top") p0) [(.Name (Str.ofString "stack") p1), (.Name (Str.ofString "base") p2), (.Name (Str.ofString "top") p3), .BinOp (.BinOp (.UnaryOp .USub (.Name (Str.ofString "many") p4) p5) .Sub (.Constant (.int 2) 0 p6) p7) .Sub (.BinOp (.Name (Str.ofString "more") p8) .Mod (.Constant (.int 5) 0 p9) p10) p11] [] p12) (lamScope [((Str.ofString "base"), .free), ((Str.ofString "many"), .free), ((Str.ofString "more"), .free), ((Str.ofString "stack"), .free), ((Str.ofString "top"), .free), ((Str.ofString "set_top"), .globalImplicit)]) [((Str.ofString "top"), ctop), ((Str.ofString "stack"), cstack), ((Str.ofString "more"), cmore), ((Str.ofString "many"), cmany), ((Str.ofString "base"), cbase)] fpm fco fct) ∈ news)
    (hc : CodeIn news fco fq) (hbase : CellIn news cbase (.int b tb)) (hmany : CellIn news cmany (.int k tk)) (hmore : CellIn news cmore (.int q tq)) (hstack : CellIn news cstack (.ref st)) (htop : CellIn news ctop (.int t tt)) (hk0 : t - b = k) (hk1 : 0 ≤ k) : WorkSpec w p loose mean mg mb f news true := by
  obtain ⟨oc, vsc, tq, c1, c2, c3⟩ := hc
  obtain ⟨obase, mbase, dbase⟩ := hbase
  obtain ⟨omany, mmany, dmany⟩ := hmany
  obtain ⟨omore, mmore, dmore⟩ := hmore
  obtain ⟨ostack, mstack, dstack⟩ := hstack
  obtain ⟨otop, mtop, dtop⟩ := htop
  unfold WorkSpec
  intro dp un gd cn cs a ccd cl outer A₀ base h₀ L m s Q E B F X N T hk hd hu hret hthr
  revert X; k_fill; intro X
  refine wpAny_call ?_
  walk_at "my lamEnter"
  k_steps
  all_goals first
    | exact hthr rfl _ _ _ _ _ _ (by assumption) (by assumption) (by assumption)
    | (exfalso; walk_at "my fact")

set_option maxHeartbeats 4000000 in
theorem lam_take {w : World} {p : Program} {loose : List Str} {mean : ExcName → Option Value} {mg mb : Str → Option Value} {news : List (Addr × Obj)} {f fco cbase cmany cmore cstack ctop st : Addr} {fn fq : Str} {fpm fct : Value} {p0 p1 p2 p3 p4 p5 p6 p7 p8 p9 p10 p11 : Pos} {b k q t : Int} {tb tk tq tt : Tok} {vs : List Value} {n : Nat}
    (hf : (f, kla_obj fn fq noPar (.Call (.Name (Str.ofString "take") p0) [(.Name (Str.ofString "stack") p1), (.Name (Str.ofString "base") p2), (.Name (Str.ofString "top") p3), .BinOp (.BinOp (.Name (Str.ofString "many") p4) .Add (.Constant (.int 1) 0 p5) p6) .Add (.BinOp (.Name (Str.ofString "more") p7) .Mod (.Constant (.int 4) 0 p8) p9) p10] [] p11) (lamScope [((Str.ofString "base"), .free), ((Str.ofString "many"), .free), ((Str.ofString "more"), .free), ((Str.ofString "stack"), .free), ((Str.ofString "top"), .free), ((Str.ofString "take"), .globalImplicit)]) [((Str.ofString "top"), ctop), ((Str.ofString "stack"), cstack), ((Str.ofString "more"), cmore), ((Str.ofString "many"), cmany), ((Str.ofString "base"), cbase)] fpm fco fct) ∈ news)
    (hc : CodeIn news fco fq) (hbase : CellIn news cbase (.int b tb)) (hmany : CellIn news cmany (.int k tk)) (hmore : CellIn news cmore (.int q tq)) (hstack : CellIn news cstack (.ref st)) (htop : CellIn news ctop (.int t tt)) (hst : (st, listOf vs.toArray n) ∈ news) (hk0 : t - b = k) (hk1 : 0 ≤ k) (hb0 : 0 ≤ b) (ht0 : t ≤ vs.length) (hv0 : vs.length < 900000) : WorkSpec w p loose mean mg mb f news true := by
  obtain ⟨oc, vsc, tq, c1, c2, c3⟩ := hc
  obtain ⟨obase, mbase, dbase⟩ := hbase
  obtain ⟨omany, mmany, dmany⟩ := hmany
  obtain ⟨omore, mmore, dmore⟩ := hmore
  obtain ⟨ostack, mstack, dstack⟩ := hstack
  obtain ⟨otop, mtop, dtop⟩ := htop
  unfold WorkSpec
  intro dp un gd cn cs a ccd cl outer A₀ base h₀ L m s Q E B F X N T hk hd hu hret hthr
  revert X; k_fill; intro X
  refine wpAny_call ?_
  walk_at "my lamEnter"
  k_steps
  all_goals first
    | exact hthr rfl _ _ _ _ _ _ (by assumption) (by assumption) (by assumption)
    | (exfalso; walk_at "my fact")

set_option maxHeartbeats 4000000 in
theorem lam_need1 {w : World} {p : Program} {loose : List Str} {mean : ExcName → Option Value} {mg mb : Str → Option Value} {news : List (Addr × Obj)} {f fco cbase cmany cmore ctop st : Addr} {fn fq : Str} {fpm fct : Value} {p0 p1 p2 p3 p4 p5 p6 p7 p8 p9 p10 : Pos} {b k q t : Int} {tb tk tq tt : Tok} {vs : List Value} {n : Nat}
    (hf : (f, kla_obj fn fq noPar (.Call (.Name (Str.ofString "need") p0) [(.Name (Str.ofString "base") p1), (.Name (Str.ofString "top") p2), .BinOp (.BinOp (.Name (Str.ofString "many") p3) .Add (.Constant (.int 1) 0 p4) p5) .Add (.BinOp (.Name (Str.ofString "more") p6) .Mod (.Constant (.int 3) 0 p7) p8) p9] [] p10) (lamScope [((Str.ofString "base"), .free), ((Str.ofString "many"), .free), ((Str.ofString "more"), .free), ((Str.ofString "top"), .free), ((Str.ofString "need"), .globalImplicit)]) [((Str.ofString "top"), ctop), ((Str.ofString "more"), cmore), ((Str.ofString "many"), cmany), ((Str.ofString "base"), cbase)] fpm fco fct) ∈ news)
    (hc : CodeIn news fco fq) (hbase : CellIn news cbase (.int b tb)) (hmany : CellIn news cmany (.int k tk)) (hmore : CellIn news cmore (.int q tq)) (htop : CellIn news ctop (.int t tt)) (hk0 : t - b = k) (hk1 : 0 ≤ k) : WorkSpec w p loose mean mg mb f news true := by
  obtain ⟨oc, vsc, tq, c1, c2, c3⟩ := hc
  obtain ⟨obase, mbase, dbase⟩ := hbase
  obtain ⟨omany, mmany, dmany⟩ := hmany
  obtain ⟨omore, mmore, dmore⟩ := hmore
  obtain ⟨otop, mtop, dtop⟩ := htop
  unfold WorkSpec
  intro dp un gd cn cs a ccd cl outer A₀ base h₀ L m s Q E B F X N T hk hd hu hret hthr
  revert X; k_fill; intro X
  refine wpAny_call ?_
  walk_at "my lamEnter"
  k_steps
  all_goals first
    | exact hthr rfl _ _ _ _ _ _ (by assumption) (by assumption) (by assumption)
    | (exfalso; walk_at "my fact")

set_option maxHeartbeats 4000000 in
theorem lam_need0 {w : World} {p : Program} {loose : List Str} {mean : ExcName → Option Value} {mg mb : Str → Option Value} {news : List (Addr × Obj)} {f fco cbase cmany ctop st : Addr} {fn fq : Str} {fpm fct : Value} {p0 p1 p2 p3 p4 : Pos} {b k t : Int} {tb tk tt : Tok} {vs : List Value} {n : Nat}
    (hf : (f, kla_obj fn fq noPar (.Call (.Name (Str.ofString "need") p0) [(.Name (Str.ofString "base") p1), (.Name (Str.ofString "top") p2), (.Name (Str.ofString "many") p3)] [] p4) (lamScope [((Str.ofString "base"), .free), ((Str.ofString "many"), .free), ((Str.ofString "top"), .free), ((Str.ofString "need"), .globalImplicit)]) [((Str.ofString "top"), ctop), ((Str.ofString "many"), cmany), ((Str.ofString "base"), cbase)] fpm fco fct) ∈ news)
    (hc : CodeIn news fco fq) (hbase : CellIn news cbase (.int b tb)) (hmany : CellIn news cmany (.int k tk)) (htop : CellIn news ctop (.int t tt)) (hk0 : t - b = k) : WorkSpec w p loose mean mg mb f news false := by
  obtain ⟨oc, vsc, tq, c1, c2, c3⟩ := hc
  obtain ⟨obase, mbase, dbase⟩ := hbase
  obtain ⟨omany, mmany, dmany⟩ := hmany
  obtain ⟨otop, mtop, dtop⟩ := htop
  unfold WorkSpec
  intro dp un gd cn cs a ccd cl outer A₀ base h₀ L m s Q E B F X N T hk hd hu hret hthr
  revert X; k_fill; intro X
  refine wpAny_call ?_
  walk_at "my lamEnter"
  k_steps
  all_goals first
    | ((with_reducible rename News h₀ L _ _ => kN); exact hret rfl _ _ _ (by assumption) kN)
    | (exfalso; walk_at "my fact")

structure TabOk (q : Str) (ps : Array Value) (rest : List (Addr × Obj)) : Prop where
  tri : TriplesOk ps.toList
  code : ∀ pos v, codeAmong pos ps.toList = some v → ∃ c', v = .ref c' ∧ CodeIn rest c' q
theorem CodeIn.mono {news news' : List (Addr × Obj)} {c : Addr} {q : Str} (h : CodeIn news c q) (hs : ∀ p ∈ news, p ∈ news') : CodeIn news' c q :=
  let ⟨oc, vs, t, m, r⟩ := h; ⟨oc, vs, t, hs _ m, r⟩
theorem CellIn.mono {news news' : List (Addr × Obj)} {c : Addr} {v : Value} (h : CellIn news c v) (hs : ∀ p ∈ news, p ∈ news') : CellIn news' c v :=
  let ⟨o, m, r⟩ := h; ⟨o, hs _ m, r⟩
theorem TabOk.mono {q : Str} {ps : Array Value} {rest rest' : List (Addr × Obj)} (h : TabOk q ps rest) (hs : ∀ p ∈ rest, p ∈ rest') : TabOk q ps rest' :=
  ⟨h.tri, fun pos v e => let ⟨c', e', r⟩ := h.code pos v e; ⟨c', e', r.mono hs⟩⟩
theorem among_snoc {pos : Pos} {a b : Int} {c v : Value} (l : List Value) (h : TriplesOk l) (e : codeAmong pos (l ++ [rawInt a, rawInt b, c]) = some v) : codeAmong pos l = some v ∨ v = c := by
  fun_induction TriplesOk l with
  | case1 =>
    simp only [List.nil_append, rawInt, codeAmong] at e
    split at e
    · exact .inr (Option.some.inj e).symm
    · cases e
  | case2 i t j u d rest ih =>
    simp only [List.cons_append, codeAmong] at e ⊢
    split at e
    · rename_i hh
      rw [if_pos hh]; exact .inl e
    · rename_i hh
      rw [if_neg hh]; exact ih h e
  | case3 => exact h.elim

section
variable {M : Model} {A : Around} {E : Value → Shared → Prop} {s : Shared} {h₀ : Heap} {L a c P : Addr} {m mg mb : Str → Option Value} {cn : Str} {cs : Scope} {ccd : Value} {cl : List (Str × Addr)} {rest : List (Addr × Obj)}
  {p : Program} {loose : List Str} {mean : ExcName → Option Value} {name qual : Str} {params : Arguments} {body : PySem.Expr} {scope : Scope} {ps : Array Value} {pos : Pos} {firstLine : Nat} {clos : List (Str × Addr)}
theorem my_lambda {Q : Value → Shared → Prop} (F : Fr h₀ L s.heap m) (N : News h₀ L s.heap ((P, tabObj ps) :: rest)) (T : Top p loose mean mg mb h₀) (C : CodeHd h₀ c P) (hcd : ccd = .ref c) (off : ∀ q ∈ rest, q.1 ≠ P) (tab : TabOk qual ps rest)
    (hcl : closureFor scope (envX cn cs L a ccd cl) = pure clos)
    (h : ∀ f c' ctv ps' extra h' tk, Fr h₀ L h' m →
      News h₀ L h' ((f, kla_obj name qual params body scope clos ((mg "__name__").getD .none) c' ctv) :: (P, tabObj ps') :: (extra ++ rest)) → TabOk qual ps' (extra ++ rest) → CodeIn (extra ++ rest) c' qual → (∀ q ∈ extra, q.1 ≠ P) → (∀ q ∈ extra, ∀ r ∈ rest, r.1 ≠ q.1) → Q (.ref f) { s with heap := h', toks := tk }) :
    wpAny M A (makeFunction name qual params (.expr body) scope (envX cn cs L a ccd cl) [] [] [] pos firstLine) Q E s := by
  cases hf : codeAmong pos ps.toList with
  | some v =>
    obtain ⟨c', rfl, hc⟩ := tab.code pos v hf
    refine kla_hit F N T C hcd (.head _) tab.tri hf hcl fun f ctv h' tk F' N' l1 => ?_
    exact h f c' ctv ps [] h' tk F' N' tab hc (fun _ hq => nomatch hq) (fun _ hq => nomatch hq)
  | none =>
    refine kla_nest F N T C hcd (UpdF.head off) tab.tri hf hcl fun f c' oc vs t ctv h' tk F' N' d1 d2 l1 l2 => ?_
    have hc : CodeIn ([(c', oc)] ++ rest) c' qual := ⟨oc, vs, t, .head _, d1, d2⟩
    refine h f c' ctv (ps ++ #[rawInt pos.line, rawInt pos.col, .ref c']) [(c', oc)] h' tk F' (fun q hq => N' q ?_) ⟨by rw [Array.toList_append]; exact TriplesOk_snoc _ _ _ _ tab.tri, fun pos' v e => ?_⟩ hc (fun q hq => ?_) (fun q hq r hr => ?_)
    · simp only [List.mem_cons, List.cons_append, List.nil_append] at hq ⊢; grind
    · rw [Array.toList_append] at e
      rcases among_snoc _ tab.tri e with e | rfl
      · obtain ⟨c2, e2, r2⟩ := tab.code pos' v e
        exact ⟨c2, e2, r2.mono fun _ hp => List.mem_append_right _ hp⟩
      · exact ⟨c', rfl, hc⟩
    · rw [List.mem_singleton.mp hq]; exact Nat.ne_of_gt (l1 _ (.head _))
    · rw [List.mem_singleton.mp hq]; exact Nat.ne_of_lt (l1 r (.tail _ hr))
end

def OffP (P : Addr) (R : List (Addr × Obj)) : Prop := ∀ q ∈ R, q.1 ≠ P
theorem OffP.step {P : Addr} {E R : List (Addr × Obj)} (h : ∀ q ∈ E, q.1 ≠ P) (h' : OffP P R) : OffP P (E ++ R) := fun q hq => (List.mem_append.mp hq).elim (h q) (h' q)
/-- R is news with things ahead of it that stand elsewhere -/
def ExtOf (P : Addr) (R news : List (Addr × Obj)) : Prop := ∃ E, R = E ++ news ∧ (∀ q ∈ E, q.1 ≠ P) ∧ ∀ q ∈ E, ∀ r ∈ news, r.1 ≠ q.1
theorem ExtOf.step {P : Addr} {E R news : List (Addr × Obj)} (h : ExtOf P R news) (h1 : ∀ q ∈ E, q.1 ≠ P) (h2 : ∀ q ∈ E, ∀ r ∈ R, r.1 ≠ q.1) : ExtOf P (E ++ R) news := by
  obtain ⟨E', rfl, a, b⟩ := h
  exact ⟨E ++ E', by rw [List.append_assoc], fun q hq => (List.mem_append.mp hq).elim (h1 q) (a q), fun q hq r hr => (List.mem_append.mp hq).elim (fun z => h2 q z r (List.mem_append_right _ hr)) fun z => b q z r hr⟩
theorem news_tail {h₀ h : Heap} {L : Addr} {a : Addr × Obj} {r : List (Addr × Obj)} (N : News h₀ L h (a :: r)) : News h₀ L h r := fun p hp => N p (.tail _ hp)
theorem sub2 {α : Type} {a b : α} {R : List α} : ∀ p ∈ R, p ∈ a :: b :: R := fun _ hp => .tail _ (.tail _ hp)
theorem spec_of {w : World} {p : Program} {loose : List Str} {mean : ExcName → Option Value} {mg mb : Str → Option Value} {f : Addr} {news : List (Addr × Obj)} {b : Bool} (h : WorkSpec w p loose mean mg mb f news b) (e : b = true) : WorkSpec w p loose mean mg mb f news true := by subst e; exact @h
theorem place_isNone {i b t : Int} (h : i = 0 ∨ i < -(t - b) ∨ i ≤ -10000) (hb : b ≤ t) : (placeOf i b t).isNone = true := by
  unfold placeOf
  rw [if_neg (by lia), if_pos (by lia)]
  rfl
theorem taken_isNone {i b t : Int} (h : i = 0 ∨ i < -(t - b) ∨ t - b < i) (hb : b ≤ t) : (takenPlace i b t).isNone = true := by
  unfold takenPlace placeOf
  by_cases hi : 0 < i
  · rw [if_pos hi, if_neg (by lia)]; rfl
  · rw [if_neg hi, if_pos (by lia)]; rfl

theorem place_some {i b t r : Int} (h : placeOf i b t = some r) (h0 : 0 ≤ b) (h1 : b ≤ t) (h2 : t - b < 5000) : (0 < i ∧ i ≤ t - b ∧ r = b + i - 1) ∨ (t - b < i ∧ r = -1) ∨ (i < 0 ∧ -(t - b) ≤ i ∧ r = t + i) := by
  unfold placeOf at h
  split at h
  · split at h <;> (cases h; lia)
  · split at h
    · cases h
    · cases h; lia
theorem place_no {i b t : Int} (h : placeOf i b t = none) (h0 : 0 ≤ b) (h1 : b ≤ t) (h2 : t - b < 5000) : i = 0 ∨ i < -(t - b) := by
  unfold placeOf at h
  split at h
  · split at h <;> cases h
  · split at h
    · lia
    · cases h
theorem taken_some {i b t r : Int} (h : takenPlace i b t = some r) (h0 : 0 ≤ b) (h1 : b ≤ t) (h2 : t - b < 5000) : (0 < i ∧ i ≤ t - b ∧ r = b + i - 1) ∨ (i < 0 ∧ -(t - b) ≤ i ∧ r = t + i) := by
  unfold takenPlace at h
  cases hp : placeOf i b t with
  | none => rw [hp] at h; cases h
  | some r' =>
    rw [hp] at h
    have := place_some hp h0 h1 h2
    simp only at h
    split at h
    · cases h
    · cases h; lia
theorem taken_no {i b t : Int} (h : takenPlace i b t = none) (h0 : 0 ≤ b) (h1 : b ≤ t) (h2 : t - b < 5000) : i = 0 ∨ i < -(t - b) ∨ t - b < i := by
  unfold takenPlace at h
  cases hp : placeOf i b t with
  | none => have := place_no hp h0 h1 h2; lia
  | some r' =>
    rw [hp] at h
    have := place_some hp h0 h1 h2
    simp only at h
    split at h
    · lia
    · cases h

theorem lines_48_idx : True := by
  k_with "my enterXC" => (k_dflt (refine' code_defXC (by k_asm) (by k_asm) (by k_asm) (by k_asm) (by k_asm) (by k_asm) (by k_asm) (by k_asm) (by exact rfl) (by exact rfl) (by first | exact rfl | assumption) (by k_is) (by k_is) (by ktr_room) (by exact BindsTo.of_eq rfl) (by exact rfl) (by decide +kernel) ?_ (by exact rfl) (by exact rfl) (by exact rfl); k_whole))
  trivial
local macro_rules | `(tactic| k_mem) => `(tactic| (refine List.mem_append_right _ ?_; k_mem))
theorem lines_48_idx2 : True := by
  k_with "my none" => first | rfl | exact place_isNone (by omega) (by omega) | exact taken_isNone (by omega) (by omega)
  k_with "my cell" => exact ⟨_, by k_mem, by assumption⟩
  k_with "my spec" => first
  | (refine' spec_of (lam_place (by k_mem) (by exact CodeIn.mono (by assumption) sub2) (by walk_at "my cell") (by walk_at "my cell") (by walk_at "my cell")) (by walk_at "my none"))
  | (refine' spec_of (lam_taken (by k_mem) (by exact CodeIn.mono (by assumption) sub2) (by walk_at "my cell") (by walk_at "my cell") (by walk_at "my cell")) (by walk_at "my none"))
  k_with "eval Lambda" => (k_here; (with_reducible rename ExtOf _ _ _ => kE); (with_reducible rename OffP _ _ => kO); k_dflt (refine' kla_eval (by exact rfl) ?_); k_dflt (refine' my_lambda (by k_asm) (by k_asm) (by k_asm) (by exact CodeHd.keeps (by assumption) (Below.stays (by k_asm))) (by exact rfl) (by exact kO) (by assumption) (by exact rfl) ?_; k_whole); intro f' c' ct' ps' ex' h' tk' F' N' tab' code' o1' o2'; (replace kE := ExtOf.step kE o1' o2'); (replace kO := OffP.step o1' kO); (try dsimp only))
  k_with "call ref" => (k_here; (with_reducible show wpAny _ _ (call (Value.ref 118) [Value.ref _]) _ _ _); (with_reducible rename KtsTurn _ _ _ => kOld); k_dflt (refine' refused_c (by k_asm) (by k_asm) (by k_asm) (by k_asm) (by k_asm) (by first | exact rfl | assumption) (by k_asm) (by k_asm) (by k_asm) (by walk_at "my spec") (by k_mem) (by k_room) (by walk_at "my units") ?_; k_whole); intro h0' h' tk' kT F' N' B' X' T' D'; (replace kOld := KtsTurn.trans kOld kT); clear kT; (replace N' := news_tail N'); (try dsimp only))
  k_with "callWith ref" => (k_here; k_dflt (refine' callWith_K (by k_asm) (by k_is) ?_; k_whole))
  trivial
theorem beq_of {x y : Int} (e : x = y) : (x == y) = true := by rw [beq_iff_eq]; exact e
abbrev qIdx : Str := Str.ofString "_law_index_right" ++ ".<locals>." ++ "<lambda>"
set_option maxHeartbeats 4000000 in
theorem index_right_c {w : World} {p : Program} {loose : List Str} {mean : ExcName → Option Value} {mg mb : Str → Option Value}
    {dp un : Nat} {gd : Option (List Code)} {cn : Str} {cs : Scope} {a : Addr} {ccd : Value} {cl : List (Str × Addr)} {outer : List Env} {A₀ : Around} {base h₀ : Heap} {L : Addr} {m : Str → Option Value} {s : Shared} {Q E : Value → Shared → Prop} {news : List (Addr × Obj)}
    {st : Addr} {ps : Array Value} {b t i : Int} {tb tt ti : Tok}
    (B : Below A₀ base outer h₀) (F : Fr h₀ L s.heap m) (X : (Mine.hd.heap_39 w.params).In h₀) (N : News h₀ L s.heap ((120, tabObj ps) :: news)) (T : Top p loose mean mg mb h₀) (hk : cs.kind = .function)
    (XB : (Mine.hd.heap_39 w.params).In base) (TB : Top p loose mean mg mb base) (D : KtsDicts (outer.filterMap (·.frame)) h₀) (C : CodeHd base 124 120) (off : ∀ q ∈ news, q.1 ≠ 120) (tab : TabOk qIdx ps news)
    (hd : dp + 60 < recursionLimit) (hu : un + 900 < cLine) (h0 : 0 ≤ b) (h1 : b ≤ t) (h2 : t - b < 5000)
    (hret : ∀ h₀' ps' extra h' tk', KtsTurn (outer.filterMap (·.frame)) h₀ h₀' → Fr h₀' L h' m → News h₀' L h' ((120, tabObj ps') :: (extra ++ news)) → TabOk qIdx ps' (extra ++ news) → (∀ q ∈ extra, q.1 ≠ 120) → (∀ q ∈ extra, ∀ r ∈ news, r.1 ≠ q.1) → Below A₀ base outer h₀' → (Mine.hd.heap_39 w.params).In h₀' → Top p loose mean mg mb h₀' → KtsDicts (outer.filterMap (·.frame)) h₀' → Q (.bool true) { s with heap := h', toks := tk' }) :
    wpAny (model PySem.Challenge.rw_nt0628_01.row.prog w) (ktrTop dp un gd cn cs L a ccd cl outer) (call (.ref 125) [.ref st, .int b tb, .int t tt, .int i ti]) Q E s := by
  revert X; k_fill; intro X
  refine wpAny_call ?_
  walk_at "my enterXC"
  intro g L1 hp tk cells FG F1 N1 Y B1 X1 T1 D1 l1
  obtain ⟨o1, o2, o3, hE, d1, d2, d3⟩ := CellsAre.three Y
  subst hE
  clear Y
  simp only [List.cons_append, List.nil_append] at N1
  have hT0 : KtsTurn ((envX cn cs L a ccd cl :: outer).filterMap (·.frame)) g g := KtsTurn.refl
  (try dsimp only)
  have c1 : o1.data = .cell (some (.int i ti)) := d1
  have c2 : o2.data = .cell (some (.int t tt)) := d2
  have c3 : o3.data = .cell (some (.int b tb)) := d3
  clear d1 d2 d3
  replace N1 : News g L1 hp ((120, tabObj ps) :: (L1 + 1 + 1 + 1, o1) :: (L1 + 1 + 1, o2) :: (L1 + 1, o3) :: news) := fun p hp => N1 p (by simp only [List.mem_cons] at hp ⊢; grind)
  have kE : ExtOf 120 ((L1 + 1 + 1 + 1, o1) :: (L1 + 1 + 1, o2) :: (L1 + 1, o3) :: news) news := by
    have h120 := ltN (l1 _ (.head _))
    refine ⟨[(L1 + 1 + 1 + 1, o1), (L1 + 1 + 1, o2), (L1 + 1, o3)], rfl, fun q hq => ?_, fun q hq r hr => ?_⟩
    · simp only [List.mem_cons, List.not_mem_nil, or_false] at hq
      rcases hq with rfl | rfl | rfl <;> exact neN (by dsimp only; omega)
    · have hr' := ltN (l1 r (.tail _ hr))
      simp only [List.mem_cons, List.not_mem_nil, or_false] at hq
      rcases hq with rfl | rfl | rfl <;> exact neN (by dsimp only; omega)
  have kO : OffP 120 ((L1 + 1 + 1 + 1, o1) :: (L1 + 1 + 1, o2) :: (L1 + 1, o3) :: news) := by
    obtain ⟨E, e, a1, a2⟩ := kE
    rw [e]
    exact OffP.step a1 off
  have tab1 : TabOk qIdx ps ((L1 + 1 + 1 + 1, o1) :: (L1 + 1 + 1, o2) :: (L1 + 1, o3) :: news) := tab.mono fun p hp => .tail _ (.tail _ (.tail _ hp))
  clear l1 tab off
  change Fr g L1 hp (fun y => if y = Str.ofString "stack" then some (.ref st) else none) at F1
  k_steps
  all_goals (
    (try (with_reducible rename placeOf _ _ _ = some _ => q1; replace q1 := place_some q1 h0 h1 h2))
    (try (with_reducible rename placeOf _ _ _ = some _ => q2; replace q2 := place_some q2 h0 h1 h2))
    (try (with_reducible rename placeOf _ _ _ = none => q3; replace q3 := place_no q3 h0 h1 h2))
    (try (with_reducible rename takenPlace _ _ _ = some _ => q4; replace q4 := taken_some q4 h0 h1 h2))
    (try (with_reducible rename takenPlace _ _ _ = none => q5; replace q5 := taken_no q5 h0 h1 h2))
    first
    | (exfalso; omega)
    | (exfalso; simp only [beq_eq_false_iff_ne, beq_iff_eq, ne_eq] at *; omega)
    | ((try (rw [beq_of]; rotate_left; (first | rfl | omega)))
       (with_reducible rename ExtOf _ _ _ => kE)
       (with_reducible rename KtsTurn (List.filterMap _ outer) h₀ _ => kT0)
       (with_reducible rename TabOk _ _ _ => tabF)
       (with_reducible rename News _ _ _ _ => kN)
       obtain ⟨R, eR, x1, x2⟩ := kE
       rw [eR] at tabF
       refine hret _ _ R _ _ kT0 (by assumption) (by rw [← eR]; exact kN) tabF x1 x2 (by assumption) (by assumption) (by assumption) (by assumption)))


/-- what the law's loop keeps: the stack is what lies below, the plain list, and what is beyond -/
def SInv (bs vs ps : List Value) (b top : Int) : Prop := (bs.length : Int) = b ∧ top = b + ps.length ∧ (∃ xs, vs = bs ++ (ps ++ xs)) ∧ PlainL bs ∧ PlainL ps ∧ PlainL vs
theorem PlainL.of_app {us vs : List Value} (h : PlainL (us ++ vs)) : PlainL us ∧ PlainL vs := ⟨fun v hv => h v (List.mem_append_left _ hv), fun v hv => h v (List.mem_append_right _ hv)⟩
theorem PlainL.set {vs : List Value} (h : PlainL vs) (k : Nat) {v : Value} (hv : PlainV v) : PlainL (vs.set k v) := fun u hu => by
  rcases List.mem_or_eq_of_mem_set hu with z | rfl
  · exact h u z
  · exact hv
theorem SInv.facts {bs vs ps : List Value} {b top : Int} (I : SInv bs vs ps b top) : 0 ≤ b ∧ b ≤ top ∧ top ≤ (vs.length : Int) ∧ vs.take b.toNat = bs ∧ (vs.take top.toNat).drop b.toNat = ps ∧ top - b = (ps.length : Int) ∧ PlainL vs ∧ PlainL bs ∧ PlainL ps := by
  obtain ⟨e1, e2, ⟨xs, rfl⟩, p1, p2, p3⟩ := I
  have hb : b.toNat = bs.length := by lia
  have ht : top.toNat = bs.length + ps.length := by lia
  refine ⟨by lia, by lia, by simp only [List.length_append]; lia, ?_, ?_, by lia, p3, p1, p2⟩
  · rw [hb]; simp
  · rw [hb, ht]; simp [List.take_append, List.drop_append]
theorem SInv.mk' {bs ps xs : List Value} {b top : Int} (e1 : (bs.length : Int) = b) (e2 : top = b + ps.length) (p1 : PlainL bs) (p2 : PlainL ps) (p3 : PlainL xs) : SInv bs (bs ++ (ps ++ xs)) ps b top :=
  ⟨e1, e2, ⟨xs, rfl⟩, p1, p2, p1.append (p2.append p3)⟩
theorem push_inv {bs vs ps : List Value} {b top : Int} {v : Value} (I : SInv bs vs ps b top) (hv : PlainV v) : SInv bs (pushL vs top.toNat v) (ps ++ [v]) b (top + 1) ∧ ((pushL vs top.toNat v).length : Int) = max (vs.length : Int) (top + 1) := by
  obtain ⟨e1, e2, ⟨xs, rfl⟩, p1, p2, p3⟩ := I
  have ht : top.toNat = bs.length + ps.length := by lia
  have px : PlainL xs := p3.of_app.2.of_app.2
  have hl := @pushL_length (bs ++ (ps ++ xs)) top.toNat v
  have p2' : PlainL (ps ++ [v]) := p2.append (PlainL.cons hv PlainL.nil)
  constructor
  · cases xs with
    | nil =>
      have : pushL (bs ++ (ps ++ [])) top.toNat v = bs ++ ((ps ++ [v]) ++ []) := by unfold pushL; rw [if_neg (by simp; lia)]; simp
      rw [this]
      exact SInv.mk' e1 (by simp; lia) p1 p2' PlainL.nil
    | cons x xs =>
      have : pushL (bs ++ (ps ++ x :: xs)) top.toNat v = bs ++ ((ps ++ [v]) ++ xs) := by
        unfold pushL
        rw [if_pos (by simp; lia), ht]
        simp [List.set_append]
      rw [this]
      exact SInv.mk' e1 (by simp; lia) p1 p2' (PlainL.cons_iff.mp px).2
  · rw [hl]
    simp only [List.length_append] at *
    split <;> lia
theorem pad_inv {bs : List Value} {b : Int} : ∀ (k : Nat) {vs ps : List Value} {top : Int}, SInv bs vs ps b top → SInv bs (padL vs top.toNat k) (ps ++ List.replicate k .none) b (top + k) ∧ ((padL vs top.toNat k).length : Int) = max (vs.length : Int) (top + k)
  | 0, vs, ps, top, I => by
    have f := I.facts
    refine ⟨by simpa [padL] using I, ?_⟩
    show ((vs.length : Nat) : Int) = _
    lia
  | k + 1, vs, ps, top, I => by
    have f := I.facts
    obtain ⟨I1, l1⟩ := push_inv (v := .none) I trivial
    obtain ⟨I2, l2⟩ := pad_inv k I1
    have e : (top + 1).toNat = top.toNat + 1 := by lia
    rw [e] at I2 l2
    refine ⟨?_, ?_⟩
    · have e2 : ps ++ [Value.none] ++ List.replicate k .none = ps ++ List.replicate (k + 1) .none := by rw [List.append_assoc, List.singleton_append, List.replicate_succ]
      rw [e2] at I2
      have e3 : top + 1 + (k : Int) = top + ((k + 1 : Nat) : Int) := by lia
      rw [e3] at I2
      exact I2
    · show ((padL (pushL vs top.toNat .none) (top.toNat + 1) k).length : Int) = _
      rw [l2, l1]; lia
theorem remove_inv {bs vs ps : List Value} {b top : Int} {j : Nat} (I : SInv bs vs ps b top) (hj : j < ps.length) : SInv bs (remL vs (b + j).toNat top.toNat) (ps.eraseIdx j) b (top - 1) ∧ (remL vs (b + j).toNat top.toNat).length = vs.length := by
  have f := I.facts
  obtain ⟨e1, e2, ⟨xs, rfl⟩, p1, p2, p3⟩ := I
  have ht : top.toNat = bs.length + ps.length := by lia
  have hp : (b + j).toNat = bs.length + j := by lia
  have px : PlainL xs := p3.of_app.2.of_app.2
  refine ⟨?_, remL_length (by lia) (by lia)⟩
  have : remL (bs ++ (ps ++ xs)) (b + j).toNat top.toNat = bs ++ (ps.eraseIdx j ++ (ps.drop (ps.length - 1) ++ xs)) := by
    unfold remL
    rw [ht, hp, List.eraseIdx_eq_take_drop_succ]
    have a1 : (bs ++ (ps ++ xs)).take (bs.length + j) = bs ++ ps.take j := by
      rw [List.take_append, List.take_of_length_le (by lia), show bs.length + j - bs.length = j by lia, List.take_append_of_le_length (by lia)]
    have a2 : (bs ++ (ps ++ xs)).take (bs.length + ps.length) = bs ++ ps := by
      rw [List.take_append, List.take_of_length_le (by lia), show bs.length + ps.length - bs.length = ps.length by lia, List.take_append_of_le_length (by lia), List.take_length]
    have a3 : (bs ++ ps).drop (bs.length + j + 1) = ps.drop (j + 1) := by
      rw [List.drop_append, List.drop_eq_nil_of_le (by lia), List.nil_append, show bs.length + j + 1 - bs.length = j + 1 by lia]
    have a4 : (bs ++ (ps ++ xs)).drop (bs.length + ps.length - 1) = ps.drop (ps.length - 1) ++ xs := by
      rw [List.drop_append, List.drop_eq_nil_of_le (by lia), List.nil_append, show bs.length + ps.length - 1 - bs.length = ps.length - 1 by lia, List.drop_append_of_le_length (by lia)]
    rw [a1, a2, a3, a4]
    simp
  rw [this]
  refine SInv.mk' e1 ?_ p1 (fun v hv => p2 v (List.mem_of_mem_eraseIdx hv)) ((p2.drop _).append px)
  rw [List.length_eraseIdx]; split <;> lia
theorem getD_mid {bs ps xs : List Value} {j : Nat} (hj : j < ps.length) : (bs ++ (ps ++ xs)).getD (bs.length + j) .none = ps.getD j .none := by
  simp only [List.getD_eq_getElem?_getD]
  rw [List.getElem?_append_right (by lia), show bs.length + j - bs.length = j by lia, List.getElem?_append_left hj]
theorem replace_inv {bs vs ps : List Value} {b top : Int} {j : Nat} (I : SInv bs vs ps b top) (hj : j < ps.length) :
    SInv bs (vs.set (b + j).toNat (vs.getD (top - 1).toNat .none)) ((ps.set j (ps.getD (ps.length - 1) .none)).dropLast) b (top - 1) := by
  have f := I.facts
  obtain ⟨e1, e2, ⟨xs, rfl⟩, p1, p2, p3⟩ := I
  have ht : (top - 1).toNat = bs.length + (ps.length - 1) := by lia
  have hp : (b + j).toNat = bs.length + j := by lia
  have px : PlainL xs := p3.of_app.2.of_app.2
  rw [ht, hp, getD_mid (by lia)]
  generalize hw : ps.getD (ps.length - 1) .none = w
  have pw : PlainV w := hw ▸ p2.getD _
  have pq : PlainL (ps.set j w) := p2.set j pw
  have hne : ps.set j w ≠ [] := fun q => by have := congrArg List.length q; simp at this; simp [this] at hj
  have : (bs ++ (ps ++ xs)).set (bs.length + j) w = bs ++ ((ps.set j w).dropLast ++ ((ps.set j w).getLast hne :: xs)) := by
    rw [List.set_append, if_neg (by lia), show bs.length + j - bs.length = j by lia, List.set_append, if_pos hj]
    conv => lhs; rw [← List.dropLast_concat_getLast hne]
    simp
  rw [this]
  refine SInv.mk' e1 ?_ p1 (fun v hv => pq v (List.dropLast_subset _ hv)) (PlainL.cons (pq _ (List.getLast_mem hne)) px)
  simp; lia
theorem insert_inv {bs vs ps : List Value} {b top : Int} {j : Nat} (I : SInv bs vs ps b top) (hj : j < ps.length) :
    SInv bs (insL vs (b + j).toNat top.toNat) (ps.dropLast.take j ++ ps.getD (ps.length - 1) .none :: ps.dropLast.drop j) b top ∧ (insL vs (b + j).toNat top.toNat).length = vs.length := by
  have f := I.facts
  obtain ⟨e1, e2, ⟨xs, rfl⟩, p1, p2, p3⟩ := I
  have ht : top.toNat = bs.length + ps.length := by lia
  have hp : (b + j).toNat = bs.length + j := by lia
  have px : PlainL xs := p3.of_app.2.of_app.2
  refine ⟨?_, by unfold insL; rw [List.length_set]; exact shU_length (by lia) (by lia)⟩
  have pd : PlainL ps.dropLast := fun v hv => p2 v (List.dropLast_subset _ hv)
  have : insL (bs ++ (ps ++ xs)) (b + j).toNat top.toNat = bs ++ ((ps.dropLast.take j ++ ps.getD (ps.length - 1) .none :: ps.dropLast.drop j) ++ xs) := by
    unfold insL shU
    rw [hp, ht, show bs.length + ps.length - 1 = bs.length + (ps.length - 1) by lia, getD_mid (by lia)]
    generalize ps.getD (ps.length - 1) .none = w
    have a1 : (bs ++ (ps ++ xs)).take (bs.length + j + 1) = bs ++ ps.take (j + 1) := by
      rw [List.take_append, List.take_of_length_le (by lia), show bs.length + j + 1 - bs.length = j + 1 by lia, List.take_append_of_le_length (by lia)]
    have a2 : (bs ++ (ps ++ xs)).take (bs.length + (ps.length - 1)) = bs ++ ps.dropLast := by
      rw [List.take_append, List.take_of_length_le (by lia), show bs.length + (ps.length - 1) - bs.length = ps.length - 1 by lia, List.take_append_of_le_length (by lia), List.dropLast_eq_take]
    have a3 : (bs ++ ps.dropLast).drop (bs.length + j) = ps.dropLast.drop j := by
      rw [List.drop_append, List.drop_eq_nil_of_le (by lia), List.nil_append, show bs.length + j - bs.length = j by lia]
    have a4 : (bs ++ (ps ++ xs)).drop (bs.length + ps.length) = xs := by
      rw [List.drop_append, List.drop_eq_nil_of_le (by lia), List.nil_append, show bs.length + ps.length - bs.length = ps.length by lia]; simp
    have a5 : ps.dropLast.take j = ps.take j := by rw [List.dropLast_eq_take, List.take_take, Nat.min_eq_left (by lia)]
    have a6 : ps.take (j + 1) = ps.take j ++ [ps[j]] := by rw [List.take_add_one, List.getElem?_eq_getElem hj]; rfl
    rw [a1, a2, a3, a4, a5, a6]
    have hl : (ps.take j).length = j := by rw [List.length_take]; lia
    rw [List.append_assoc, List.set_append, if_neg (by lia), show bs.length + j - bs.length = j by lia, List.append_assoc, List.set_append, if_neg (by lia), hl, Nat.sub_self]
    simp
  rw [this]
  refine SInv.mk' e1 ?_ p1 ((pd.take _).append (PlainL.cons (p2.getD _) (pd.drop _))) px
  simp; lia
theorem cut_inv {bs vs ps : List Value} {b top : Int} {k : Nat} (I : SInv bs vs ps b top) (hk : k ≤ ps.length) : SInv bs vs (ps.take k) b (b + k) := by
  obtain ⟨e1, e2, ⟨xs, rfl⟩, p1, p2, p3⟩ := I
  refine ⟨e1, by simp; lia, ⟨ps.drop k ++ xs, by rw [← List.append_assoc (ps.take k), List.take_append_drop]⟩, p1, p2.take _, p3⟩
theorem topped_inv {bs vs ps : List Value} {b top g : Int} (I : SInv bs vs ps b top) (hg : 0 ≤ g) :
    SInv bs (padL vs top.toNat (b + g - top).toNat) ((ps ++ List.replicate (max 0 (g - ps.length)).toNat Value.none).take g.toNat) b (b + g) ∧ ((padL vs top.toNat (b + g - top).toNat).length : Int) = max (vs.length : Int) (b + g) := by
  have f := I.facts
  have e2 := I.2.1
  by_cases h : (ps.length : Int) ≤ g
  · obtain ⟨I1, l1⟩ := pad_inv (b + g - top).toNat I
    have e3 : (b + g - top).toNat = (max 0 (g - ps.length)).toNat := by lia
    have e4 : top + ((b + g - top).toNat : Int) = b + g := by lia
    rw [e4] at I1 l1
    rw [List.take_of_length_le (by simp; lia), ← e3]
    exact ⟨I1, l1⟩
  · have e3 : (max 0 (g - ps.length)).toNat = 0 := by lia
    have e4 : (b + g - top).toNat = 0 := by lia
    rw [e3, e4]
    have I1 := cut_inv (k := g.toNat) I (by lia)
    rw [show b + ((g.toNat : Nat) : Int) = b + g by lia] at I1
    refine ⟨by simpa [padL] using I1, ?_⟩
    show ((vs.length : Nat) : Int) = _
    lia
theorem topped_neg {bs vs ps : List Value} {b top l : Int} (I : SInv bs vs ps b top) (h0 : 0 ≤ l) (h1 : l ≤ ps.length) : SInv bs vs (ps.take ((ps.length : Int) - l).toNat) b (top + (-1 - l) + 1) := by
  have e2 := I.2.1
  have I1 := cut_inv (k := ((ps.length : Int) - l).toNat) I (by lia)
  rw [show b + ((((ps.length : Int) - l).toNat : Nat) : Int) = top + (-1 - l) + 1 by lia] at I1
  exact I1
theorem topped_if {bs vs ps : List Value} {b top g : Int} (x : Int) (hx : x.toNat = (max 0 (g - ps.length)).toNat) (I : SInv bs vs ps b top) (hg : 0 ≤ g) :
    SInv bs (padL vs top.toNat (if 0 ≤ g then (b + g - top).toNat else 0)) ((ps ++ List.replicate x.toNat Value.none).take g.toNat) b (if 0 ≤ g then b + g else top + g + 1) ∧
      ((padL vs top.toNat (if 0 ≤ g then (b + g - top).toNat else 0)).length : Int) = max (vs.length : Int) (if 0 ≤ g then b + g else top + g + 1) := by
  have h := topped_inv I hg
  rw [if_pos hg, if_pos hg, hx]
  exact h
theorem topped_ifn {bs vs ps : List Value} {b top l : Int} (I : SInv bs vs ps b top) (h0 : 0 ≤ l) (h1 : l ≤ ps.length) :
    SInv bs (padL vs top.toNat (if 0 ≤ -1 - l then (b + (-1 - l) - top).toNat else 0)) (ps.take ((ps.length : Int) - l).toNat) b (if 0 ≤ -1 - l then b + (-1 - l) else top + (-1 - l) + 1) ∧
      ((padL vs top.toNat (if 0 ≤ -1 - l then (b + (-1 - l) - top).toNat else 0)).length : Int) = max (vs.length : Int) (if 0 ≤ -1 - l then b + (-1 - l) else top + (-1 - l) + 1) := by
  have f := I.facts
  have h := topped_neg I h0 h1
  rw [if_neg (show ¬ 0 ≤ -1 - l by lia), if_neg (show ¬ 0 ≤ -1 - l by lia)]
  refine ⟨h, ?_⟩
  show ((vs.length : Nat) : Int) = _
  lia


theorem pushAll_inv {bs : List Value} {b : Int} : ∀ (us : List Value) {vs ps : List Value} {top : Int}, SInv bs vs ps b top → PlainL us → SInv bs (pushAll vs top.toNat us) (ps ++ us) b (top + us.length)
  | [], vs, ps, top, I, _ => by simpa [pushAll] using I
  | u :: us, vs, ps, top, I, hu => by
    obtain ⟨h1, h2⟩ := PlainL.cons_iff.mp hu
    have f := I.facts
    have I2 := pushAll_inv us (push_inv I h1).1 h2
    rw [show (top + 1).toNat = top.toNat + 1 by lia, List.append_assoc, List.singleton_append, show top + 1 + (us.length : Int) = top + ((u :: us).length : Int) by simp only [List.length_cons]; lia] at I2
    exact I2
theorem cut_start {os : List Value} {f : Int} (h0 : 0 ≤ f) (h1 : f ≤ os.length) (p : PlainL os) : SInv (os.take f.toNat) os [] f f :=
  ⟨by rw [List.length_take]; lia, by simp, ⟨os.drop f.toNat, by simp⟩, p.take _, PlainL.nil, p⟩

set_option maxHeartbeats 4000000 in
theorem replace_c {w : World} {p : Program} {loose : List Str} {mean : ExcName → Option Value} {mg mb : Str → Option Value}
    {dp un : Nat} {gd : Option (List Code)} {cn : Str} {cs : Scope} {a : Addr} {ccd : Value} {cl : List (Str × Addr)} {outer : List Env} {A₀ : Around} {base h₀ : Heap} {L : Addr} {m : Str → Option Value} {s : Shared} {Q E : Value → Shared → Prop} {news : List (Addr × Obj)}
    {st : Addr} {vs : List Value} {n : Nat} {pl top : Int} {tk tp : Tok} {g : Obj → List (Addr × Obj)}
    (B : Below A₀ base outer h₀) (F : Fr h₀ L s.heap m) (X : (Mine.hd.heap_39 w.params).In h₀) (N : News h₀ L s.heap news) (T : Top p loose mean mg mb h₀) (hk : cs.kind = .function) (hd : dp + 5 < recursionLimit) (hu : un + 100 < cLine) (U : UpdF st (listOf vs.toArray n) news g) (h0 : 0 ≤ pl) (h1 : pl < top) (h2 : top ≤ vs.length) (h3 : vs.length < 1000000)
    (hret : ∀ n' t h' tk', Fr h₀ L h' m → News h₀ L h' (g (listOf (vs.set pl.toNat (vs.getD (top - 1).toNat .none)).toArray n')) → Q (.int (top - 1) t) { s with heap := h', toks := tk' }) :
    wpAny (model PySem.Challenge.rw_nt0628_01.row.prog w) (ktrTop dp un gd cn cs L a ccd cl outer) (call (.ref 90) [.ref st, .int pl tp, .int top tk]) Q E s := by
  obtain ⟨rest, N1, off, back⟩ := led_split N U
  exact replace_c0 B F X N1 off T hk hd hu h0 h1 h2 h3 (fun n' t h' tk' F' N' => hret n' t h' tk' F' (back _ _ N'))

set_option maxHeartbeats 4000000 in
theorem remove_c {w : World} {p : Program} {loose : List Str} {mean : ExcName → Option Value} {mg mb : Str → Option Value}
    {dp un : Nat} {gd : Option (List Code)} {cn : Str} {cs : Scope} {a : Addr} {ccd : Value} {cl : List (Str × Addr)} {outer : List Env} {A₀ : Around} {base h₀ : Heap} {L : Addr} {m : Str → Option Value} {s : Shared} {Q E : Value → Shared → Prop} {news : List (Addr × Obj)}
    {st : Addr} {vs : List Value} {n : Nat} {pl top : Int} {tk tp : Tok} {g : Obj → List (Addr × Obj)}
    (B : Below A₀ base outer h₀) (F : Fr h₀ L s.heap m) (X : (Mine.hd.heap_39 w.params).In h₀) (N : News h₀ L s.heap news) (T : Top p loose mean mg mb h₀) (hk : cs.kind = .function) (hd : dp + 5 < recursionLimit) (hu : un + 100 < cLine) (U : UpdF st (listOf vs.toArray n) news g) (h0 : 0 ≤ pl) (h1 : pl < top) (h2 : top ≤ vs.length) (h3 : vs.length < 1000000)
    (hret : ∀ n' t h' tk', Fr h₀ L h' m → News h₀ L h' (g (listOf (remL vs pl.toNat top.toNat).toArray n')) → Q (.int (top - 1) t) { s with heap := h', toks := tk' }) :
    wpAny (model PySem.Challenge.rw_nt0628_01.row.prog w) (ktrTop dp un gd cn cs L a ccd cl outer) (call (.ref 76) [.ref st, .int pl tp, .int top tk]) Q E s := by
  obtain ⟨rest, N1, off, back⟩ := led_split N U
  exact remove_c0 B F X N1 off T hk hd hu h0 h1 h2 h3 (fun n' t h' tk' F' N' => hret n' t h' tk' F' (back _ _ N'))

set_option maxHeartbeats 4000000 in
theorem insert_c {w : World} {p : Program} {loose : List Str} {mean : ExcName → Option Value} {mg mb : Str → Option Value}
    {dp un : Nat} {gd : Option (List Code)} {cn : Str} {cs : Scope} {a : Addr} {ccd : Value} {cl : List (Str × Addr)} {outer : List Env} {A₀ : Around} {base h₀ : Heap} {L : Addr} {m : Str → Option Value} {s : Shared} {Q E : Value → Shared → Prop} {news : List (Addr × Obj)}
    {st : Addr} {vs : List Value} {n : Nat} {pl top : Int} {tk tp : Tok} {g : Obj → List (Addr × Obj)}
    (B : Below A₀ base outer h₀) (F : Fr h₀ L s.heap m) (X : (Mine.hd.heap_39 w.params).In h₀) (N : News h₀ L s.heap news) (T : Top p loose mean mg mb h₀) (hk : cs.kind = .function) (hd : dp + 5 < recursionLimit) (hu : un + 100 < cLine) (U : UpdF st (listOf vs.toArray n) news g) (h0 : 0 ≤ pl) (h1 : pl < top) (h2 : top ≤ vs.length) (h3 : vs.length < 1000000)
    (hret : ∀ n' h' tk', Fr h₀ L h' m → News h₀ L h' (g (listOf (insL vs pl.toNat top.toNat).toArray n')) → Q .none { s with heap := h', toks := tk' }) :
    wpAny (model PySem.Challenge.rw_nt0628_01.row.prog w) (ktrTop dp un gd cn cs L a ccd cl outer) (call (.ref 83) [.ref st, .int pl tp, .int top tk]) Q E s := by
  obtain ⟨rest, N1, off, back⟩ := led_split N U
  exact insert_c0 B F X N1 off T hk hd hu h0 h1 h2 h3 (fun n' h' tk' F' N' => hret n' h' tk' F' (back _ _ N'))

set_option maxHeartbeats 4000000 in
theorem set_top_c {w : World} {p : Program} {loose : List Str} {mean : ExcName → Option Value} {mg mb : Str → Option Value}
    {dp un : Nat} {gd : Option (List Code)} {cn : Str} {cs : Scope} {a : Addr} {ccd : Value} {cl : List (Str × Addr)} {outer : List Env} {A₀ : Around} {base h₀ : Heap} {L : Addr} {m : Str → Option Value} {s : Shared} {Q E : Value → Shared → Prop} {news : List (Addr × Obj)}
    {st : Addr} {vs : List Value} {n : Nat} {b top ix : Int} {tb tk ti : Tok} {g : Obj → List (Addr × Obj)}
    (B : Below A₀ base outer h₀) (F : Fr h₀ L s.heap m) (X : (Mine.hd.heap_39 w.params).In h₀) (N : News h₀ L s.heap news) (T : Top p loose mean mg mb h₀) (hk : cs.kind = .function) (hd : dp + 10 < recursionLimit) (hu : un + 200 < cLine) (U : UpdF st (listOf vs.toArray n) news g) (h0 : 0 ≤ b) (h1 : b ≤ top) (h2 : top ≤ vs.length) (h3 : vs.length < 900000) (h4 : b + ix < 900000) (h5 : 0 ≤ ix ∨ -(ix + 1) ≤ top - b)
    (hret : ∀ n' t h' tk', Fr h₀ L h' m → News h₀ L h' (g (listOf (padL vs top.toNat (if 0 ≤ ix then (b + ix - top).toNat else 0)).toArray n')) → Q (.int (if 0 ≤ ix then b + ix else top + ix + 1) t) { s with heap := h', toks := tk' }) :
    wpAny (model PySem.Challenge.rw_nt0628_01.row.prog w) (ktrTop dp un gd cn cs L a ccd cl outer) (call (.ref 69) [.ref st, .int b tb, .int top tk, .int ix ti]) Q E s := by
  obtain ⟨rest, N1, off, back⟩ := led_split N U
  exact set_top_c0 B F X N1 off T hk hd hu h0 h1 h2 h3 h4 (fun _ n' t h' tk' F' N' => hret n' t h' tk' F' (back _ _ N')) (fun q1 q2 => by lia)

theorem led_mem {h₀ h : Heap} {L D : Addr} {o : Obj} {news : List (Addr × Obj)} {g : Obj → List (Addr × Obj)} (N : News h₀ L h news) (U : UpdF D o news g) :
    ∃ rest, News h₀ L h ((D, o) :: rest) ∧ (∀ q ∈ rest, q.1 ≠ D) ∧ (∀ p ∈ news, p.1 ≠ D → p ∈ rest) ∧ (∀ p ∈ rest, p ∈ news) ∧ ∀ h' o', News h₀ L h' ((D, o') :: rest) → News h₀ L h' (g o') := by
  obtain ⟨pre, post, rfl, hg, a, b⟩ := U.split
  refine ⟨pre ++ post, fun p hp => N p ?_, fun q hq => (List.mem_append.mp hq).elim (a q) (b q), fun p hp hne => ?_, fun p hp => ?_, fun h' o' N' p hp => ?_⟩
  · rcases List.mem_cons.mp hp with rfl | hp
    · exact List.mem_append_right _ (.head _)
    · exact (List.mem_append.mp hp).elim (fun z => List.mem_append_left _ z) fun z => List.mem_append_right _ (.tail _ z)
  · rcases List.mem_append.mp hp with hp | hp
    · exact List.mem_append_left _ hp
    · rcases List.mem_cons.mp hp with rfl | hp
      · exact absurd rfl hne
      · exact List.mem_append_right _ hp
  · rcases List.mem_append.mp hp with hp | hp
    · exact List.mem_append_left _ hp
    · exact List.mem_append_right _ (.tail _ hp)
  · rw [hg] at hp
    refine N' p ?_
    rcases List.mem_append.mp hp with hp | hp
    · exact .tail _ (List.mem_append_left _ hp)
    · rcases List.mem_cons.mp hp with rfl | hp
      · exact .head _
      · exact .tail _ (List.mem_append_right _ hp)

set_option maxHeartbeats 4000000 in
theorem move_c {w : World} {p : Program} {loose : List Str} {mean : ExcName → Option Value} {mg mb : Str → Option Value}
    {dp un : Nat} {gd : Option (List Code)} {cn : Str} {cs : Scope} {a : Addr} {ccd : Value} {cl : List (Str × Addr)} {outer : List Env} {A₀ : Around} {base h₀ : Heap} {L : Addr} {m : Str → Option Value} {s : Shared} {Q E : Value → Shared → Prop} {news : List (Addr × Obj)}
    {st ot : Addr} {vs os : List Value} {n n₂ : Nat} {b top k free : Int} {tb tk ti tf : Tok} {g : Obj → List (Addr × Obj)}
    (B : Below A₀ base outer h₀) (F : Fr h₀ L s.heap m) (X : (Mine.hd.heap_39 w.params).In h₀) (N : News h₀ L s.heap news) (T : Top p loose mean mg mb h₀) (hk : cs.kind = .function) (hd : dp + 15 < recursionLimit) (hu : un + 300 < cLine) (hst : (st, listOf vs.toArray n) ∈ news) (U : UpdF ot (listOf os.toArray n₂) news g) (hne : st ≠ ot) (h0 : 0 ≤ b) (h1 : b ≤ top) (h2 : top ≤ vs.length) (h3 : vs.length < 900000) (h4 : 0 ≤ k) (h5 : k ≤ top - b) (h6 : 0 ≤ free) (h7 : free ≤ os.length) (h8 : os.length + vs.length < 900000)
    (hret : ∀ tp n' t t₂ h' tk', Fr h₀ L h' m → News h₀ L h' ((tp, tupObj [.int (top - k) t, .int (free + k) t₂]) :: g (listOf (pushAll os free.toNat ((vs.take top.toNat).drop (top - k).toNat)).toArray n')) → (∀ q ∈ g (listOf (pushAll os free.toNat ((vs.take top.toNat).drop (top - k).toNat)).toArray n'), q.1 < tp) → Q (.ref tp) { s with heap := h', toks := tk' }) :
    wpAny (model PySem.Challenge.rw_nt0628_01.row.prog w) (ktrTop dp un gd cn cs L a ccd cl outer) (call (.ref 111) [.ref st, .int b tb, .int top tk, .ref ot, .int free tf, .int k ti]) Q E s := by
  obtain ⟨rest, N1, off, hin, hsub, back⟩ := led_mem N U
  refine move_c0 B F X N1 (hin _ hst hne) off T hk hd hu h0 h1 h2 h3 h4 h5 h6 h7 h8 (fun tp n' t t₂ h' tk' F' N' l1 l2 => ?_)
  have N2 := back h' _ (fun p hp => N' p (.tail _ hp))
  refine hret tp n' t t₂ h' tk' F' (fun p hp => ?_) (fun q hq => ?_)
  · rcases List.mem_cons.mp hp with rfl | hp
    · exact N' _ (.head _)
    · exact N2 p hp
  · obtain ⟨pre, post, rfl, hg, a, b⟩ := U.split
    rw [hg] at hq
    rcases List.mem_append.mp hq with hq | hq
    · exact l1 q (hin q (List.mem_append_left _ hq) (a q hq))
    · rcases List.mem_cons.mp hq with rfl | hq
      · exact l2
      · exact l1 q (hin q (List.mem_append_right _ (.tail _ hq)) (b q hq))

theorem my_cut_lit {prog : Program} {w : World} {A : Around} {E : Value → Shared → Prop} {s : Shared} {h₀ : Heap} {L D e : Addr} {m : Str → Option Value} {news : List (Addr × Obj)} {vs : List Value} {n n₂ : Nat} {g : Obj → List (Addr × Obj)} {Q : Unit → Shared → Prop} {k : Int} {t : Tok}
    (F : Fr h₀ L s.heap m) (N : News h₀ L s.heap news) (U : UpdF D (listOf vs.toArray n) news g) (he : (e, listOf #[] n₂) ∈ news) (hne : D ≠ e) (h0 : 0 ≤ k) (h1 : k ≤ vs.length) (hsz : vs.length < 1000000)
    (h : ∀ h' n', Fr h₀ L h' m → News h₀ L h' (g (listOf (vs.take k.toNat).toArray n')) → Q () { s with heap := h' }) :
    wpAny (model prog w) A (setItem (.ref D) (.ref s.heap.objs.size) (.ref e)) Q E { s with heap := s.heap.push { cls := .type "slice", data := .fields #[.int k t, .none, .none] } } :=
  my_cut (s := { s with heap := s.heap.push { cls := .type "slice", data := .fields #[.int k t, .none, .none] } }) (F.push _) (N.pushKeep _) U he hne (Heap.IsSliceOf.new ..) h0 h1 hsz h
theorem fmod_range {a b : Int} (h : 0 < b) : 0 ≤ a.fmod b ∧ a.fmod b < b := ⟨Int.fmod_nonneg_of_pos a h, Int.fmod_lt_of_pos a h⟩
theorem fdiv_nonneg' {a b : Int} (h : 0 ≤ a) (hb : 0 < b) : 0 ≤ a.fdiv b := Int.fdiv_nonneg h (Int.le_of_lt hb)

theorem lines_52_gen : True := by
  k_with "call ref" => (k_here; (with_reducible show wpAny _ _ (call (Value.ref 90) [Value.ref _, Value.int _ _, Value.int _ _]) _ _ _); k_dflt (refine' replace_c (by k_asm) (by k_asm) (by k_asm) (by k_asm) (by k_asm) (by first | exact rfl | assumption) (by k_room) (by walk_at "my units") (by k_updF) (by walk_at "my fact") (by walk_at "my fact") (by walk_at "my fact") (by walk_at "my fact") ?_; k_whole); intro n' t' h' tk' F' N'; (try dsimp only at N'); (try dsimp only))
  k_with "call ref" => (k_here; (with_reducible show wpAny _ _ (call (Value.ref 76) [Value.ref _, Value.int _ _, Value.int _ _]) _ _ _); k_dflt (refine' remove_c (by k_asm) (by k_asm) (by k_asm) (by k_asm) (by k_asm) (by first | exact rfl | assumption) (by k_room) (by walk_at "my units") (by k_updF) (by walk_at "my fact") (by walk_at "my fact") (by walk_at "my fact") (by walk_at "my fact") ?_; k_whole); intro n' t' h' tk' F' N'; (try dsimp only at N'); (try dsimp only))
  k_with "call ref" => (k_here; (with_reducible show wpAny _ _ (call (Value.ref 83) [Value.ref _, Value.int _ _, Value.int _ _]) _ _ _); k_dflt (refine' insert_c (by k_asm) (by k_asm) (by k_asm) (by k_asm) (by k_asm) (by first | exact rfl | assumption) (by k_room) (by walk_at "my units") (by k_updF) (by walk_at "my fact") (by walk_at "my fact") (by walk_at "my fact") (by walk_at "my fact") ?_; k_whole); intro n' h' tk' F' N'; (try dsimp only at N'); (try dsimp only))
  k_with "call ref" => (k_here; (with_reducible show wpAny _ _ (call (Value.ref 69) [Value.ref _, Value.int _ _, Value.int _ _, Value.int _ _]) _ _ _); k_dflt (refine' set_top_c (by k_asm) (by k_asm) (by k_asm) (by k_asm) (by k_asm) (by first | exact rfl | assumption) (by k_room) (by walk_at "my units") (by k_updF) (by walk_at "my fact") (by walk_at "my fact") (by walk_at "my fact") (by walk_at "my fact") (by walk_at "my fact") (by walk_at "my fact") ?_; k_whole); intro n' t' h' tk' F' N'; (try dsimp only at N'); (try dsimp only))
  k_with "call ref" => (k_here; (with_reducible show wpAny _ _ (call (Value.ref 111) [Value.ref _, Value.int _ _, Value.int _ _, Value.ref _, Value.int _ _, Value.int _ _]) _ _ _); k_dflt (refine' move_c (by k_asm) (by k_asm) (by k_asm) (by k_asm) (by k_asm) (by first | exact rfl | assumption) (by k_room) (by walk_at "my units") (by k_mem) (by k_updF) (by first | assumption | k_ne | exact neN (by omega)) (by walk_at "my fact") (by walk_at "my fact") (by walk_at "my fact") (by walk_at "my fact") (by walk_at "my fact") (by walk_at "my fact") (by walk_at "my fact") (by walk_at "my fact") (by walk_at "my fact") ?_; k_whole); intro tp' n' t' t2' h' tk' F' N' l1; (try dsimp only at N' l1); (try dsimp only); (try k_lt l1))
  k_with "setItem ref ref" => (k_here; (with_reducible show wpAny _ _ (setItem (Value.ref _) (Value.ref _) (Value.ref _)) _ _ _); k_dflt (refine' my_cut_lit (by k_asm) (by k_asm) (by k_updF) (by k_mem) (by k_ne) (by walk_at "my fact") (by walk_at "my fact") (by walk_at "my fact") ?_; k_whole); intro h' n' F' N'; (try dsimp only at N'); (try k_sweep))
  trivial
set_option maxHeartbeats 4000000 in
theorem topped_c0 {w : World} {p : Program} {loose : List Str} {mean : ExcName → Option Value} {mg mb : Str → Option Value}
    {dp un : Nat} {gd : Option (List Code)} {cn : Str} {cs : Scope} {a : Addr} {ccd : Value} {cl : List (Str × Addr)} {outer : List Env} {A₀ : Around} {base h₀ : Heap} {L : Addr} {m : Str → Option Value} {s : Shared} {Q E : Value → Shared → Prop} {news : List (Addr × Obj)}
    {st pl : Addr} {bs vs ps : List Value} {n n₂ : Nat} {b top q : Int} {tb tt tq : Tok}
    (B : Below A₀ base outer h₀) (F : Fr h₀ L s.heap m) (X : (Mine.hd.heap_39 w.params).In h₀) (N : News h₀ L s.heap ((st, listOf vs.toArray n) :: (pl, listOf ps.toArray n₂) :: news)) (hoff : ∀ q ∈ news, q.1 ≠ st) (hoff2 : ∀ q ∈ news, q.1 ≠ pl) (hne : @Ne Nat st pl) (T : Top p loose mean mg mb h₀) (hk : cs.kind = .function)
    (hd : dp + 20 < recursionLimit) (hu : un + 400 < cLine) (I : SInv bs vs ps b top) (hq : 0 ≤ q) (h3 : vs.length < 10000)
    (hret : ∀ vs' ps' top' n' n₂' t h' tk', SInv bs vs' ps' b top' → (vs'.length : Int) = max (vs.length : Int) top' → ps'.length ≤ ps.length + 3 → Fr h₀ L h' m → News h₀ L h' ((st, listOf vs'.toArray n') :: (pl, listOf ps'.toArray n₂') :: news) → Q (.int top' t) { s with heap := h', toks := tk' }) :
    wpAny (model PySem.Challenge.rw_nt0628_01.row.prog w) (ktrTop dp un gd cn cs L a ccd cl outer) (call (.ref 146) [.ref st, .int b tb, .int top tt, .ref pl, .int q tq]) Q E s := by
  revert X; k_fill; intro X
  obtain ⟨f1, f2, f3, f4, f5, f6, f7, f8, f9⟩ := I.facts
  obtain ⟨g1, g2⟩ := fmod_range (a := q.fdiv 2) (b := (ps.length : Int) + 4) (by omega)
  obtain ⟨g3, g4⟩ := fmod_range (a := q.fdiv 2) (b := (ps.length : Int) + 1) (by omega)
  refine wpAny_call ?_
  k_dflt cell_enter
  k_steps
  · (with_reducible rename News h₀ L _ _ => kN)
    refine hret _ _ _ _ _ _ _ _ ?i1 ?i2 ?len (by assumption) (news_tail (news_tail (news_tail kN)))
    case i1 => exact (topped_if _ (by first | (congr 1; done) | (congr 1; split <;> omega)) I g1).1
    case i2 => exact (topped_if _ (by first | (congr 1; done) | (congr 1; split <;> omega)) I g1).2
    case len => rw [List.length_take, List.length_append, List.length_replicate]; omega
  · (with_reducible rename News h₀ L _ _ => kN)
    have h5 := topped_ifn (l := (q.fdiv 2).fmod (↑ps.length + 1)) I g3 (by omega)
    refine hret _ _ _ _ _ _ _ _ h5.1 h5.2 ?len (by assumption) (news_tail kN)
    case len => rw [List.length_take]; omega

theorem lines_60_wr : True := by
  k_with "eval Lambda" => (k_here; (fail_if_success (with_reducible rename ExtOf _ _ _ => kE)); refine Stop.out ?_)
  k_with "my spec" => first
  | (refine' lam_settop (vs := []) (n := 0) (by k_mem) (by exact CodeIn.mono (by assumption) sub2) (by walk_at "my cell") (by walk_at "my cell") (by walk_at "my cell") (by walk_at "my cell") (by walk_at "my cell") (by rfl) (by omega))
  | (refine' lam_take (by k_mem) (by exact CodeIn.mono (by assumption) sub2) (by walk_at "my cell") (by walk_at "my cell") (by walk_at "my cell") (by walk_at "my cell") (by walk_at "my cell") (by k_mem) (by rfl) (by omega) (by omega) (by omega) (by omega))
  | (refine' lam_need1 (st := 0) (vs := []) (n := 0) (by k_mem) (by exact CodeIn.mono (by assumption) sub2) (by walk_at "my cell") (by walk_at "my cell") (by walk_at "my cell") (by walk_at "my cell") (by rfl) (by omega))
  | (refine' lam_need0 (st := 0) (vs := []) (n := 0) (by k_mem) (by exact CodeIn.mono (by assumption) sub2) (by walk_at "my cell") (by walk_at "my cell") (by walk_at "my cell") (by rfl))
  trivial
theorem cells_five {cm : Str → Option Value} {n₀ n₁ n₂ n₃ n₄ : Str} {c₀ c₁ c₂ c₃ c₄ : Addr} {cells : List (Addr × Obj)} (x : CellsAre cm [(n₀, c₀), (n₁, c₁), (n₂, c₂), (n₃, c₃), (n₄, c₄)] cells) :
    ∃ o₀ o₁ o₂ o₃ o₄, cells = [(c₀, o₀), (c₁, o₁), (c₂, o₂), (c₃, o₃), (c₄, o₄)] ∧ o₀.data = .cell (cm n₀) ∧ o₁.data = .cell (cm n₁) ∧ o₂.data = .cell (cm n₂) ∧ o₃.data = .cell (cm n₃) ∧ o₄.data = .cell (cm n₄) := by
  cases x with | cons h r => obtain ⟨o₁, o₂, o₃, o₄, rfl, h₁, h₂, h₃, h₄⟩ := r.four; exact ⟨_, o₁, o₂, o₃, o₄, rfl, h, h₁, h₂, h₃, h₄⟩
theorem restr6 {g h : Heap} {L1 D P : Nat} {c o1 o2 o3 o4 o5 : Obj} {ps : Array Value} {q : Str} {news : List (Addr × Obj)}
    (N : News g L1 h ((D, c) :: (L1 + 1 + 1 + 1 + 1 + 1, o1) :: (L1 + 1 + 1 + 1 + 1, o2) :: (L1 + 1 + 1 + 1, o3) :: (L1 + 1 + 1, o4) :: (L1 + 1, o5) :: (P, tabObj ps) :: news))
    (l1 : ∀ p ∈ (P, tabObj ps) :: news, p.1 < L1) (hD : L1 + 1 + 1 + 1 + 1 + 1 < D) (off : ∀ q ∈ news, q.1 ≠ P) (tab : TabOk q ps news) :
    News g L1 h ((P, tabObj ps) :: (D, c) :: (L1 + 1 + 1 + 1 + 1 + 1, o1) :: (L1 + 1 + 1 + 1 + 1, o2) :: (L1 + 1 + 1 + 1, o3) :: (L1 + 1 + 1, o4) :: (L1 + 1, o5) :: news) ∧
      ExtOf P ((D, c) :: (L1 + 1 + 1 + 1 + 1 + 1, o1) :: (L1 + 1 + 1 + 1 + 1, o2) :: (L1 + 1 + 1 + 1, o3) :: (L1 + 1 + 1, o4) :: (L1 + 1, o5) :: news) news ∧
      OffP P ((D, c) :: (L1 + 1 + 1 + 1 + 1 + 1, o1) :: (L1 + 1 + 1 + 1 + 1, o2) :: (L1 + 1 + 1 + 1, o3) :: (L1 + 1 + 1, o4) :: (L1 + 1, o5) :: news) ∧
      TabOk q ps ((D, c) :: (L1 + 1 + 1 + 1 + 1 + 1, o1) :: (L1 + 1 + 1 + 1 + 1, o2) :: (L1 + 1 + 1 + 1, o3) :: (L1 + 1 + 1, o4) :: (L1 + 1, o5) :: news) := by
  have hP : (P : Nat) < L1 := ltN (l1 _ (.head _))
  have a1 : ∀ q ∈ [(D, c), (L1 + 1 + 1 + 1 + 1 + 1, o1), (L1 + 1 + 1 + 1 + 1, o2), (L1 + 1 + 1 + 1, o3), (L1 + 1 + 1, o4), (L1 + 1, o5)], q.1 ≠ P := fun q hq => by
    simp only [List.mem_cons, List.not_mem_nil, or_false] at hq
    rcases hq with rfl | rfl | rfl | rfl | rfl | rfl <;> exact neN (by dsimp only; omega)
  have a2 : ∀ q ∈ [(D, c), (L1 + 1 + 1 + 1 + 1 + 1, o1), (L1 + 1 + 1 + 1 + 1, o2), (L1 + 1 + 1 + 1, o3), (L1 + 1 + 1, o4), (L1 + 1, o5)], ∀ r ∈ news, r.1 ≠ q.1 := fun q hq r hr => by
    have hr' := ltN (l1 r (.tail _ hr))
    simp only [List.mem_cons, List.not_mem_nil, or_false] at hq
    rcases hq with rfl | rfl | rfl | rfl | rfl | rfl <;> exact neN (by dsimp only; omega)
  refine ⟨fun p hp => N p ?_, ⟨[(D, c), (L1 + 1 + 1 + 1 + 1 + 1, o1), (L1 + 1 + 1 + 1 + 1, o2), (L1 + 1 + 1 + 1, o3), (L1 + 1 + 1, o4), (L1 + 1, o5)], rfl, a1, a2⟩, OffP.step a1 off, tab.mono fun p hp => List.mem_append_right [(D, c), (L1 + 1 + 1 + 1 + 1 + 1, o1), (L1 + 1 + 1 + 1 + 1, o2), (L1 + 1 + 1 + 1, o3), (L1 + 1 + 1, o4), (L1 + 1, o5)] hp⟩
  simp only [List.mem_cons] at hp ⊢; grind
abbrev qWr : Str := Str.ofString "_law_wrong_refused" ++ ".<locals>." ++ "<lambda>"
set_option maxHeartbeats 4000000 in
theorem wrong_refused_c {w : World} {p : Program} {loose : List Str} {mean : ExcName → Option Value} {mg mb : Str → Option Value}
    {dp un : Nat} {gd : Option (List Code)} {cn : Str} {cs : Scope} {a : Addr} {ccd : Value} {cl : List (Str × Addr)} {outer : List Env} {A₀ : Around} {base h₀ : Heap} {L : Addr} {m : Str → Option Value} {s : Shared} {Q E : Value → Shared → Prop} {news : List (Addr × Obj)}
    {st : Addr} {vs : List Value} {n : Nat} {ps : Array Value} {b t q : Int} {tb tt tq : Tok}
    (B : Below A₀ base outer h₀) (F : Fr h₀ L s.heap m) (X : (Mine.hd.heap_39 w.params).In h₀) (N : News h₀ L s.heap ((134, tabObj ps) :: news)) (T : Top p loose mean mg mb h₀) (hk : cs.kind = .function)
    (XB : (Mine.hd.heap_39 w.params).In base) (TB : Top p loose mean mg mb base) (D : KtsDicts (outer.filterMap (·.frame)) h₀) (C : CodeHd base 138 134) (off : ∀ q ∈ news, q.1 ≠ 134) (tab : TabOk qWr ps news)
    (hst : (st, listOf vs.toArray n) ∈ news) (hpl : PlainL vs)
    (hd : dp + 60 < recursionLimit) (hu : un + 900 < cLine) (h0 : 0 ≤ b) (h1 : b ≤ t) (h2 : t ≤ vs.length) (h3 : vs.length < 10000)
    (hret : ∀ h₀' ps' extra h' tk', KtsTurn (outer.filterMap (·.frame)) h₀ h₀' → Fr h₀' L h' m → News h₀' L h' ((134, tabObj ps') :: (extra ++ news)) → TabOk qWr ps' (extra ++ news) → (∀ q ∈ extra, q.1 ≠ 134) → (∀ q ∈ extra, ∀ r ∈ news, r.1 ≠ q.1) → Below A₀ base outer h₀' → (Mine.hd.heap_39 w.params).In h₀' → Top p loose mean mg mb h₀' → KtsDicts (outer.filterMap (·.frame)) h₀' → Q (.bool true) { s with heap := h', toks := tk' }) :
    wpAny (model PySem.Challenge.rw_nt0628_01.row.prog w) (ktrTop dp un gd cn cs L a ccd cl outer) (call (.ref 139) [.ref st, .int b tb, .int t tt, .int q tq]) Q E s := by
  revert X; k_fill; intro X
  refine wpAny_call ?_
  walk_at "my enterXC"
  intro g L1 hp tk cells FG F1 N1 Y B1 X1 T1 D1 l1
  obtain ⟨o1, o2, o3, o4, o5, hE, d1, d2, d3, d4, d5⟩ := cells_five Y
  subst hE
  clear Y
  simp only [List.cons_append, List.nil_append] at N1
  have hT0 : KtsTurn ((envX cn cs L a ccd cl :: outer).filterMap (·.frame)) g g := KtsTurn.refl
  (try dsimp only)
  have c1 : o1.data = .cell none := d1
  have c2 : o2.data = .cell (some (.int q tq)) := d2
  have c3 : o3.data = .cell (some (.int t tt)) := d3
  have c4 : o4.data = .cell (some (.int b tb)) := d4
  have c5 : o5.data = .cell (some (.ref st)) := d5
  clear d1 d2 d3 d4 d5
  change Fr g L1 hp (fun y => none) at F1
  have h134 : (134 : Nat) < L1 := ltN (l1 _ (.head _))
  have hmo : ∀ q ∈ news, q.1 ≠ L1 + 1 + 1 + 1 + 1 + 1 := fun q hq => neN (by have := ltN (l1 q (.tail _ hq)); omega)
  k_steps
  unfold Stop
  (with_reducible rename News _ _ _ _ => N3)
  (with_reducible rename (L1 + 1 + 1 + 1 + 1 + 1 < _) ∧ _ => l3)
  obtain ⟨N4, kE, kO, tabR⟩ := restr6 (news_tail N3) l1 l3.1 off tab
  clear N3 off tab l1 l3 hmo
  k_steps
  (with_reducible rename ExtOf _ _ _ => kE)
  (with_reducible rename KtsTurn (List.filterMap _ outer) h₀ _ => kT0)
  (with_reducible rename TabOk _ _ _ => tabF)
  (with_reducible rename News _ _ _ _ => kN)
  obtain ⟨R, eR, x1, x2⟩ := kE
  rw [eR] at tabF
  exact hret _ _ R _ _ kT0 (by assumption) (by rw [← eR]; exact kN) tabF x1 x2 (by assumption) (by assumption) (by assumption) (by assumption)

theorem plain_pushL {vs : List Value} {i : Nat} {v : Value} (h : PlainL vs) (hv : PlainV v) : PlainL (pushL vs i v) := by
  unfold pushL; split
  · exact h.set i hv
  · exact h.append (PlainL.cons hv PlainL.nil)
theorem plain_pushAll : ∀ {us vs : List Value} {i : Nat}, PlainL vs → PlainL us → PlainL (pushAll vs i us)
  | [], _, _, h, _ => h
  | u :: us, vs, i, h, hu => by
    show PlainL (pushAll (pushL vs i u) (i + 1) us)
    exact plain_pushAll (plain_pushL h (PlainL.cons_iff.mp hu).1) (PlainL.cons_iff.mp hu).2
/-- the free places stay as they were, and then come the values -/
theorem moved {os us : List Value} {f : Int} (h0 : 0 ≤ f) (h1 : f ≤ os.length) (p : PlainL os) (pu : PlainL us) :
    (pushAll os f.toNat us).take f.toNat = os.take f.toNat ∧ ∀ e : Int, e = f + us.length → ((pushAll os f.toNat us).take e.toNat).drop f.toNat = us ∧ e ≤ (pushAll os f.toNat us).length := by
  have I := pushAll_inv us (cut_start h0 h1 p) pu
  rw [List.nil_append] at I
  have f := I.facts
  exact ⟨f.2.2.2.1, fun e he => by subst he; exact ⟨f.2.2.2.2.1, f.2.2.1⟩⟩
theorem same_rep {x : Str} {t1 t2 : Tok} {a f : Nat} (h : f ≤ a) : List.map dat ((List.replicate a (Value.str x t1)).take f) = List.map dat (List.replicate f (Value.str x t2)) := by
  rw [List.take_replicate, Nat.min_eq_left h, List.map_replicate, List.map_replicate]; rfl
theorem tail_same {bs vs ps : List Value} {b top k : Int} (I : SInv bs vs ps b top) (h0 : 0 ≤ k) (h1 : k ≤ ps.length) : (vs.take top.toNat).drop (top - k).toNat = ps.drop ((ps.length : Int) - k).toNat := by
  obtain ⟨e1, e2, ⟨xs, rfl⟩, p1, p2, p3⟩ := I
  have ht : top.toNat = bs.length + ps.length := by lia
  have hk : (top - k).toNat = bs.length + ((ps.length : Int) - k).toNat := by lia
  have a2 : (bs ++ (ps ++ xs)).take (bs.length + ps.length) = bs ++ ps := by
    rw [List.take_append, List.take_of_length_le (by lia), show bs.length + ps.length - bs.length = ps.length by lia, List.take_append_of_le_length (by lia), List.take_length]
  rw [ht, hk, a2, List.drop_append, List.drop_eq_nil_of_le (by lia), List.nil_append]
  congr 1; lia
theorem pushAll_length : ∀ {us vs : List Value} {i : Nat}, (pushAll vs i us).length ≤ vs.length + us.length
  | [], vs, i => Nat.le_refl _
  | u :: us, vs, i => by
    have h := @pushAll_length us (pushL vs i u) (i + 1)
    have h2 := @pushL_length vs i u
    show (pushAll (pushL vs i u) (i + 1) us).length ≤ vs.length + (us.length + 1)
    split at h2 <;> lia
set_option maxHeartbeats 4000000 in
theorem move_c2 {w : World} {p : Program} {loose : List Str} {mean : ExcName → Option Value} {mg mb : Str → Option Value}
    {dp un : Nat} {gd : Option (List Code)} {cn : Str} {cs : Scope} {a : Addr} {ccd : Value} {cl : List (Str × Addr)} {outer : List Env} {A₀ : Around} {base h₀ : Heap} {L : Addr} {m : Str → Option Value} {s : Shared} {Q E : Value → Shared → Prop} {news : List (Addr × Obj)}
    {st ot : Addr} {vs os : List Value} {n n₂ : Nat} {b top k free : Int} {tb tk ti tf : Tok} {g : Obj → List (Addr × Obj)}
    (B : Below A₀ base outer h₀) (F : Fr h₀ L s.heap m) (X : (Mine.hd.heap_39 w.params).In h₀) (N : News h₀ L s.heap news) (T : Top p loose mean mg mb h₀) (hk : cs.kind = .function) (hd : dp + 15 < recursionLimit) (hu : un + 300 < cLine) (hst : (st, listOf vs.toArray n) ∈ news) (U : UpdF ot (listOf os.toArray n₂) news g) (hne : st ≠ ot) (h0 : 0 ≤ b) (h1 : b ≤ top) (h2 : top ≤ vs.length) (h3 : vs.length < 10000) (h4 : 0 ≤ k) (h5 : k ≤ top - b) (h6 : 0 ≤ free) (h7 : free ≤ os.length) (h8 : os.length < 10000) (pv : PlainL vs) (po : PlainL os)
    (hret : ∀ tp os' n' t t₂ h' tk', PlainL os' → os'.length < 30000 → os'.take free.toNat = os.take free.toNat → (os'.take (free + k).toNat).drop free.toNat = (vs.take top.toNat).drop (top - k).toNat → free + k ≤ os'.length → Fr h₀ L h' m → News h₀ L h' ((tp, tupObj [.int (top - k) t, .int (free + k) t₂]) :: g (listOf os'.toArray n')) → (∀ q ∈ g (listOf os'.toArray n'), q.1 < tp) → Q (.ref tp) { s with heap := h', toks := tk' }) :
    wpAny (model PySem.Challenge.rw_nt0628_01.row.prog w) (ktrTop dp un gd cn cs L a ccd cl outer) (call (.ref 111) [.ref st, .int b tb, .int top tk, .ref ot, .int free tf, .int k ti]) Q E s := by
  have pu : PlainL ((vs.take top.toNat).drop (top - k).toNat) := (pv.take _).drop _
  have hl : ((vs.take top.toNat).drop (top - k).toNat).length = k.toNat := by simp only [List.length_drop, List.length_take]; lia
  obtain ⟨m1, m2⟩ := moved h6 h7 po pu
  obtain ⟨m3, m4⟩ := m2 (free + k) (by rw [hl]; lia)
  have m5 := @pushAll_length ((vs.take top.toNat).drop (top - k).toNat) os free.toNat
  exact move_c B F X N T hk hd hu hst U hne h0 h1 h2 (by lia) h4 h5 h6 h7 (by lia) (fun tp n' t t₂ h' tk' F' N' l1 => hret tp _ n' t t₂ h' tk' (plain_pushAll po pu) (by lia) m1 m3 m4 F' N' l1)

theorem lines_62_pre : True := by
  k_with "call ref" => (k_here; (with_reducible show wpAny _ _ (call (Value.ref 146) [Value.ref _, Value.int _ _, Value.int _ _, Value.ref _, Value.int _ _]) _ _ _); k_dflt (refine' topped_c0 (by k_asm) (by k_asm) (by k_asm) (by first | k_asm | exact news_tail (by k_asm) | exact news_tail (news_tail (by k_asm))) (by assumption) (by assumption) (by assumption) (by k_asm) (by first | exact rfl | assumption) (by k_room) (by walk_at "my units") (by assumption) (by walk_at "my fact") (by walk_at "my fact") ?_; k_whole); intro vs' ps' top' n' n2' t' h' tk' I' e1' e2' F' N'; (try dsimp only at N'); (try dsimp only))
  k_with "my plain" => (refine plain_pushAll ?_ ?_ <;> walk_at "my plain")
  k_with "my plainV" => (show PyData.strOk _ = true; decide +kernel)
  k_with "call ref" => (k_here; (with_reducible show wpAny _ _ (call (Value.ref 111) [Value.ref _, Value.int _ _, Value.int _ _, Value.ref _, Value.int _ _, Value.int _ _]) _ _ _); k_dflt (refine' move_c2 (by k_asm) (by k_asm) (by k_asm) (by k_asm) (by k_asm) (by first | exact rfl | assumption) (by k_room) (by walk_at "my units") (by k_mem) (by k_updF) (by first | assumption | k_ne | exact neN (by omega)) (by walk_at "my fact") (by walk_at "my fact") (by walk_at "my fact") (by walk_at "my fact") (by walk_at "my fact") (by walk_at "my fact") (by walk_at "my fact") (by walk_at "my fact") (by walk_at "my fact") (by walk_at "my plain") (by walk_at "my plain") ?_; k_whole); intro tp' os' n' t' t2' h' tk' q1' q2' q3' q4' q5' F' N' l1; (try dsimp only at N' l1); (try dsimp only); (try k_lt l1))
  k_with "my same" => exact (congrArg (List.map dat) (by with_reducible assumption)).trans (same_rep (by walk_at "my fact"))
  trivial
set_option maxHeartbeats 4000000 in
theorem taken_right_c0 {w : World} {p : Program} {loose : List Str} {mean : ExcName → Option Value} {mg mb : Str → Option Value}
    {dp un : Nat} {gd : Option (List Code)} {cn : Str} {cs : Scope} {a : Addr} {ccd : Value} {cl : List (Str × Addr)} {outer : List Env} {A₀ : Around} {base h₀ : Heap} {L : Addr} {m : Str → Option Value} {s : Shared} {Q E : Value → Shared → Prop} {news : List (Addr × Obj)}
    {st pl : Addr} {bs vs ps : List Value} {n n₂ : Nat} {b top q : Int} {tb tt tq : Tok}
    (B : Below A₀ base outer h₀) (F : Fr h₀ L s.heap m) (X : (Mine.hd.heap_39 w.params).In h₀) (N : News h₀ L s.heap ((st, listOf vs.toArray n) :: (pl, listOf ps.toArray n₂) :: news)) (hoff : ∀ q ∈ news, q.1 ≠ st) (hoff2 : ∀ q ∈ news, q.1 ≠ pl) (hne : @Ne Nat st pl) (T : Top p loose mean mg mb h₀) (hk : cs.kind = .function)
    (hd : dp + 30 < recursionLimit) (hu : un + 500 < cLine) (I : SInv bs vs ps b top) (hq : 0 ≤ q) (h3 : vs.length < 10000)
    (hret : ∀ h' tk', Fr h₀ L h' m → News h₀ L h' ((st, listOf vs.toArray n) :: (pl, listOf ps.toArray n₂) :: news) → Q (.bool true) { s with heap := h', toks := tk' }) :
    wpAny (model PySem.Challenge.rw_nt0628_01.row.prog w) (ktrTop dp un gd cn cs L a ccd cl outer) (call (.ref 153) [.ref st, .int b tb, .int top tt, .ref pl, .int q tq]) Q E s := by
  revert X; k_fill; intro X
  obtain ⟨f1, f2, f3, f4, f5, f6, f7, f8, f9⟩ := I.facts
  obtain ⟨g1, g2⟩ := fmod_range (a := q) (b := (ps.length : Int) + 1) (by omega)
  have g3 := tail_same (k := q.fmod (↑ps.length + 1)) I g1 (by omega)
  refine wpAny_call ?_
  k_dflt cell_enter
  k_steps
  all_goals (first
    | (exfalso; omega)
    | ((with_reducible rename News h₀ L _ _ => kN); exact hret _ _ (by assumption) (fun p hp => kN p (by simp only [List.mem_cons] at hp ⊢; grind)))
    | (exfalso; simp_all; done))

set_option maxHeartbeats 4000000 in
theorem taken_place_c2 {w : World} {p : Program} {loose : List Str} {mean : ExcName → Option Value} {mg mb : Str → Option Value}
    {dp un : Nat} {gd : Option (List Code)} {cn : Str} {cs : Scope} {a : Addr} {ccd : Value} {cl : List (Str × Addr)} {outer : List Env} {A₀ : Around} {base h₀ : Heap} {L : Addr} {m : Str → Option Value} {s : Shared} {Q E : Value → Shared → Prop} {news : List (Addr × Obj)}
    {i b t : Int} {ti tb tt : Tok}
    (B : Below A₀ base outer h₀) (F : Fr h₀ L s.heap m) (X : (Mine.hd.heap_39 w.params).In h₀) (N : News h₀ L s.heap news) (T : Top p loose mean mg mb h₀) (hk : cs.kind = .function)
    (hd : dp + 10 < recursionLimit) (hu : un + 200 < cLine) (h0 : 0 ≤ b) (h1 : b ≤ t) (h2 : t - b < 5000)
    (hret : ∀ r, ((0 < i ∧ i ≤ t - b ∧ r = b + i - 1) ∨ (i < 0 ∧ -(t - b) ≤ i ∧ r = t + i)) → ∀ t h' tk', Fr h₀ L h' m → News h₀ L h' news → Q (.int r t) { s with heap := h', toks := tk' })
    (hthr : (i = 0 ∨ i < -(t - b) ∨ t - b < i) → Thrown base h₀ (envX cn cs L a ccd cl) outer L m news s E) :
    wpAny (model PySem.Challenge.rw_nt0628_01.row.prog w) (ktrTop dp un gd cn cs L a ccd cl outer) (call (.ref 48) [.int i ti, .int b tb, .int t tt]) Q E s :=
  taken_place_c B F X N T hk hd hu (fun r hr => hret r (taken_some hr h0 h1 h2)) (fun hz => hthr (taken_no hz h0 h1 h2))
theorem item_same {bs vs ps : List Value} {b top j r : Int} (I : SInv bs vs ps b top) (h0 : 0 ≤ j) (h1 : j < ps.length) (hr : r = b + j) : vs.getD r.toNat .none = ps.getD j.toNat .none := by
  obtain ⟨e1, e2, ⟨xs, rfl⟩, p1, p2, p3⟩ := I
  rw [show r.toNat = bs.length + j.toNat by lia]
  exact getD_mid (by lia)
section
variable {bs vs ps : List Value} {b top p : Int}
theorem insert_inv' (I : SInv bs vs ps b top) (h0 : 0 ≤ p) (h1 : p < ps.length) :
    SInv bs (insL vs (b + p).toNat top.toNat) (ps.dropLast.take p.toNat ++ ps.getD (ps.length - 1) .none :: ps.dropLast.drop p.toNat) b top ∧ ((insL vs (b + p).toNat top.toNat).length : Int) = max (vs.length : Int) top := by
  obtain ⟨j, rfl⟩ := Int.eq_ofNat_of_zero_le h0
  have f := I.facts
  obtain ⟨a1, a2⟩ := insert_inv (j := j) I (by lia)
  exact ⟨a1, by rw [a2]; lia⟩
theorem remove_inv' (I : SInv bs vs ps b top) (h0 : 0 ≤ p) (h1 : p < ps.length) :
    SInv bs (remL vs (b + p).toNat top.toNat) (ps.eraseIdx p.toNat) b (top - 1) ∧ ((remL vs (b + p).toNat top.toNat).length : Int) = max (vs.length : Int) (top - 1) := by
  obtain ⟨j, rfl⟩ := Int.eq_ofNat_of_zero_le h0
  have f := I.facts
  obtain ⟨a1, a2⟩ := remove_inv (j := j) I (by lia)
  exact ⟨a1, by rw [a2]; lia⟩
theorem replace_inv' (I : SInv bs vs ps b top) (h0 : 0 ≤ p) (h1 : p < ps.length) :
    SInv bs (vs.set (b + p).toNat (vs.getD (top - 1).toNat .none)) (ps.set p.toNat (ps.getD (ps.length - 1) .none)).dropLast b (top - 1) ∧ ((vs.set (b + p).toNat (vs.getD (top - 1).toNat .none)).length : Int) = max (vs.length : Int) (top - 1) := by
  obtain ⟨j, rfl⟩ := Int.eq_ofNat_of_zero_le h0
  have f := I.facts
  exact ⟨replace_inv (j := j) I (by lia), by rw [List.length_set]; lia⟩
theorem again_inv {r : Int} (I : SInv bs vs ps b top) (h0 : 0 ≤ p) (h1 : p < ps.length) (hr : r = b + p) :
    SInv bs (pushL vs top.toNat (vs.getD r.toNat .none)) (ps ++ [ps.getD p.toNat .none]) b (top + 1) ∧ ((pushL vs top.toNat (vs.getD r.toNat .none)).length : Int) = max (vs.length : Int) (top + 1) := by
  rw [item_same I h0 h1 hr]
  exact push_inv I (I.2.2.2.2.1.getD _)
theorem still_inv (I : SInv bs vs ps b top) : (vs.length : Int) = max (vs.length : Int) top := by
  have f := I.facts
  lia
end

theorem lines_64_deed : True := by
  k_with "call ref" => (k_here; (with_reducible show wpAny _ _ (call (Value.ref 153) [Value.ref _, Value.int _ _, Value.int _ _, Value.ref _, Value.int _ _]) _ _ _); k_dflt (refine' taken_right_c0 (by k_asm) (by k_asm) (by k_asm) (by first | k_asm | exact news_tail (by k_asm) | exact news_tail (news_tail (by k_asm))) (by assumption) (by assumption) (by assumption) (by k_asm) (by first | exact rfl | assumption) (by k_room) (by walk_at "my units") (by assumption) (by walk_at "my fact") (by walk_at "my fact") ?_; k_whole); intro h' tk' F' N'; (try dsimp only at N'); (try dsimp only))
  k_with "call ref" => (k_here; (with_reducible show wpAny _ _ (call (Value.ref 48) [Value.int _ _, Value.int _ _, Value.int _ _]) _ _ _); k_dflt (refine' taken_place_c2 (by k_asm) (by k_asm) (by k_asm) (by k_asm) (by k_asm) (by first | exact rfl | assumption) (by k_room) (by walk_at "my units") (by walk_at "my fact") (by walk_at "my fact") (by walk_at "my fact") ?_ ?_; ((intro r' hr' t' h' tk' F' N'; (try dsimp only))); (rotate_left; ((intro hz'; unfold Thrown; intro e' t' vs' h' tk' g2' F' R' U'; (try dsimp only))))))
  k_with "my fact" => first | walk_at "my om" | ((simp only [fm2, fm3, fm4, fm5, fm8, fm9, fd2, fd3, fd8, List.length_append, List.length_cons, List.length_nil, List.length_take, List.length_drop, List.length_set, List.length_replicate, List.length_dropLast] at *); omega)
  trivial
set_option maxHeartbeats 4000000 in
theorem deed_c0 {w : World} {p : Program} {loose : List Str} {mean : ExcName → Option Value} {mg mb : Str → Option Value}
    {dp un : Nat} {gd : Option (List Code)} {cn : Str} {cs : Scope} {a : Addr} {ccd : Value} {cl : List (Str × Addr)} {outer : List Env} {A₀ : Around} {base h₀ : Heap} {L : Addr} {m : Str → Option Value} {s : Shared} {Q E : Value → Shared → Prop} {news : List (Addr × Obj)}
    {st pl : Addr} {bs vs ps : List Value} {n n₂ : Nat} {b top q : Int} {tb tt tq : Tok}
    (B : Below A₀ base outer h₀) (F : Fr h₀ L s.heap m) (X : (Mine.hd.heap_39 w.params).In h₀) (N : News h₀ L s.heap ((st, listOf vs.toArray n) :: (pl, listOf ps.toArray n₂) :: news)) (hoff : ∀ q ∈ news, q.1 ≠ st) (hoff2 : ∀ q ∈ news, q.1 ≠ pl) (hne : @Ne Nat st pl) (T : Top p loose mean mg mb h₀) (hk : cs.kind = .function)
    (hd : dp + 40 < recursionLimit) (hu : un + 700 < cLine) (I : SInv bs vs ps b top) (hq : 0 ≤ q) (h3 : vs.length < 3000)
    (hret : ∀ vs' ps' top' n' n₂' t h' tk', SInv bs vs' ps' b top' → (vs'.length : Int) = max (vs.length : Int) top' → ps'.length ≤ ps.length + 3 → Fr h₀ L h' m → News h₀ L h' ((st, listOf vs'.toArray n') :: (pl, listOf ps'.toArray n₂') :: news) → Q (.int top' t) { s with heap := h', toks := tk' }) :
    wpAny (model PySem.Challenge.rw_nt0628_01.row.prog w) (ktrTop dp un gd cn cs L a ccd cl outer) (call (.ref 160) [.ref st, .int b tb, .int top tt, .ref pl, .int q tq]) Q E s := by
  revert X; k_fill; intro X
  obtain ⟨f1, f2, f3, f4, f5, f6, f7, f8, f9⟩ := I.facts
  have g1 : (ps.length : Int) = 0 ∨ (0 ≤ (q.fdiv 8).fmod (ps.length : Int) ∧ (q.fdiv 8).fmod (ps.length : Int) < ps.length) := by
    by_cases h : (ps.length : Int) = 0
    · exact .inl h
    · exact .inr (fmod_range (by omega))
  have g0 : 0 ≤ q.fdiv 8 := by rw [fd8]; omega
  refine wpAny_call ?_
  k_dflt cell_enter
  k_steps
  all_goals first
    | (exfalso; omega)
    | ((with_reducible rename News h₀ L _ _ => kN)
       first
       | (refine hret _ _ _ _ _ _ _ _ ?i1 ?i2 ?i3 (by assumption) (news_tail kN)
          case i1 => first | (refine And.left (push_inv I ?_); exact trivial) | exact (insert_inv' I (by omega) (by omega)).1 | exact (remove_inv' I (by omega) (by omega)).1 | exact (replace_inv' I (by omega) (by omega)).1 | exact (again_inv I (by omega) (by omega) (by omega)).1
          case i2 => first | (refine And.right (push_inv I ?_); exact trivial) | exact (insert_inv' I (by omega) (by omega)).2 | exact (remove_inv' I (by omega) (by omega)).2 | exact (replace_inv' I (by omega) (by omega)).2 | (refine And.right (push_inv I ?_); exact f7.getD _)
          case i3 => (simp only [List.length_append, List.length_cons, List.length_nil, List.length_dropLast, List.length_set, List.length_take, List.length_drop, List.length_eraseIdx]; (try split) <;> omega))
       | exact hret _ _ _ _ _ _ _ _ (by assumption) (by assumption) (by assumption) (by assumption) kN
       | exact hret _ _ _ _ _ _ _ _ I (still_inv I) (by omega) (by assumption) kN)


/-- an object that is no code object of a lambda -/
def NoCode (o : Obj) : Prop := ∀ vs q t, o.data = .fields vs → vs[1]? ≠ some (.str q t)
theorem CodeIn.strip {R R' : List (Addr × Obj)} {c : Addr} {q : Str} (h : CodeIn R c q) (hs : ∀ p ∈ R, NoCode p.2 ∨ p ∈ R') : CodeIn R' c q := by
  obtain ⟨oc, vs, t, m, d, e⟩ := h
  rcases hs _ m with z | z
  · exact absurd e (z vs q t d)
  · exact ⟨oc, vs, t, z, d, e⟩
theorem TabOk.strip {q : Str} {ps : Array Value} {R R' : List (Addr × Obj)} (h : TabOk q ps R) (hs : ∀ p ∈ R, NoCode p.2 ∨ p ∈ R') : TabOk q ps R' :=
  ⟨h.tri, fun pos v e => let ⟨c', e', r⟩ := h.code pos v e; ⟨c', e', r.strip hs⟩⟩
theorem noCode_tab {q : Str} {ps : Array Value} {R : List (Addr × Obj)} (h : TabOk q ps R) : NoCode (tabObj ps) := fun vs q t e z => by
  have e' : ps = vs := by injection e
  subst e'
  have tri := h.tri
  rw [← Array.getElem?_toList] at z
  revert z tri
  match ps.toList with
  | [] => intro z; cases z
  | [a] => intro z; cases z
  | [a, b] => intro z tri; cases a <;> first | exact tri.elim | (cases b <;> exact tri.elim)
  | a :: b :: c :: r => intro z tri; cases a <;> first | exact tri.elim | (cases b <;> first | exact tri.elim | cases z)
theorem noCode_cell {o : Obj} {v : Option Value} (h : o.data = .cell v) : NoCode o := fun vs q t e => by rw [h] at e; cases e
theorem noCode_list {vs : Array Value} {n : Nat} : NoCode (listOf vs n) := fun vs q t e => by cases e
theorem noCode_tup {vs : List Value} : NoCode (tupObj vs) := fun vs q t e => by cases e

/-- a turn's end -/
def GPost {σ : Type} (h₀ : Heap) (L : Addr) (M : σ → Str → Option Value) (C : σ → List (Addr × Obj)) (J : σ → Prop) (it : Addr × Obj) (s : Shared) (Q : Flow → Shared → Prop) (f : Flow) (s₃ : Shared) : Prop :=
  match f with
  | .next | .cont => ∃ c h' tk, s₃ = { s with heap := h', toks := tk } ∧ J c ∧ Fr h₀ L h' (M c) ∧ News h₀ L h' (it :: C c) ∧ ∀ q ∈ C c, q.1 ≠ it.1
  | .brk => Q .next s₃
  | .ret v => Q (.ret v) s₃
theorem GPost.next {σ : Type} {h₀ : Heap} {L : Addr} {M : σ → Str → Option Value} {C : σ → List (Addr × Obj)} {J : σ → Prop} {it : Addr × Obj} {s : Shared} {Q : Flow → Shared → Prop} {h' : Heap} {tk : Nat} (c : σ)
    (F : Fr h₀ L h' (M c)) (N : News h₀ L h' (it :: C c)) (off : ∀ q ∈ C c, q.1 ≠ it.1) (hj : J c) : GPost h₀ L M C J it s Q .next { s with heap := h', toks := tk } := ⟨c, h', tk, rfl, hj, F, N, off⟩
theorem GPost.ret {σ : Type} {h₀ : Heap} {L : Addr} {M : σ → Str → Option Value} {C : σ → List (Addr × Obj)} {J : σ → Prop} {it : Addr × Obj} {s s₃ : Shared} {Q : Flow → Shared → Prop} {v : Value} (h : Q (.ret v) s₃) : GPost h₀ L M C J it s Q (.ret v) s₃ := h

/-- what a loop asks of its turns -/
def GTurn {σ : Type} (prog : Program) (w : World) (A : Around) (h₀ : Heap) (env : Env) (x : Str) (px : Pos) (body : List Stmt) (vs : List Value) (M : σ → Str → Option Value) (C : σ → List (Addr × Obj)) (J : Nat → σ → Prop) (s : Shared) (Q : Flow → Shared → Prop) (E : Value → Shared → Prop) : Prop :=
  ∀ i v c h tk it, i < vs.length → vs[i]? = some v → J i c → (∀ q ∈ C c, q.1 ≠ it.1) → NoCode it.2 → Fr h₀ env.locals h (M c) → News h₀ env.locals h (it :: C c) →
    wpAny (model prog w) A (assign (.Name x px) env v) (fun _ s₂ => wpAny (model prog w) A (execs body env) (GPost h₀ env.locals M C (J (i + 1)) it s Q) E s₂) E { s with heap := h, toks := tk }

section
variable {prog : Program} {w : World} {A : Around} {E : Value → Shared → Prop} {s : Shared} {env : Env} {h₀ : Heap} {x : Str} {px : Pos} {body : List Stmt} {Q : Flow → Shared → Prop}
theorem forG {σ : Type} {I l : Addr} {vs : List Value} {St : Nat → Heap → Prop} {lo : Obj} (M : σ → Str → Option Value) (C : σ → List (Addr × Obj)) (J : Nat → σ → Prop) (c₀ : σ)
    (W : Walks prog w A I [I, l] [I] vs.length (fun i v => vs[i]? = some v) St) (hI : ∀ i h, St i h → ∃ o, h.get? I = some o ∧ NoCode o) (hE : PassesOwn (model prog w) A env E) (hl : ∀ c, (l, lo) ∈ C c)
    (hst : St 0 s.heap) (F : Fr h₀ env.locals s.heap (M c₀)) (N : News h₀ env.locals s.heap (C c₀)) (hoff : ∀ q ∈ C c₀, q.1 ≠ I) (hI0 : h₀.get? I = none) (hIL : I ≠ env.locals) (hj : J 0 c₀)
    (turn : GTurn prog w A h₀ env x px body vs M C J s Q E)
    (done : ∀ c h tk, J vs.length c → Fr h₀ env.locals h (M c) → News h₀ env.locals h (C c) → Q .next { s with heap := h, toks := tk }) :
    codeAny (model prog w) A (.forLoop (.Name x px) (.ref I) body [] env) (fun r s' => match r with | .ok f => Q f s' | .error e => cameBackBy (model prog w) A env E e s') s := by
  refine codeAny_forLoop
    (fun k s' => ∃ h' tk c i, s' = { s with heap := h', toks := tk } ∧ St i h' ∧ Fr h₀ env.locals h' (M c) ∧ News h₀ env.locals h' (C c) ∧ (∀ q ∈ C c, q.1 ≠ I) ∧ J i c ∧ i ≤ vs.length ∧ k = vs.length + 1 - i) ?_ (vs.length + 1)
    ⟨s.heap, s.toks, c₀, 0, rfl, hst, F, N, hoff, hj, Nat.zero_le _, rfl⟩
  rintro k s' ⟨h', tk, c, i, rfl, hst', F', N', hoff', hJ, hi, rfl⟩
  have next : ∀ h₁ : Heap, (∀ b o, b ∉ [I] → h'.get? b = some o → h₁.get? b = some o) → Fr h₀ env.locals h₁ (M c) ∧ News h₀ env.locals h₁ (C c) := fun h₁ hk₁ =>
    ⟨⟨F'.ns.at' fun o e => hk₁ _ o (fun hm => hIL (List.mem_singleton.mp hm).symm) e, fun b o e => hk₁ b o (fun hm => by rw [List.mem_singleton.mp hm, hI0] at e; cases e) (F'.keep b o e), F'.above⟩,
      fun p hp => ⟨hk₁ _ _ (fun hm => hoff' p hp (List.mem_singleton.mp hm)) (N' p hp).1, (N' p hp).2⟩⟩
  by_cases hlt : i < vs.length
  · refine W.item i _ _ _ hlt hst' fun v h₁ tk₁ hP hst₁ hk₁ => ?_
    obtain ⟨F₁, N₁⟩ := next h₁ hk₁
    obtain ⟨oI, hoI, hnc⟩ := hI _ _ hst₁
    have N₂ : News h₀ env.locals h₁ ((I, oI) :: C c) := fun p hp => by
      rcases List.mem_cons.mp hp with rfl | hp
      · exact ⟨hoI, hIL, hI0⟩
      · exact N₁ p hp
    refine wpAny_passesOwn hE (wpAny_mono (turn i v c h₁ tk₁ (I, oI) hlt hP hJ hoff' hnc F₁ N₂) (fun _ s₂ h₂ => ?_) fun _ _ e => e)
    refine wpAny_mono (wpAny_passesOwn hE h₂) (fun f s₃ h₃ => ?_) fun _ _ e => e
    have fin : (∃ c h' tk, s₃ = { s with heap := h', toks := tk } ∧ J (i + 1) c ∧ Fr h₀ env.locals h' (M c) ∧ News h₀ env.locals h' ((I, oI) :: C c) ∧ ∀ q ∈ C c, q.1 ≠ I) → ∃ m, m < vs.length + 1 - i ∧ ∃ h' tk c i, s₃ = { s with heap := h', toks := tk } ∧ St i h' ∧ Fr h₀ env.locals h' (M c) ∧ News h₀ env.locals h' (C c) ∧ (∀ q ∈ C c, q.1 ≠ I) ∧ J i c ∧ i ≤ vs.length ∧ m = vs.length + 1 - i := by
      rintro ⟨c', h₃', tk₃, rfl, hJ', F₃, N₃, off₃⟩
      refine ⟨vs.length + 1 - (i + 1), by omega, h₃', tk₃, c', i + 1, rfl, W.frame _ _ _ hst₁ fun b hb o e => ?_, F₃, fun p hp => N₃ p (.tail _ hp), off₃, hJ', hlt, rfl⟩
      rcases List.mem_cons.mp hb with rfl | hb
      · rw [hoI] at e; cases e
        exact (N₃ _ (.head _)).1
      · rw [List.mem_singleton.mp hb] at e ⊢
        have e1 := (N₁ _ (hl c)).1
        have e2 := (N₃ _ (.tail _ (hl c'))).1
        simp only at e1 e2
        rw [e1] at e; cases e
        exact e2
    cases f with
    | ret v => exact h₃
    | brk => exact h₃
    | cont => exact fin h₃
    | next => exact fin h₃
  · have hin : i = vs.length := by omega
    subst hin
    refine W.done _ _ _ hst' fun h₁ tk₁ hk₁ => wpAny_execs_nil ?_
    obtain ⟨F₁, N₁⟩ := next h₁ hk₁
    exact done c h₁ tk₁ hJ F₁ N₁

theorem forG_list {σ : Type} {l : Addr} {vs : List Value} {nn : Nat} (M : σ → Str → Option Value) (C : σ → List (Addr × Obj)) (J : Nat → σ → Prop) (c₀ : σ)
    (hh : A.handled = none) (hE : PassesOwn (model prog w) A env E) (hl : ∀ c, (l, listOf vs.toArray nn) ∈ C c)
    (F : Fr h₀ env.locals s.heap (M c₀)) (N : News h₀ env.locals s.heap (C c₀)) (hj : J 0 c₀)
    (turn : ∀ s', GTurn prog w A h₀ env x px body vs M C J { s with heap := s' } Q E)
    (done : ∀ c h tk, J vs.length c → Fr h₀ env.locals h (M c) → News h₀ env.locals h (C c) → Q .next { s with heap := h, toks := tk }) :
    wpAny (model prog w) A (pyIter (.ref l)) (fun it s₂ => codeAny (model prog w) A (.forLoop (.Name x px) it body [] env) (fun r s' => match r with | .ok f => Q f s' | .error e => cameBackBy (model prog w) A env E e s') s₂) E s := by
  have hol : s.heap.get? l = some (listOf vs.toArray nn) := (N _ (hl c₀)).1
  have hls : s.heap.IsList l vs.toArray := ⟨_, hol, rfl, nn, rfl⟩
  refine wpAny_pyIter_list hls ?_
  have hne : l ≠ s.heap.objs.size := Nat.ne_of_lt (Heap.lt_size hol)
  have W := Walks.list (prog := prog) (w := w) hh s.heap.objs.size l hne vs.toArray
  have hlen : vs.toArray.size = vs.length := by simp
  rw [hlen] at W
  have hP : (fun (i : Nat) (v : Value) => vs.toArray[i]? = some v) = fun (i : Nat) v => vs[i]? = some v := by funext i v; simp
  rw [hP] at W
  refine forG (s := { s with heap := s.heap.push { cls := .type "list_iterator", data := .fields #[.ref l, .int 0 0] } }) M C J c₀ W (fun i h st => let ⟨o, ho, _, hd⟩ := st.1; ⟨o, ho, fun vs q t e z => by rw [hd] at e; cases e; cases z⟩) hE hl ⟨⟨_, Heap.get?_push_size _ rfl, rfl, rfl⟩, hls.at fun o e => Heap.get?_push_of_some _ e⟩ (F.push _) (N.pushKeep _)
    (fun q hq => Nat.ne_of_lt (Heap.lt_size (N q hq).1)) (next_is_new F) (fun q => absurd F.ns.lt (q ▸ Nat.lt_irrefl _)) hj (turn _) done

theorem forG_tup {σ : Type} {l : Addr} {vs : List Value} (M : σ → Str → Option Value) (C : σ → List (Addr × Obj)) (J : Nat → σ → Prop) (c₀ : σ)
    (hh : A.handled = none) (hE : PassesOwn (model prog w) A env E) (hl : ∀ c, (l, tupObj vs) ∈ C c)
    (F : Fr h₀ env.locals s.heap (M c₀)) (N : News h₀ env.locals s.heap (C c₀)) (hj : J 0 c₀)
    (turn : ∀ s', GTurn prog w A h₀ env x px body vs M C J { s with heap := s' } Q E)
    (done : ∀ c h tk, J vs.length c → Fr h₀ env.locals h (M c) → News h₀ env.locals h (C c) → Q .next { s with heap := h, toks := tk }) :
    wpAny (model prog w) A (pyIter (.ref l)) (fun it s₂ => codeAny (model prog w) A (.forLoop (.Name x px) it body [] env) (fun r s' => match r with | .ok f => Q f s' | .error e => cameBackBy (model prog w) A env E e s') s₂) E s := by
  have hol : s.heap.get? l = some (tupObj vs) := (N _ (hl c₀)).1
  have hls : s.heap.IsTuple l vs.toArray := ⟨_, hol, rfl, 0, rfl⟩
  refine wpAny_pyIter_tuple hls ?_
  have hne : l ≠ s.heap.objs.size := Nat.ne_of_lt (Heap.lt_size hol)
  have W := Walks.tuple (prog := prog) (w := w) hh s.heap.objs.size l hne vs.toArray
  have hlen : vs.toArray.size = vs.length := by simp
  rw [hlen] at W
  have hP : (fun (i : Nat) (v : Value) => vs.toArray[i]? = some v) = fun (i : Nat) v => vs[i]? = some v := by funext i v; simp
  rw [hP] at W
  refine forG (s := { s with heap := s.heap.push { cls := .type "tuple_iterator", data := .fields #[.ref l, .int 0 0] } }) M C J c₀ W (fun i h st => let ⟨o, ho, _, hd⟩ := st.1; ⟨o, ho, fun vs q t e z => by rw [hd] at e; cases e; cases z⟩) hE hl ⟨⟨_, Heap.get?_push_size _ rfl, rfl, rfl⟩, hls.at fun o e => Heap.get?_push_of_some _ e⟩ (F.push _) (N.pushKeep _)
    (fun q hq => Nat.ne_of_lt (Heap.lt_size (N q hq).1)) (next_is_new F) (fun q => absurd F.ns.lt (q ▸ Nat.lt_irrefl _)) hj (turn _) done
end

/-- at the law's own level nothing stands below -/
theorem fr_nil {g g' h : Heap} {L : Addr} {m : Str → Option Value} (T : KtsTurn (([] : List Env).filterMap (·.frame)) g g') (F : Fr g' L h m) : Fr g L h m :=
  ⟨F.ns, fun b o e => F.keep b o (T.other b o e (fun hm => nomatch hm)), T.size ▸ F.above⟩
theorem news_nil {g g' h : Heap} {L : Addr} {news : List (Addr × Obj)} (T : KtsTurn (([] : List Env).filterMap (·.frame)) g g') (N : News g' L h news) : News g L h news :=
  fun p hp => ⟨(N p hp).1, (N p hp).2.1, by
    cases q : g.get? p.1 with
    | none => rfl
    | some o => have := T.other p.1 o q (fun hm => nomatch hm); rw [(N p hp).2.2] at this; cases this⟩

section
variable {w : World} {p : Program} {loose : List Str} {mean : ExcName → Option Value} {mg mb : Str → Option Value}
    {dp un : Nat} {gd : Option (List Code)} {cn : Str} {cs : Scope} {a : Addr} {ccd : Value} {cl : List (Str × Addr)} {A₀ : Around} {h₀ : Heap} {L : Addr} {m : Str → Option Value} {s : Shared} {Q E : Value → Shared → Prop} {news : List (Addr × Obj)}
theorem index_t {st : Addr} {ps : Array Value} {b t i : Int} {tb tt ti : Tok}
    (B : Below A₀ h₀ [] h₀) (F : Fr h₀ L s.heap m) (X : (Mine.hd.heap_39 w.params).In h₀) (N : News h₀ L s.heap ((120, tabObj ps) :: news)) (T : Top p loose mean mg mb h₀) (hk : cs.kind = .function)
    (C : CodeHd h₀ 124 120) (off : ∀ q ∈ news, q.1 ≠ 120) (tab : TabOk qIdx ps news)
    (hd : dp + 60 < recursionLimit) (hu : un + 900 < cLine) (h0 : 0 ≤ b) (h1 : b ≤ t) (h2 : t - b < 5000)
    (hret : ∀ ps' extra h' tk', Fr h₀ L h' m → News h₀ L h' ((120, tabObj ps') :: (extra ++ news)) → TabOk qIdx ps' (extra ++ news) → (∀ q ∈ extra, q.1 ≠ 120) → (∀ q ∈ extra, ∀ r ∈ news, r.1 ≠ q.1) → Q (.bool true) { s with heap := h', toks := tk' }) :
    wpAny (model PySem.Challenge.rw_nt0628_01.row.prog w) (ktrTop dp un gd cn cs L a ccd cl []) (call (.ref 125) [.ref st, .int b tb, .int t tt, .int i ti]) Q E s :=
  index_right_c B F X N T hk X T ktsDicts_nil C off tab hd hu h0 h1 h2 (fun h₀' ps' extra h' tk' kt F' N' tab' o1 o2 _ _ _ _ => hret ps' extra h' tk' (fr_nil kt F') (news_nil kt N') tab' o1 o2)
theorem wrong_t {st : Addr} {vs : List Value} {n : Nat} {ps : Array Value} {b t q : Int} {tb tt tq : Tok}
    (B : Below A₀ h₀ [] h₀) (F : Fr h₀ L s.heap m) (X : (Mine.hd.heap_39 w.params).In h₀) (N : News h₀ L s.heap ((134, tabObj ps) :: news)) (T : Top p loose mean mg mb h₀) (hk : cs.kind = .function)
    (C : CodeHd h₀ 138 134) (off : ∀ q ∈ news, q.1 ≠ 134) (tab : TabOk qWr ps news) (hst : (st, listOf vs.toArray n) ∈ news) (hpl : PlainL vs)
    (hd : dp + 60 < recursionLimit) (hu : un + 900 < cLine) (h0 : 0 ≤ b) (h1 : b ≤ t) (h2 : t ≤ vs.length) (h3 : vs.length < 10000)
    (hret : ∀ ps' extra h' tk', Fr h₀ L h' m → News h₀ L h' ((134, tabObj ps') :: (extra ++ news)) → TabOk qWr ps' (extra ++ news) → (∀ q ∈ extra, q.1 ≠ 134) → (∀ q ∈ extra, ∀ r ∈ news, r.1 ≠ q.1) → Q (.bool true) { s with heap := h', toks := tk' }) :
    wpAny (model PySem.Challenge.rw_nt0628_01.row.prog w) (ktrTop dp un gd cn cs L a ccd cl []) (call (.ref 139) [.ref st, .int b tb, .int t tt, .int q tq]) Q E s :=
  wrong_refused_c B F X N T hk X T ktsDicts_nil C off tab hst hpl hd hu h0 h1 h2 h3 (fun h₀' ps' extra h' tk' kt F' N' tab' o1 o2 _ _ _ _ => hret ps' extra h' tk' (fr_nil kt F') (news_nil kt N') tab' o1 o2)
end
theorem absolute_low {w : World} {p : Program} {loose : List Str} {mean : ExcName → Option Value} {mg mb : Str → Option Value}
    {dp un : Nat} {gd : Option (List Code)} {cn : Str} {cs : Scope} {a : Addr} {ccd : Value} {cl : List (Str × Addr)} {outer : List Env} {A₀ : Around} {base h₀ : Heap} {L : Addr} {m : Str → Option Value} {s : Shared} {Q E : Value → Shared → Prop} {news : List (Addr × Obj)}
    {i b t : Int} {ti tb tt : Tok}
    (B : Below A₀ base outer h₀) (F : Fr h₀ L s.heap m) (X : (Mine.hd.heap_39 w.params).In h₀) (N : News h₀ L s.heap news) (T : Top p loose mean mg mb h₀) (hk : cs.kind = .function)
    (hd : dp + 10 < recursionLimit) (hu : un + 200 < cLine) (hi : i ≤ -10000)
    (hret : ∀ t h' tk', Fr h₀ L h' m → News h₀ L h' news → Q (.int i t) { s with heap := h', toks := tk' }) :
    wpAny (model PySem.Challenge.rw_nt0628_01.row.prog w) (ktrTop dp un gd cn cs L a ccd cl outer) (call (.ref 55) [.int i ti, .int b tb, .int t tt]) Q E s := by
  have e : absVal i b t = some i := by unfold absVal; rw [if_pos (.inr hi)]
  refine absolute_c B F X N T hk hd hu (fun r hr => ?_) (by rw [e]; exact fun q => nomatch q)
  rw [e] at hr; cases hr
  exact hret

def JBase (h₀ : Heap) (L : Addr) (m : Str → Option Value) (news : List (Addr × Obj)) (s : Shared) (v : Value) (s₁ : Shared) : Prop :=
  ∃ b t h' tk, v = .int b t ∧ 0 ≤ b ∧ b < 5 ∧ s₁ = { s with heap := h', toks := tk } ∧ Fr h₀ L h' m ∧ News h₀ L h' news
theorem JBase.intro {h₀ : Heap} {L : Addr} {m : Str → Option Value} {news news' : List (Addr × Obj)} {s : Shared} {b : Int} {t : Tok} {h' : Heap} {tk : Nat} (F : Fr h₀ L h' m) (N : News h₀ L h' news') (hs : ∀ p ∈ news, p ∈ news') (h0 : 0 ≤ b) (h5 : b < 5) :
    JBase h₀ L m news s (.int b t) { s with heap := h', toks := tk } := ⟨b, t, h', tk, rfl, h0, h5, rfl, F, fun p hp => N p (hs p hp)⟩
theorem join_base {M : Model} {A : Around} {E : Value → Shared → Prop} {s : Shared} {env : Env} {e : PySem.Expr} {h₀ : Heap} {L : Addr} {m : Str → Option Value} {news : List (Addr × Obj)} {Q : Value → Shared → Prop} (F : Fr h₀ L s.heap m) (N : News h₀ L s.heap news)
    (h : wpAny M A (eval e env) (fun v s₁ => JBase h₀ L m news s v s₁) E s)
    (hc : ∀ b t h' tk, 0 ≤ b → b < 5 → Fr h₀ L h' m → News h₀ L h' news → Q (.int b t) { s with heap := h', toks := tk }) : wpAny M A (eval e env) Q E s :=
  wpAny_mono h (fun v s₁ h₁ => by obtain ⟨b, t, h', tk, rfl, h0, h5, rfl, F', N'⟩ := h₁; exact hc b t h' tk h0 h5 F' N') fun _ _ x => x
theorem start_inv {b x : Int} (h0 : 0 ≤ b) (h5 : b < 5) (hx : x.toNat = (max 0 (b - 3)).toNat) {t1 t2 t3 : Tok} {k : Nat} :
    SInv (List.take b.toNat [Value.str (Str.ofString "below") t1, Value.int b t2, Value.none] ++ List.replicate x.toNat (Value.int 7 t3))
      (List.take b.toNat [Value.str (Str.ofString "below") t1, Value.int b t2, Value.none] ++ List.replicate x.toNat (Value.int 7 t3) ++ List.replicate k Value.none) [] b b := by
  have p1 : PlainL (List.take b.toNat [Value.str (Str.ofString "below") t1, Value.int b t2, Value.none] ++ List.replicate x.toNat (Value.int 7 t3)) := by
    refine ((PlainL.cons ?_ (PlainL.cons ?_ (PlainL.cons ?_ PlainL.nil))).take _).append (PlainL.rep ?_ _)
    · show PyData.strOk _ = true; decide +kernel
    · exact trivial
    · exact trivial
    · exact trivial
  refine SInv.mk' (ps := []) ?_ (by simp) p1 PlainL.nil (PlainL.rep (v := Value.none) trivial k)
  rw [List.length_append, List.length_take, List.length_replicate, hx]
  simp only [List.length_cons, List.length_nil]
  omega
theorem frame_start {h₀ h : Heap} {L : Addr} {a b c d : Option Value} {m₁ : Str → Option Value} (F : Fr h₀ L h (fun y => if y = Str.ofString "size" then a else if y = Str.ofString "plain" then b else if y = Str.ofString "stack" then c else if y = Str.ofString "below" then d else m₁ y)) (hn : m₁ (Str.ofString "number") = none) :
    Fr h₀ L h (fun y => if y = Str.ofString "size" then a else if y = Str.ofString "number" then none else if y = Str.ofString "plain" then b else if y = Str.ofString "stack" then c else if y = Str.ofString "below" then d else m₁ y) := by
  have e : (fun y => if y = Str.ofString "size" then a else if y = Str.ofString "plain" then b else if y = Str.ofString "stack" then c else if y = Str.ofString "below" then d else m₁ y) = fun y => if y = Str.ofString "size" then a else if y = Str.ofString "number" then none else if y = Str.ofString "plain" then b else if y = Str.ofString "stack" then c else if y = Str.ofString "below" then d else m₁ y := by
    funext y
    by_cases hy : y = Str.ofString "number"
    · subst hy
      rw [if_neg (by decide), if_neg (by decide), if_neg (by decide), if_neg (by decide), if_neg (by decide), if_pos rfl, hn]
    · simp only [if_neg hy]
  exact e ▸ F
theorem frame_turn {h₀ h : Heap} {L : Addr} {a b c d : Option Value} {m₁ : Str → Option Value} (F : Fr h₀ L h (fun y => if y = Str.ofString "size" then a else if y = Str.ofString "number" then b else if y = Str.ofString "size" then c else if y = Str.ofString "number" then d else m₁ y)) :
    Fr h₀ L h (fun y => if y = Str.ofString "size" then a else if y = Str.ofString "number" then b else m₁ y) := by
  have e : (fun y => if y = Str.ofString "size" then a else if y = Str.ofString "number" then b else if y = Str.ofString "size" then c else if y = Str.ofString "number" then d else m₁ y) = fun y => if y = Str.ofString "size" then a else if y = Str.ofString "number" then b else m₁ y := by
    funext y
    by_cases hs : y = Str.ofString "size"
    · simp only [if_pos hs]
    · by_cases hy : y = Str.ofString "number"
      · simp only [if_neg hs, if_pos hy]
      · simp only [if_neg hs, if_neg hy]
  exact e ▸ F

theorem lines_68_top : True := by
  k_with "exec For Name BinOp cons nil" => (k_here; k_dflt (refine' wpAny_For ?_ (by intro _; exact rfl)))
  k_with "exec For Name Tuple cons nil" => (k_here; k_dflt (refine' wpAny_For ?_ (by intro _; exact rfl)))
  k_with "call ref" => (k_here; (with_reducible show wpAny _ _ (call (Value.ref 160) [Value.ref _, Value.int _ _, Value.int _ _, Value.ref _, Value.int _ _]) _ _ _); k_dflt (refine' deed_c0 (by k_asm) (by k_asm) (by k_asm) (by k_asm) (by k_all) (by k_all) (by k_ne) (by k_asm) (by first | exact rfl | assumption) (by k_room) (by walk_at "my units") (by assumption) (by walk_at "my fact") (by walk_at "my fact") ?_; k_whole); intro vs' ps' top' n' n2' t' h' tk' I' e1' e2' F' N'; (have f' := SInv.facts I'); (obtain ⟨_, _, _, _, _, _, _, _, _⟩ := f'); (try dsimp only at N'); (try dsimp only))
  k_with "call ref" => (k_here; (with_reducible show wpAny _ _ (call (Value.ref 132) [Value.ref _, Value.int _ _, Value.int _ _, Value.ref _, Value.ref _]) _ _ _); k_dflt (refine' law_is_c (by k_asm) (by k_asm) (by k_asm) (by k_asm) (by k_asm) (by first | exact rfl | assumption) (by k_mem) (by k_mem) (by k_mem) (by k_room) (by walk_at "my units") (by walk_at "my fact") (by walk_at "my fact") (by walk_at "my fact") (by walk_at "my fact") (by assumption) (by assumption) (by assumption) (by assumption) (by assumption) (by walk_at "my fact") ?_; k_whole); intro h' tk' F' N'; (try dsimp only))
  k_with "call ref" => (k_here; (with_reducible show wpAny _ _ (call (Value.ref 125) [Value.ref _, Value.int _ _, Value.int _ _, Value.int _ _]) _ _ _); k_dflt (refine' index_t (by k_asm) (by k_asm) (by k_asm) (by k_asm) (by k_asm) (by first | exact rfl | assumption) (by assumption) (by k_all) (by exact TabOk.mono (by with_reducible assumption) (by walk_at "my sub")) (by k_room) (by walk_at "my units") (by walk_at "my fact") (by walk_at "my fact") (by walk_at "my fact") ?_; k_whole); intro ps' ex' h' tk' F' N' tab' x1' x2'; (try dsimp only))
  k_with "call ref" => (k_here; (with_reducible show wpAny _ _ (call (Value.ref 139) [Value.ref _, Value.int _ _, Value.int _ _, Value.int _ _]) _ _ _); k_dflt (refine' wrong_t (by k_asm) (by k_asm) (by k_asm) (by k_asm) (by k_asm) (by first | exact rfl | assumption) (by assumption) (by k_all) (by exact TabOk.mono (by with_reducible assumption) (by walk_at "my sub")) (by k_mem) (by assumption) (by k_room) (by walk_at "my units") (by walk_at "my fact") (by walk_at "my fact") (by walk_at "my fact") (by walk_at "my fact") ?_; k_whole); intro ps' ex' h' tk' F' N' tab' x1' x2'; (try dsimp only))
  k_with "call ref" => (k_here; (with_reducible show wpAny _ _ (call (Value.ref 55) [Value.int _ _, Value.int _ _, Value.int _ _]) _ _ _); k_dflt (refine' absolute_low (by k_asm) (by k_asm) (by k_asm) (by k_asm) (by k_asm) (by first | exact rfl | assumption) (by k_room) (by walk_at "my units") (by walk_at "my fact") ?_; k_whole); intro t' h' tk' F' N'; (try dsimp only))
  k_with "eval IfExp" => (k_here; (fail_if_success (with_reducible show wpAny _ _ _ (fun v s₁ => JBase _ _ _ _ _ v s₁) _ _)); k_dflt (refine' join_base (by k_asm) (by k_asm) ?_ ?_); (rotate_left; ((intro b' tb' h' tk' hb0' hb5' F' N'; (try dsimp only)))))
  k_with "JBase" => (k_here; k_dflt (refine' JBase.intro (by k_asm) (by k_asm) (by walk_at "my sub") (by walk_at "my fact") (by walk_at "my fact")))
  k_with "my sub" => (intro p9 hp9; (repeat (first | exact hp9 | refine List.Mem.tail _ ?_)); done)
  trivial
def NumsOk (us : List Value) : Prop := ∀ v ∈ us, ∃ k t, v = .int k t ∧ 0 ≤ k
theorem nums_ok {us : List Value} {ns : List Int} (h : IntsAre us (ns.map (fun k' => if k' < 0 then -k' else k') ++ [3])) : NumsOk us := fun v hv => by
  obtain ⟨i, hi⟩ := List.mem_iff_getElem?.mp hv
  obtain ⟨n, t, e, hn⟩ := h.at i v hi
  refine ⟨n, t, e, ?_⟩
  have hm := List.mem_of_getElem? hn
  rcases List.mem_append.mp hm with hm | hm
  · obtain ⟨k, -, rfl⟩ := List.mem_map.mp hm
    split <;> lia
  · rw [List.mem_singleton.mp hm]; decide
structure LawC where
  vs : List Value
  n : Nat
  ps : List Value
  n₂ : Nat
  top : Int
  tt : Tok
  ot : Obj
  oi : Obj
  sz : Int
  tz : Tok
  num : Option Value
  p1 : Array Value
  p2 : Array Value
  ex : List (Addr × Obj)
def LawLed (L st pl bl l : Nat) (ob : Obj) (us bs : List Value) (c : LawC) : List (Addr × Obj) :=
  (st, listOf c.vs.toArray c.n) :: (pl, listOf c.ps.toArray c.n₂) :: (L + 1 + 1 + 1, c.ot) :: (L + 1 + 1, c.oi) :: (L + 1, ob) :: (134, tabObj c.p2) :: (120, tabObj c.p1) :: (162, tabObj #[]) :: (bl, listOf bs.toArray 0) :: (l, listOf us.toArray 0) :: c.ex
def Off10 (L st pl bl l a : Nat) : Prop := a ≠ st ∧ a ≠ pl ∧ a ≠ L + 1 + 1 + 1 ∧ a ≠ L + 1 + 1 ∧ a ≠ L + 1 ∧ a ≠ 134 ∧ a ≠ 120 ∧ a ≠ 162 ∧ a ≠ bl ∧ a ≠ l
structure LawJ (L st pl bl l : Nat) (bs : List Value) (b : Int) (i : Nat) (c : LawC) : Prop where
  inv : SInv bs c.vs c.ps b c.top
  sz : c.sz = c.vs.length
  pn : c.ps.length ≤ 3 * i
  vl : c.vs.length ≤ 10 + 3 * i
  dt : c.ot.data = .cell (some (.int c.top c.tt))
  di : ∃ v, c.oi.data = .cell v
  t1 : TabOk qIdx c.p1 c.ex
  t2 : TabOk qWr c.p2 c.ex
  off : ∀ q ∈ c.ex, Off10 L st pl bl l q.1
abbrev LawM (st pl bl : Nat) (m₁ : Str → Option Value) (c : LawC) (y : Str) : Option Value :=
  if y = Str.ofString "size" then some (.int c.sz c.tz) else if y = Str.ofString "number" then c.num else if y = Str.ofString "plain" then some (.ref pl) else if y = Str.ofString "stack" then some (.ref st) else if y = Str.ofString "below" then some (.ref bl) else m₁ y
/-- what stands at the loop's start -/
structure LawS (h₀ h : Heap) (L st pl bl l : Nat) (us bs : List Value) (b : Int) (ob : Obj) (tb : Tok) (m₁ : Str → Option Value) (c₀ : LawC) : Prop where
  N : News h₀ L h (LawLed L st pl bl l ob us bs c₀)
  F : Fr h₀ L h (LawM st pl bl m₁ c₀)
  J : LawJ L st pl bl l bs b 0 c₀
  db : ob.data = .cell (some (.int b tb))
  ok : NumsOk us
  ul : us.length ≤ 60
  h0 : 0 ≤ b
  h5 : b < 5
  ord : 120 < L ∧ 134 < L ∧ 162 < L ∧ L + 1 + 1 + 1 < bl ∧ bl < st ∧ st < pl ∧ pl < l
theorem tab_nil {q : Str} {R : List (Addr × Obj)} : TabOk q #[] R := ⟨trivial, fun pos v e => by cases e⟩
theorem law_clean {M : Model} {A : Around} {E : Value → Shared → Prop} {s : Shared} {h₀ : Heap} {L : Nat} {l st pl bl : Nat} {us bs vs : List Value} {x2 x3 x6 x7 x8 x10 x11 x12 x13 x14 x15 : Addr × Obj} {ot oi ob : Obj} {vi : Option Value} {m₁ : Str → Option Value} {sz b : Int} {tz tt tb : Tok} {ns : List Int} {K : Value → Shared → Prop}
    (N : News h₀ L s.heap [(l, listOf us.toArray 0), x2, x3, (pl, listOf #[] 0), (st, listOf vs.toArray 0), x6, x7, x8, (bl, listOf bs.toArray 0), x10, x11, x12, x13, x14, x15, (L + 1 + 1 + 1, ot), (L + 1 + 1, oi), (L + 1, ob), (134, tabObj #[]), (120, tabObj #[]), (162, tabObj #[])])
    (F : Fr h₀ L s.heap (fun y => if y = Str.ofString "size" then some (.int sz tz) else if y = Str.ofString "plain" then some (.ref pl) else if y = Str.ofString "stack" then some (.ref st) else if y = Str.ofString "below" then some (.ref bl) else m₁ y))
    (hn : m₁ (Str.ofString "number") = none) (dt : ot.data = .cell (some (.int b tt))) (di : oi.data = .cell vi) (db : ob.data = .cell (some (.int b tb))) (hI : IntsAre us ((List.take 24 ns).map (fun k' => if k' < 0 then -k' else k') ++ [3]))
    (I : SInv bs vs [] b b) (hsz : sz = vs.length) (hl : vs.length ≤ 10) (h0 : 0 ≤ b) (h5 : b < 5)
    (ord : 120 < L ∧ 134 < L ∧ 162 < L ∧ L + 1 + 1 + 1 < bl ∧ bl < st ∧ st < pl ∧ pl < l)
    (cont : ∀ l st pl bl : Nat, ∀ us bs b ob tb m₁ c₀, LawS h₀ s.heap L st pl bl l us bs b ob tb m₁ c₀ → wpAny M A (pyIter (.ref l)) K E s) : wpAny M A (pyIter (.ref l)) K E s := by
  refine cont l st pl bl us bs b ob tb m₁ ⟨vs, 0, [], 0, b, tt, ot, oi, sz, tz, none, #[], #[], []⟩ ⟨fun p hp => N p ?_, frame_start F hn, ⟨I, hsz, by simp, by simpa using hl, dt, ⟨_, di⟩, tab_nil, tab_nil, fun _ h => nomatch h⟩, db, nums_ok hI, ?_, h0, h5, ord⟩
  · simp only [LawLed, List.mem_cons, List.not_mem_nil, or_false] at hp ⊢; grind
  · rw [hI.length, List.length_append, List.length_map, List.length_take]; simp only [List.length_cons, List.length_nil]; lia
theorem led_off {L st pl bl l : Nat} {ob : Obj} {us bs : List Value} {c : LawC} {a : Nat} (off : ∀ q ∈ LawLed L st pl bl l ob us bs c, q.1 ≠ a) : Off10 L st pl bl l a ∧ ∀ q ∈ c.ex, q.1 ≠ a := by
  simp only [LawLed, List.forall_mem_cons] at off
  obtain ⟨h1, h2, h3, h4, h5, h6, h7, h8, h9, h10, h11⟩ := off
  exact ⟨⟨Ne.symm h1, Ne.symm h2, Ne.symm h3, Ne.symm h4, Ne.symm h5, Ne.symm h6, Ne.symm h7, Ne.symm h8, Ne.symm h9, Ne.symm h10⟩, h11⟩
theorem led_frame {h₀ h : Heap} {L st pl bl : Nat} {m₁ : Str → Option Value} {c : LawC} (F : Fr h₀ L h (LawM st pl bl m₁ c)) :
    Fr h₀ L h (fun y => if y = Str.ofString "size" then some (.int c.sz c.tz) else if y = Str.ofString "number" then c.num else if y = Str.ofString "plain" then some (.ref pl) else if y = Str.ofString "stack" then some (.ref st) else if y = Str.ofString "below" then some (.ref bl) else m₁ y) := F
theorem led_turn {h₀ h : Heap} {L' L st pl bl l : Nat} {ob : Obj} {us bs : List Value} {c : LawC} {it : Addr × Obj} (N : News h₀ L' h (it :: LawLed L st pl bl l ob us bs c)) :
    News h₀ L' h ((st, listOf c.vs.toArray c.n) :: (pl, listOf c.ps.toArray c.n₂) :: (L + 1 + 1 + 1, c.ot) :: (L + 1 + 1, c.oi) :: (L + 1, ob) :: (134, tabObj c.p2) :: (120, tabObj c.p1) :: (162, tabObj #[]) :: (bl, listOf bs.toArray 0) :: it :: (l, listOf us.toArray 0) :: c.ex) := fun p hp => N p (by
  simp only [LawLed, List.mem_cons] at hp ⊢; grind)

structure InC where
  oi : Obj
  p1 : Array Value
  ex : List (Addr × Obj)
def InLed (L : Nat) (R : List (Addr × Obj)) (c : InC) : List (Addr × Obj) := (120, tabObj c.p1) :: (L + 1 + 1, c.oi) :: (R ++ c.ex)
structure InJ (L st pl bl l itA : Nat) (p2 : Array Value) (_i : Nat) (c : InC) : Prop where
  di : ∃ v, c.oi.data = .cell v
  t1 : TabOk qIdx c.p1 c.ex
  t2 : TabOk qWr p2 c.ex
  off : ∀ q ∈ c.ex, Off10 L st pl bl l q.1 ∧ q.1 ≠ itA
/-- what stands at the inner loop's start -/
structure InS (h₀ h : Heap) (L L' st pl bl l itA T : Nat) (ito ob : Obj) (us bs : List Value) (p1 p2 : Array Value) (ex : List (Addr × Obj)) (b k : Int) (t : Tok) (m₁ : Str → Option Value) (i : Nat) (oi : Obj)
    (ws vs ps : List Value) (n n₂ : Nat) (top : Int) (tt : Tok) (ot : Obj) (sz : Int) (tz : Tok) : Prop where
  N : News h₀ L' h (InLed L [(T, tupObj ws), (st, listOf vs.toArray n), (pl, listOf ps.toArray n₂), (L + 1 + 1 + 1, ot), (L + 1, ob), (134, tabObj p2), (162, tabObj #[]), (bl, listOf bs.toArray 0), (itA, ito), (l, listOf us.toArray 0)] ⟨oi, p1, ex⟩)
  F : Fr h₀ L' h (fun y => if y = Str.ofString "size" then some (.int sz tz) else if y = Str.ofString "number" then some (.int k t) else if y = Str.ofString "plain" then some (.ref pl) else if y = Str.ofString "stack" then some (.ref st) else if y = Str.ofString "below" then some (.ref bl) else m₁ y)
  I : SInv bs vs ps b top
  dt : ot.data = .cell (some (.int top tt))
  ws : ∀ v ∈ ws, ∃ k t, v = .int k t
  sz : sz = vs.length
  pn : ps.length ≤ 3 * (i + 1)
  vl : vs.length ≤ 10 + 3 * (i + 1)
  T : L + 1 + 1 + 1 < T ∧ l < T
theorem inner_clean {M : Model} {A : Around} {E : Value → Shared → Prop} {s : Shared} {h₀ : Heap} {L L' st pl bl l itA T : Nat} {ito ob : Obj} {us bs : List Value} {p1 p2 : Array Value} {ex : List (Addr × Obj)} {b k : Int} {t : Tok} {m₁ : Str → Option Value} {i : Nat} {oi : Obj}
    {ws vs ps : List Value} {n n₂ : Nat} {top : Int} {tt : Tok} {ot : Obj} {sz : Int} {tz : Tok} {xc xd : Option Value} {K : Value → Shared → Prop}
    (N : News h₀ L' s.heap ((T, tupObj ws) :: (st, listOf vs.toArray n) :: (pl, listOf ps.toArray n₂) :: (L + 1 + 1 + 1, ot) :: (L + 1 + 1, oi) :: (L + 1, ob) :: (134, tabObj p2) :: (120, tabObj p1) :: (162, tabObj #[]) :: (bl, listOf bs.toArray 0) :: (itA, ito) :: (l, listOf us.toArray 0) :: ex))
    (F : Fr h₀ L' s.heap (fun y => if y = Str.ofString "size" then some (.int sz tz) else if y = Str.ofString "number" then some (.int k t) else if y = Str.ofString "size" then xc else if y = Str.ofString "number" then xd else if y = Str.ofString "plain" then some (.ref pl) else if y = Str.ofString "stack" then some (.ref st) else if y = Str.ofString "below" then some (.ref bl) else m₁ y))
    (I : SInv bs vs ps b top) (dt : ot.data = .cell (some (.int top tt))) (hw : ∀ v ∈ ws, ∃ k t, v = .int k t) (hz : sz = vs.length) (pn : ps.length ≤ 3 * (i + 1)) (vl : vs.length ≤ 10 + 3 * (i + 1)) (hT : L + 1 + 1 + 1 < T ∧ l < T)
    (cont : ∀ (T : Nat) ws vs ps n n₂ top tt ot sz tz, InS h₀ s.heap L L' st pl bl l itA T ito ob us bs p1 p2 ex b k t m₁ i oi ws vs ps n n₂ top tt ot sz tz → wpAny M A (pyIter (.ref T)) K E s) : wpAny M A (pyIter (.ref T)) K E s :=
  cont T ws vs ps n n₂ top tt ot sz tz ⟨fun p hp => N p (by simp only [InLed, List.mem_cons, List.mem_append, List.not_mem_nil, or_false] at hp ⊢; grind), frame_turn F, I, dt, hw, hz, pn, vl, hT⟩
theorem in_turn {h₀ h : Heap} {L' L : Nat} {R : List (Addr × Obj)} {c : InC} {it : Addr × Obj} (N : News h₀ L' h (it :: InLed L R c)) : News h₀ L' h ((120, tabObj c.p1) :: (L + 1 + 1, c.oi) :: it :: (R ++ c.ex)) := fun p hp => N p (by
  simp only [InLed, List.mem_cons, List.mem_append] at hp ⊢; grind)
theorem in_off {L : Nat} {R : List (Addr × Obj)} {c : InC} {a : Nat} (off : ∀ q ∈ InLed L R c, q.1 ≠ a) : @Ne Nat a 120 ∧ @Ne Nat a (L + 1 + 1) ∧ (∀ q ∈ R, q.1 ≠ a) ∧ ∀ q ∈ c.ex, q.1 ≠ a := by
  simp only [InLed, List.forall_mem_cons, List.forall_mem_append] at off
  exact ⟨Ne.symm off.1, Ne.symm off.2.1, off.2.2.1, off.2.2.2⟩
theorem inner_end {h₀ h' : Heap} {L L' st pl bl l itA iA : Nat} {R ex extra : List (Addr × Obj)} {p2 ps' : Array Value} {o' io : Obj} {m : Str → Option Value} {vi : Option Value} {j tk : Nat} {s : Shared} {Q : Flow → Shared → Prop}
    (hR : ∀ p ∈ R, NoCode p.2) (hOff : ∀ a : Nat, a ≠ 120 → a ≠ L + 1 + 1 → (∀ r ∈ R, r.1 ≠ a) → Off10 L st pl bl l a ∧ a ≠ itA)
    (t2 : TabOk qWr p2 ex) (ox : ∀ q ∈ ex, Off10 L st pl bl l q.1 ∧ q.1 ≠ itA) (hio : NoCode io) (z1 : @Ne Nat iA 120) (z2 : @Ne Nat iA (L + 1 + 1)) (z3 : ∀ q ∈ R, q.1 ≠ iA) (z4 : ∀ q ∈ ex, q.1 ≠ iA)
    (F : Fr h₀ L' h' m) (N : News h₀ L' h' ((120, tabObj ps') :: (extra ++ ((L + 1 + 1, o') :: (iA, io) :: (R ++ ex))))) (T : TabOk qIdx ps' (extra ++ ((L + 1 + 1, o') :: (iA, io) :: (R ++ ex))))
    (y1 : ∀ q ∈ extra, q.1 ≠ 120) (y2 : ∀ q ∈ extra, ∀ r ∈ ((L + 1 + 1, o') :: (iA, io) :: (R ++ ex)), r.1 ≠ q.1) (d : o'.data = .cell vi) :
    GPost h₀ L' (fun _ : InC => m) (InLed L R) (InJ L st pl bl l itA p2 j) (iA, io) s Q .next { s with heap := h', toks := tk } := by
  refine GPost.next ⟨o', ps', extra ++ ex⟩ F (fun p hp => N p ?_) (fun q hq => ?_) ⟨⟨_, d⟩, T.strip fun p hp => ?_, t2.mono fun p hp => List.mem_append_right _ hp, fun q hq => ?_⟩
  · simp only [InLed, List.mem_cons, List.mem_append] at hp ⊢; grind
  · simp only [InLed, List.mem_cons, List.mem_append] at hq
    rcases hq with rfl | rfl | hq | hq | hq
    · exact Ne.symm z1
    · exact Ne.symm z2
    · exact z3 q hq
    · exact fun e => y2 q hq (iA, io) (.tail _ (.head _)) e.symm
    · exact z4 q hq
  · rcases List.mem_append.mp hp with hp | hp
    · exact .inr (List.mem_append_left _ hp)
    · rcases List.mem_cons.mp hp with rfl | hp
      · exact .inl (noCode_cell d)
      · rcases List.mem_cons.mp hp with rfl | hp
        · exact .inl hio
        · rcases List.mem_append.mp hp with hp | hp
          · exact .inl (hR p hp)
          · exact .inr (List.mem_append_right _ hp)
  · rcases List.mem_append.mp hq with hq | hq
    · refine hOff _ (y1 q hq) (fun e => y2 q hq (L + 1 + 1, o') (.head _) e.symm) fun r hr => y2 q hq r (.tail _ (.tail _ (List.mem_append_left _ hr)))
    · exact ox q hq
theorem outer_end {h₀ h' : Heap} {L L' st pl bl l itA : Nat} {ob ot oi ito : Obj} {us bs vs ps : List Value} {n n₂ : Nat} {top b sz : Int} {tt tz : Tok} {num : Option Value} {p1 p2' : Array Value} {ex extra : List (Addr × Obj)} {m₁ : Str → Option Value} {vi vb : Option Value} {i tk : Nat} {s : Shared} {Q : Flow → Shared → Prop}
    (I : SInv bs vs ps b top) (hz : sz = vs.length) (pn : ps.length ≤ 3 * (i + 1)) (vl : vs.length ≤ 10 + 3 * (i + 1)) (dt : ot.data = .cell (some (.int top tt))) (di : oi.data = .cell vi) (db : ob.data = .cell vb) (t1 : TabOk qIdx p1 ex) (hnc : NoCode ito)
    (ox : ∀ q ∈ ex, Off10 L st pl bl l q.1 ∧ q.1 ≠ itA) (oit : Off10 L st pl bl l itA)
    (F : Fr h₀ L' h' (fun y => if y = Str.ofString "size" then some (.int sz tz) else if y = Str.ofString "number" then num else if y = Str.ofString "plain" then some (.ref pl) else if y = Str.ofString "stack" then some (.ref st) else if y = Str.ofString "below" then some (.ref bl) else m₁ y))
    (N : News h₀ L' h' ((134, tabObj p2') :: (extra ++ ((st, listOf vs.toArray n) :: (pl, listOf ps.toArray n₂) :: (L + 1 + 1 + 1, ot) :: (L + 1 + 1, oi) :: (L + 1, ob) :: (120, tabObj p1) :: (162, tabObj #[]) :: (bl, listOf bs.toArray 0) :: (itA, ito) :: (l, listOf us.toArray 0) :: ex))))
    (T : TabOk qWr p2' (extra ++ ((st, listOf vs.toArray n) :: (pl, listOf ps.toArray n₂) :: (L + 1 + 1 + 1, ot) :: (L + 1 + 1, oi) :: (L + 1, ob) :: (120, tabObj p1) :: (162, tabObj #[]) :: (bl, listOf bs.toArray 0) :: (itA, ito) :: (l, listOf us.toArray 0) :: ex)))
    (y1 : ∀ q ∈ extra, q.1 ≠ 134) (y2 : ∀ q ∈ extra, ∀ r ∈ ((st, listOf vs.toArray n) :: (pl, listOf ps.toArray n₂) :: (L + 1 + 1 + 1, ot) :: (L + 1 + 1, oi) :: (L + 1, ob) :: (120, tabObj p1) :: (162, tabObj #[]) :: (bl, listOf bs.toArray 0) :: (itA, ito) :: (l, listOf us.toArray 0) :: ex), r.1 ≠ q.1) :
    GPost h₀ L' (LawM st pl bl m₁) (LawLed L st pl bl l ob us bs) (LawJ L st pl bl l bs b (i + 1)) (itA, ito) s Q .next { s with heap := h', toks := tk } := by
  have y3 : ∀ q ∈ extra, Off10 L st pl bl l q.1 ∧ q.1 ≠ itA := fun q hq => by
    have z := y2 q hq
    simp only [List.forall_mem_cons] at z
    obtain ⟨z1, z2, z3, z4, z5, z6, z7, z8, z9, z10, -⟩ := z
    exact ⟨⟨Ne.symm z1, Ne.symm z2, Ne.symm z3, Ne.symm z4, Ne.symm z5, y1 q hq, Ne.symm z6, Ne.symm z7, Ne.symm z8, Ne.symm z10⟩, Ne.symm z9⟩
  have y4 : ∀ q ∈ extra ++ ex, Off10 L st pl bl l q.1 ∧ q.1 ≠ itA := fun q hq => (List.mem_append.mp hq).elim (y3 q) (ox q)
  refine GPost.next ⟨vs, n, ps, n₂, top, tt, ot, oi, sz, tz, num, p1, p2', extra ++ ex⟩ F (fun p hp => N p ?_) (fun q hq => ?_) ⟨I, hz, pn, vl, dt, ⟨_, di⟩, t1.mono fun p hp => List.mem_append_right _ hp, T.strip fun p hp => ?_, fun q hq => (y4 q hq).1⟩
  · simp only [LawLed, List.mem_cons, List.mem_append] at hp ⊢; grind
  · obtain ⟨z1, z2, z3, z4, z5, z6, z7, z8, z9, z10⟩ := oit
    simp only [LawLed, List.mem_cons] at hq
    rcases hq with rfl | rfl | rfl | rfl | rfl | rfl | rfl | rfl | rfl | rfl | hq
    · exact Ne.symm z1
    · exact Ne.symm z2
    · exact Ne.symm z3
    · exact Ne.symm z4
    · exact Ne.symm z5
    · exact Ne.symm z6
    · exact Ne.symm z7
    · exact Ne.symm z8
    · exact Ne.symm z9
    · exact Ne.symm z10
    · exact (y4 q hq).2
  · rcases List.mem_append.mp hp with hp | hp
    · exact .inr (List.mem_append_left _ hp)
    · simp only [List.mem_cons] at hp
      rcases hp with rfl | rfl | rfl | rfl | rfl | rfl | rfl | rfl | rfl | rfl | hp
      · exact .inl noCode_list
      · exact .inl noCode_list
      · exact .inl (noCode_cell dt)
      · exact .inl (noCode_cell di)
      · exact .inl (noCode_cell db)
      · exact .inl (noCode_tab t1)
      · exact .inl (noCode_tab (q := qIdx) (R := []) tab_nil)
      · exact .inl noCode_list
      · exact .inl hnc
      · exact .inl noCode_list
      · exact .inr (List.mem_append_right _ hp)
theorem in_done {h₀ h : Heap} {L L' T st pl bl l itA : Nat} {o1 o2 o3 o4 o5 o6 o7 o8 o9 oa : Obj} {c : InC} (N : News h₀ L' h (InLed L [(T, o1), (st, o2), (pl, o3), (L + 1 + 1 + 1, o4), (L + 1, o5), (134, o6), (162, o7), (bl, o8), (itA, o9), (l, oa)] c)) :
    News h₀ L' h ((134, o6) :: (st, o2) :: (pl, o3) :: (L + 1 + 1 + 1, o4) :: (L + 1 + 1, c.oi) :: (L + 1, o5) :: (120, tabObj c.p1) :: (162, o7) :: (bl, o8) :: (itA, o9) :: (l, oa) :: c.ex) := fun p hp => N p (by
  simp only [InLed, List.mem_cons, List.mem_append, List.not_mem_nil, or_false] at hp ⊢; grind)

abbrev qLaw : Str := Str.ofString "law" ++ ".<locals>." ++ "<lambda>"
structure FinC where
  oi : Obj
  p3 : Array Value
  ex : List (Addr × Obj)
def FinLed (L : Nat) (R : List (Addr × Obj)) (c : FinC) : List (Addr × Obj) := (162, tabObj c.p3) :: (L + 1 + 1, c.oi) :: (R ++ c.ex)
structure FinJ (L : Nat) (_i : Nat) (c : FinC) : Prop where
  di : ∃ v, c.oi.data = .cell v
  t3 : TabOk qLaw c.p3 c.ex
  off : ∀ q ∈ c.ex, @Ne Nat q.1 162 ∧ @Ne Nat q.1 (L + 1 + 1)
theorem fin_clean {M : Model} {A : Around} {E : Value → Shared → Prop} {s : Shared} {h₀ : Heap} {L L' st pl bl l T : Nat} {ob : Obj} {us bs : List Value} {c : LawC} {ws : List Value} {K : Value → Shared → Prop} {i : Nat} {b : Int}
    (N : News h₀ L' s.heap ((T, tupObj ws) :: LawLed L st pl bl l ob us bs c)) (J : LawJ L st pl bl l bs b i c) (hw : ∀ v ∈ ws, ∃ k t, v = .int k t ∧ k ≤ -10000) (hT : l < T)
    (cont : ∀ (T : Nat) ws, News h₀ L' s.heap (FinLed L [(T, tupObj ws), (st, listOf c.vs.toArray c.n), (pl, listOf c.ps.toArray c.n₂), (L + 1 + 1 + 1, c.ot), (L + 1, ob), (134, tabObj c.p2), (120, tabObj c.p1), (bl, listOf bs.toArray 0), (l, listOf us.toArray 0)] ⟨c.oi, #[], c.ex⟩) →
      FinJ L 0 ⟨c.oi, #[], c.ex⟩ → (∀ v ∈ ws, ∃ k t, v = .int k t ∧ k ≤ -10000) → l < T → wpAny M A (pyIter (.ref T)) K E s) : wpAny M A (pyIter (.ref T)) K E s :=
  cont T ws (fun p hp => N p (by simp only [FinLed, LawLed, List.mem_cons, List.mem_append, List.not_mem_nil, or_false] at hp ⊢; grind)) ⟨J.di, tab_nil, fun q hq => ⟨(J.off q hq).2.2.2.2.2.2.2.1, (J.off q hq).2.2.2.1⟩⟩ hw hT
theorem fin_turn {h₀ h : Heap} {L' L : Nat} {R : List (Addr × Obj)} {c : FinC} {it : Addr × Obj} (N : News h₀ L' h (it :: FinLed L R c)) : News h₀ L' h ((162, tabObj c.p3) :: (L + 1 + 1, c.oi) :: it :: (R ++ c.ex)) := fun p hp => N p (by
  simp only [FinLed, List.mem_cons, List.mem_append] at hp ⊢; grind)
theorem fin_off {L : Nat} {R : List (Addr × Obj)} {c : FinC} {a : Nat} (off : ∀ q ∈ FinLed L R c, q.1 ≠ a) : @Ne Nat a 162 ∧ @Ne Nat a (L + 1 + 1) ∧ (∀ q ∈ R, q.1 ≠ a) ∧ ∀ q ∈ c.ex, q.1 ≠ a := by
  simp only [FinLed, List.forall_mem_cons, List.forall_mem_append] at off
  exact ⟨Ne.symm off.1, Ne.symm off.2.1, off.2.2.1, off.2.2.2⟩
theorem fin_lam {h₀ h : Heap} {L' : Nat} {p3 : Array Value} {R ex : List (Addr × Obj)} (_N : News h₀ L' h ((162, tabObj p3) :: R)) (off : ∀ q ∈ R, q.1 ≠ 162) (t3 : TabOk qLaw p3 ex) (hs : ∀ p ∈ ex, p ∈ R) :
    ExtOf 162 R R ∧ OffP 162 R ∧ TabOk qLaw p3 R ∧ KtsTurn (([] : List Env).filterMap (·.frame)) h₀ h₀ ∧ KtsDicts (([] : List Env).filterMap (·.frame)) h₀ :=
  ⟨⟨[], rfl, (fun _ h => nomatch h), (fun _ h => nomatch h)⟩, off, t3.mono hs, KtsTurn.refl, ktsDicts_nil⟩
theorem fin_end {h₀ h₀' h' : Heap} {L L' iA : Nat} {R R' ex : List (Addr × Obj)} {ps' : Array Value} {o' io : Obj} {m : Str → Option Value} {vi : Option Value} {j tk : Nat} {s : Shared} {Q : Flow → Shared → Prop}
    (hR : ∀ p ∈ R, NoCode p.2) (ox : ∀ q ∈ ex, @Ne Nat q.1 162 ∧ @Ne Nat q.1 (L + 1 + 1)) (hio : NoCode io) (z1 : @Ne Nat iA 162) (z2 : @Ne Nat iA (L + 1 + 1)) (z3 : ∀ q ∈ R, q.1 ≠ iA) (z4 : ∀ q ∈ ex, q.1 ≠ iA) (d : o'.data = .cell vi)
    (kT : KtsTurn (([] : List Env).filterMap (·.frame)) h₀ h₀') (F : Fr h₀' L' h' m) (N : News h₀' L' h' ((162, tabObj ps') :: R')) (kE : ExtOf 162 R' ((L + 1 + 1, o') :: (iA, io) :: (R ++ ex))) (T : TabOk qLaw ps' R') :
    GPost h₀ L' (fun _ : FinC => m) (FinLed L R) (FinJ L j) (iA, io) s Q .next { s with heap := h', toks := tk } := by
  obtain ⟨extra, rfl, y1, y2⟩ := kE
  replace N := news_nil kT N
  refine GPost.next ⟨o', ps', extra ++ ex⟩ (fr_nil kT F) (fun p hp => N p ?_) (fun q hq => ?_) ⟨⟨_, d⟩, T.strip fun p hp => ?_, fun q hq => ?_⟩
  · simp only [FinLed, List.mem_cons, List.mem_append] at hp ⊢; grind
  · simp only [FinLed, List.mem_cons, List.mem_append] at hq
    rcases hq with rfl | rfl | hq | hq | hq
    · exact Ne.symm z1
    · exact Ne.symm z2
    · exact z3 q hq
    · exact fun e => y2 q hq (iA, io) (.tail _ (.head _)) e.symm
    · exact z4 q hq
  · rcases List.mem_append.mp hp with hp | hp
    · exact .inr (List.mem_append_left _ hp)
    · rcases List.mem_cons.mp hp with rfl | hp
      · exact .inl (noCode_cell d)
      · rcases List.mem_cons.mp hp with rfl | hp
        · exact .inl hio
        · rcases List.mem_append.mp hp with hp | hp
          · exact .inl (hR p hp)
          · exact .inr (List.mem_append_right _ hp)
  · rcases List.mem_append.mp hq with hq | hq
    · exact ⟨y1 q hq, fun e => y2 q hq (L + 1 + 1, o') (.head _) e.symm⟩
    · exact ox q hq
theorem fin_offs {L iA T st pl bl l : Nat} {a b c d e f g h i j k : Obj} {ex : List (Addr × Obj)} (o3 : 162 < L) (z1 : @Ne Nat iA 162) (o4 : L + 1 + 1 + 1 < bl) (o5 : bl < st) (o6 : st < pl) (o7 : pl < l) (hT : l < T) (hex : ∀ q ∈ ex, q.1 ≠ 162) :
    ∀ q ∈ ((L + 1 + 1, a) :: (iA, b) :: (T, c) :: (st, d) :: (pl, e) :: (L + 1 + 1 + 1, f) :: (L + 1, g) :: (134, h) :: (120, i) :: (bl, j) :: (l, k) :: ex : List (Addr × Obj)), q.1 ≠ 162 := by
  simp only [List.forall_mem_cons]
  exact ⟨neN (by lia), z1, neN (by lia), neN (by lia), neN (by lia), neN (by lia), neN (by lia), neN (by lia), neN (by lia), neN (by lia), neN (by lia), hex⟩
theorem lt_facts {L : Nat} (o1 : 120 < L) (o2 : 134 < L) (o3 : 162 < L) : 120 < L + 1 ∧ 120 < L + 1 + 1 ∧ 134 < L + 1 + 1 ∧ 120 < L + 1 + 1 + 1 ∧ 134 < L + 1 + 1 + 1 ∧ 162 < L + 1 + 1 + 1 ∧ L + 1 < L + 1 + 1 + 1 := by lia

set_option maxHeartbeats 16000000 in
theorem law_try : PySem.Challenge.rw_nt0628_01.Holds := hd (by
  w_strict (
    k_go0
    all_goals try k_fold
    k_steps
    unfold Stop
    (with_reducible rename News _ _ _ _ => N0)
    (with_reducible rename Fr _ _ _ _ => F0)
    refine law_clean N0 F0 rfl (by assumption) (by assumption) (by assumption) (by assumption) ?I ?sz ?hl ?h0 ?h5 ?ord ?cont
    case I => exact start_inv (by assumption) (by assumption) (by first | (congr 1; done) | (congr 1; split <;> omega))
    case sz => rfl
    case hl => (simp only [List.length_append, List.length_take, List.length_replicate, List.length_cons, List.length_nil, fm3]; omega)
    case h0 => assumption
    case h5 => assumption
    case ord => omega
    case cont =>
      intro l st pl bl us bs b ob tb m₁ c₀ S
      repeat ((with_reducible rename News _ _ _ _ => zz); clear zz)
      repeat ((with_reducible rename Fr _ _ _ _ => zz); clear zz)
      repeat ((with_reducible rename (_ < _) ∧ _ => zz); clear zz)
      repeat ((with_reducible rename (_ ≠ _) ∧ _ => zz); clear zz)
      repeat ((with_reducible rename (Obj.data _ = _) => zz); clear zz)
      obtain ⟨N, F, J, db, ok, ul, h0, h5, o1, o2, o3, o4, o5, o6, o7⟩ := S
      refine forG_list (σ := LawC) (vs := us) (nn := 0) (LawM st pl bl m₁) (LawLed _ st pl bl l ob us bs) (LawJ _ st pl bl l bs b) c₀ rfl ?hE ?hl F N J ?turn ?done
      case hE => passes_own
      case hl => exact fun c => by simp [LawLed]
      case turn =>
        clear N F J
        intro s' i v c h tk it hi hv hJ off hnc F N
        obtain ⟨vs, n, ps, n₂, top, tt, ot, oi, sz, tz, num, p1, p2, ex⟩ := c
        obtain ⟨I, e1, e2, e3, dt, ⟨vi, di⟩, t1, t2, ox⟩ := hJ
        obtain ⟨itA, ito⟩ := it
        obtain ⟨⟨i1, i2, i3, i4, i5, i6, i7, i8, i9, i10⟩, x0⟩ := led_off off
        replace N := led_turn N
        replace F := led_frame F
        dsimp only at I e1 e2 e3 dt di t1 t2 ox hnc N F x0 i1 i2 i3 i4 i5 i6 i7 i8 i9 i10
        obtain ⟨k, t, rfl, hk0⟩ := ok v (List.mem_of_getElem? hv)
        have x1 : ∀ q ∈ ex, q.1 ≠ st := fun q hq => (ox q hq).1
        have x2 : ∀ q ∈ ex, q.1 ≠ pl := fun q hq => (ox q hq).2.1
        have x3 := fun q hq => (ox q hq).2.2.1
        have x4 := fun q hq => (ox q hq).2.2.2.1
        have x6 := fun q hq => (ox q hq).2.2.2.2.2.1
        have x7 := fun q hq => (ox q hq).2.2.2.2.2.2.1
        clear off hv
        obtain ⟨m1, m2, m3, m4, m5, m6, m7⟩ := lt_facts o1 o2 o3
        have f0 := I.facts
        obtain ⟨f1, f2, f3, f4, f5, f6, f7, f8, f9⟩ := f0
        clear f4 f5 f7 f8 f9
        refine wpAny_assign_Name ?_
        k_steps
        all_goals first | unfold Stop | (exfalso; (with_reducible rename (_ ≠ (ite _ _ _)) => ha); split at ha <;> omega) | (exfalso; omega)
        (with_reducible rename News _ _ _ _ => N3)
        (with_reducible rename Fr _ _ _ _ => F3)
        (with_reducible rename SInv _ _ _ _ _ => I3)
        refine inner_clean (i := i) N3 F3 I3 (by assumption) ?hw ?hz ?pn ?vl ?hT ?ct
        case hw =>
          intro v hv
          simp only [List.mem_cons, List.not_mem_nil, or_false] at hv
          rcases hv with rfl | rfl | rfl | rfl | rfl | rfl | rfl | rfl <;> exact ⟨_, _, rfl⟩
        case hz => first | omega | (split <;> omega)
        case pn => omega
        case vl => omega
        case hT => omega
        case ct =>
          intro T ws' vs' ps' n' n2' top' tt' ot' sz' tz' S2
          clear N3 F3 I3
          repeat ((with_reducible rename News _ _ _ _ => zz); clear zz)
          repeat ((with_reducible rename Fr _ _ _ _ => zz); clear zz)
          repeat ((with_reducible rename (_ < _) ∧ _ => zz); clear zz)
          repeat ((with_reducible rename (_ ≠ _) ∧ _ => zz); clear zz)
          clear I dt f1 f2 f3 f6
          obtain ⟨N, F, I, dt, hw, hz, pn, vl, hT1, hT2⟩ := S2
          obtain ⟨f1, f2, f3, f4, f5, f6, f7, f8, f9⟩ := I.facts
          refine forG_tup (σ := InC) (vs := ws') (fun _ => _) (InLed _ [(T, tupObj ws'), (st, listOf vs'.toArray n'), (pl, listOf ps'.toArray n2'), (_, ot'), (_, ob), (134, tabObj p2), (162, tabObj #[]), (bl, listOf bs.toArray 0), (itA, ito), (l, listOf us.toArray 0)]) (InJ _ st pl bl l itA p2) ⟨oi, p1, ex⟩ rfl ?hE ?hl F N ⟨⟨_, di⟩, t1, t2, fun q hq => ⟨ox q hq, x0 q hq⟩⟩ ?tn ?dn
          case hE => passes_own
          case hl => exact fun c => .tail _ (.tail _ (.head _))
          case tn =>
            clear N F
            intro s2 j v c h2 tk2 it2 hj hv hJ off hnc2 F N
            obtain ⟨oi2, p12, ex2⟩ := c
            obtain ⟨⟨vi2, di2⟩, u1, u2, ox2⟩ := hJ
            obtain ⟨iA, io⟩ := it2
            obtain ⟨z1, z2, z3, z4⟩ := in_off off
            replace N := in_turn N
            dsimp only [List.cons_append, List.nil_append] at di2 u1 u2 ox2 hnc2 N z1 z2 z3 z4 F
            obtain ⟨k2, t2', rfl⟩ := hw v (List.mem_of_getElem? hv)
            have w4 := fun q hq => (ox2 q hq).1.2.2.2.1
            have w7 := fun q hq => (ox2 q hq).1.2.2.2.2.2.2.1
            clear off hv x0 x1 x2 x3 x4 x6 x7
            refine wpAny_assign_Name ?_
            k_steps
            (with_reducible rename News _ _ _ _ => N5)
            (with_reducible rename Fr _ _ _ _ => F5)
            (with_reducible rename TabOk qIdx _ _ => T5)
            (with_reducible rename (Obj.data _ = _) => d5)
            refine inner_end ?_ ?_ u2 ox2 hnc2 z1 z2 z3 z4 F5 N5 T5 (by assumption) (by assumption) d5
            · intro p hp
              simp only [List.mem_cons, List.not_mem_nil, or_false] at hp
              rcases hp with rfl | rfl | rfl | rfl | rfl | rfl | rfl | rfl | rfl | rfl
              · exact noCode_tup
              · exact noCode_list
              · exact noCode_list
              · exact noCode_cell dt
              · exact noCode_cell db
              · exact noCode_tab u2
              · exact noCode_tab (q := qIdx) (R := []) tab_nil
              · exact noCode_list
              · exact hnc
              · exact noCode_list
            · intro a a1 a2 z
              simp only [List.forall_mem_cons] at z
              obtain ⟨-, y1, y2, y3, y4, y5, y6, y7, y8, y9, -⟩ := z
              exact ⟨⟨Ne.symm y1, Ne.symm y2, Ne.symm y3, a2, Ne.symm y4, Ne.symm y5, a1, Ne.symm y6, Ne.symm y7, Ne.symm y9⟩, Ne.symm y8⟩
          case dn =>
            clear N F
            intro c h2 tk2 hJ F N
            obtain ⟨oi2, p12, ex2⟩ := c
            obtain ⟨⟨vi2, di2⟩, u1, u2, ox2⟩ := hJ
            replace N := in_done N
            dsimp only at di2 u1 u2 ox2 N F
            have w6 := fun q hq => (ox2 q hq).1.2.2.2.2.2.1
            clear x0 x1 x2 x3 x4 x6 x7
            k_steps
            (with_reducible rename News _ _ _ _ => N5)
            (with_reducible rename Fr _ _ _ _ => F5)
            (with_reducible rename TabOk qWr _ _ => T5)
            exact outer_end I hz pn vl dt di2 db u1 hnc ox2 ⟨i1, i2, i3, i4, i5, i6, i7, i8, i9, i10⟩ F5 N5 T5 (by assumption) (by assumption)
      case done =>
        intro c h tk hJ F N
        obtain ⟨vs, n, ps, n₂, top, tt, ot, oi, sz, tz, num, p1, p2, ex⟩ := c
        obtain ⟨I, e1, e2, e3, dt, ⟨vi, di⟩, t1, t2, ox⟩ := hJ
        replace F := led_frame F
        dsimp only at I e1 e2 e3 dt di t1 t2 ox N F
        simp only [LawLed] at N
        k_steps
        unfold Stop
        (with_reducible rename News _ _ _ _ => N3)
        (with_reducible rename Fr _ _ _ _ => F3)
        obtain ⟨f1, f2, f3, f4, f5, f6, f7, f8, f9⟩ := I.facts
        refine fin_clean (ob := ob) (us := us) (bs := bs) (c := ⟨vs, n, ps, n₂, top, tt, ot, oi, sz, tz, num, p1, p2, ex⟩) N3 ⟨I, e1, e2, e3, dt, ⟨vi, di⟩, t1, t2, ox⟩ ?hw ?hT ?ct
        case hw =>
          intro v hv
          simp only [List.mem_cons, List.not_mem_nil, or_false] at hv
          rcases hv with rfl | rfl | rfl <;> exact ⟨_, _, rfl, by omega⟩
        case hT => omega
        case ct =>
          intro T ws' N J hw hT
          clear N3
          dsimp only at N J
          refine forG_tup (σ := FinC) (vs := ws') (fun _ => _) (FinLed _ [(T, tupObj ws'), (st, listOf vs.toArray n), (pl, listOf ps.toArray n₂), (_, ot), (_, ob), (134, tabObj p2), (120, tabObj p1), (bl, listOf bs.toArray 0), (l, listOf us.toArray 0)]) (FinJ _) ⟨oi, #[], ex⟩ rfl ?hE ?hl F3 N J ?tn ?dn
          case hE => passes_own
          case hl => exact fun c => .tail _ (.tail _ (.head _))
          case tn =>
            clear N F3 J di
            intro s2 j v c h2 tk2 it2 hj hv hJ off hnc2 F N
            obtain ⟨oi2, p3, ex2⟩ := c
            obtain ⟨⟨vi2, di2⟩, t3, ox2⟩ := hJ
            obtain ⟨iA, io⟩ := it2
            obtain ⟨z1, z2, z3, z4⟩ := fin_off off
            replace N := fin_turn N
            dsimp only [List.cons_append, List.nil_append] at di2 t3 ox2 hnc2 N z1 z2 z3 z4 F
            obtain ⟨k2, t2', rfl, hk2⟩ := hw v (List.mem_of_getElem? hv)
            have w1 := fun q hq => (ox2 q hq).1
            have w2 := fun q hq => (ox2 q hq).2
            clear off hv
            refine wpAny_assign_Name ?_
            k_steps
            all_goals first | unfold Stop | (exfalso; (with_reducible rename (_ ≠ _) => hz9); exact hz9 rfl)
            (with_reducible rename News _ _ _ _ => N4)
            (with_reducible rename (Obj.data _ = _) => d5)
            obtain ⟨kE, kO, tabL, kT, kD⟩ := fin_lam N4 (fin_offs o3 z1 o4 o5 o6 o7 hT w1) t3 (by walk_at "my sub")
            have n1 := noCode_tab t1
            have n2 := noCode_tab t2
            clear t3 t1 t2
            k_steps
            (with_reducible rename News _ _ _ _ => N5)
            (with_reducible rename Fr _ _ _ _ => F5)
            (with_reducible rename ExtOf _ _ _ => E5)
            (with_reducible rename TabOk _ _ _ => T5)
            (with_reducible rename KtsTurn _ _ _ => K5)
            refine fin_end ?_ ox2 hnc2 z1 z2 z3 z4 d5 K5 F5 N5 E5 T5
            intro p hp
            simp only [List.mem_cons, List.not_mem_nil, or_false] at hp
            rcases hp with rfl | rfl | rfl | rfl | rfl | rfl | rfl | rfl | rfl
            · exact noCode_tup
            · exact noCode_list
            · exact noCode_list
            · exact noCode_cell dt
            · exact noCode_cell db
            · exact n2
            · exact n1
            · exact noCode_list
            · exact noCode_list
          case dn =>
            clear N F3 J di
            intro c h2 tk2 hJ F N
            obtain ⟨oi2, p3, ex2⟩ := c
            obtain ⟨⟨vi2, di2⟩, t3, ox2⟩ := hJ
            simp only [FinLed, List.cons_append, List.nil_append] at N
            k_steps))

end Mine
theorem PySem.Challenge.cw_nt0628_01_holds : PySem.Challenge.rw_nt0628_01.Holds :=
  Mine.law_try

