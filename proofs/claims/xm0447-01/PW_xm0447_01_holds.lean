import PyProof.Rows.All
import Wide.All
import OpenK.AllK
import Wide.FinOn
import Lean
import PySem.Challenge.RW_xm0447_01
open PySem PySem.W PyProof.Rows
set_option Elab.async false
set_option maxRecDepth 100000
set_option maxHeartbeats 4000000
namespace Xm0447Keep
open PySem PySem.Calls PyProof.Rows PySem.W

theorem noR_tuple_rmul : typeLookup (.type "tuple") (dunderR "mul") = pure (some (.builtin "tuple.__rmul__")) := F.slot_tuple_rmul.lookup
theorem noFill_tuple_mul : fillsNumberSlot (.type "tuple") "mul" = pure false :=
  PySem.fillsNumberSlot_seq (id := "tuple.__mul__") (r := some (.builtin "tuple.__rmul__")) F.slot_tuple_mul.lookup (by decide +kernel) F.slot_tuple_rmul.lookup (by decide +kernel)
theorem repeat_tuple : seqRepeat? (.type "tuple") = pure (some (.builtin "tuple.__mul__")) := by
  unfold seqRepeat?
  rw [PySem.seqSlot_of (T := "tuple") (name := "__mul__") (id := "tuple.__mul__") F.slot_tuple_mul.lookup (by decide +kernel), PySem.seqSlot_of (T := "tuple") (name := "__rmul__") (id := "tuple.__rmul__") F.slot_tuple_rmul.lookup (by decide +kernel)]
  rfl

theorem int_rmul_tuple (a : Int) (t : Tok) (l : Addr) (items : Array Value) (n : Nat) (d : Option Addr) (sl : Array (Option Value)) :
    Meets (Builtin.«int.__rmul__» ⟨[.int a t, .ref l], []⟩) (fun _ R s => s.heap.get? l = some { cls := .type "tuple", dict := d, data := .seq items n, slots := sl } ∧ R (.ok (.ret Value.notImplemented)) s) :=
  .of_wp fun prog w A R s h => by obtain ⟨hp, g, d, tk, os⟩ := s; obtain ⟨hl, h⟩ := h; wp_walk; exact ⟨_, rfl, h⟩

theorem tup_fold (v : Value) : ∀ k : Nat, List.foldl (fun x1 x2 => x1 ++ x2) #[] (List.replicate k #[v]) = (List.replicate k v).toArray := by
  intro k
  have h : ∀ (k : Nat) (acc : Array Value), List.foldl (fun x1 x2 => x1 ++ x2) acc (List.replicate k #[v]) = acc ++ (List.replicate k v).toArray := by
    intro k
    induction k with
    | zero => intro acc; simp
    | succ k ih => intro acc; rw [List.replicate_succ, List.foldl_cons, ih, List.replicate_succ]; apply Array.toList_inj.mp; simp
  rw [h]; simp
theorem tup_mul (l : Addr) (v : Value) (n : Nat) (d : Option Addr) (sl : Array (Option Value)) (x : Int) (u : Tok) (h0 : 0 ≤ x) (h1 : x ≠ 1) (h2 : x ≤ 1000000) :
    Meets (Builtin.«tuple.__mul__» ⟨[.ref l, .int x u], []⟩) (fun _ R s => s.heap.get? l = some { cls := .type "tuple", dict := d, data := .seq #[v] n, slots := sl } ∧ R (.ok (.ret (Value.ref s.heap.objs.size))) { s with heap := s.heap.push { cls := Value.type "tuple", data := Data.seq (List.replicate x.toNat v).toArray }, toks := s.toks }) :=
  .of_wp fun prog w A R s h => by
    obtain ⟨hp, g, d, tk, os⟩ := s; obtain ⟨hl, h⟩ := h
    have hc0 : ¬(decide (x < -2 ^ 63) || decide (x ≥ 2 ^ 63)) = true := by
      rw [Bool.not_eq_true, Bool.or_eq_false_iff, decide_eq_false_iff_not, decide_eq_false_iff_not]; omega
    have hc1 : ¬(#[v].isEmpty || x == 1) = true := by
      rw [Bool.not_eq_true, Bool.or_eq_false_iff]; exact ⟨rfl, beq_eq_false_iff_ne.mpr h1⟩
    have e := tup_fold v x.toNat
    by_cases hx : x ≤ 0
    · have hc2 : (decide (x ≤ 0) || #[v].isEmpty) = true := by rw [decide_eq_true hx]; rfl
      have h3 : x.toNat = 0 := by omega
      rw [h3] at h
      wp_walk
      rw [if_neg hc0]
      wp_walk
      exact ⟨_, rfl, h⟩
    · have hc2 : ¬(decide (x ≤ 0) || #[v].isEmpty) = true := by rw [decide_eq_false hx]; exact Bool.false_ne_true
      have hs1 : ((#[v].size : Nat) : Int) = 1 := rfl
      have hc3 : ¬ ((#[v].size : Nat) : Int) * x > (2 ^ 63 - 1) / 8 := by rw [hs1]; omega
      have hc4 : ¬ Builtin.Tuple.tupleTooMany (((#[v].size : Nat) : Int) * x) = true := by
        rw [hs1]; unfold Builtin.Tuple.tupleTooMany; rw [sizeLine_eq, decide_eq_true_eq]; omega
      have hsz : (List.foldl (fun x1 x2 => x1 ++ x2) #[] (List.replicate x.toNat #[v])).size ≤ sizeLine := by
        rw [e, sizeLine_eq, List.size_toArray, List.length_replicate]; omega
      wp_walk
      rw [if_neg hc0]
      wp_walk
      rw [if_neg hc3]
      wp_walk
      rw [if_neg hc4]
      wp_walk
      refine wpAny_ite_false (decide_eq_false (Nat.not_lt.mpr hsz)) ?_
      wp_walk
      rw [e]
      exact ⟨_, rfl, h⟩
end Xm0447Keep
namespace Xm0447Keep
open PySem PySem.Calls PyProof.Rows PySem.W
section
variable {prog : Program} {w : World} {A : Around} {E : Value → Shared → Prop} {s : Shared} {h₀ : Heap} {L : Addr} {m : Str → Option Value} {news : List (Addr × Obj)} {l : Addr} {v : Value} {x : Int} {u : Tok} {Q : Value → Shared → Prop}
abbrev tupOf (its : Array Value) (n : Nat) : Obj := { cls := .type "tuple", data := .seq its n }
theorem mulT (Fm : Fr h₀ L s.heap m) (N : News h₀ L s.heap news) (hl : IsTup s.heap l #[v]) (hlo : 0 ≤ x) (h1 : x ≠ 1) (hhi : x ≤ 1000000)
    (h : ∀ D h' ws, ws.length = x.toNat → Fr h₀ L h' m → News h₀ L h' ((D, tupOf (List.toArray ws) 0) :: news) → (∀ p ∈ news, p.1 < D) → Q (.ref D) { s with heap := h' }) :
    wpAny (model prog w) A (binaryOp .Mult (.ref l) (.int x u)) Q E s := by
  obtain ⟨⟨cls, d, data, sl⟩, ho, hcl, k, hd⟩ := id hl
  simp only at hcl hd
  subst hcl hd
  refine wpAny_binaryOp_repeat_ref (T := "tuple") (U := "int") (by decide) ⟨_, ho, rfl⟩ (fun s' => typeIs_int s' x u) noFill_tuple_mul F.fills_int_mul F.slot_int_rmul repeat_tuple F.slot_int_index.lookup
    (call_meets F.slot_int_rmul (typeIs_int s x u) F.entry_int_rmul (F.args_int_rmul_2 _ _) (int_rmul_tuple x u l #[v] k d sl)
      ⟨ho, rfl, ⟨_, ho, rfl⟩, call_meets F.slot_tuple_mul ⟨_, ho, rfl⟩ F.entry_tuple_mul (F.args_tuple_mul_2 _ _)
        (tup_mul l v k d sl x u hlo h1 hhi)
        ⟨ho, ?_⟩⟩)
  exact h _ _ (List.replicate x.toNat v) (List.length_replicate ..) (Fm.push _) (News.push Fm N _) (fun p hp => Heap.lt_size (N p hp).1)

theorem item_menu {value slice : PySem.Expr} {vs : List Value} {ns : List Int} {lo hi : Int} (hl : s.heap.IsList l vs.toArray) (hi' : IntsAre vs ns) (h0 : 0 ≤ x) (h1 : x < ns.length) (hs63 : ns.length < 2 ^ 62)
    (hb : ns.all (fun k => decide (lo ≤ k) && decide (k ≤ hi) && decide (k ≠ 1)) = true)
    (h : ∀ g t, lo ≤ g → g ≤ hi → g ≠ 1 → Q (.int g t) s)
    (hs : subscripted slice false (.ref l) (.int x u) = operate [.ref l, .int x u] (getItem (.ref l) (.int x u)) := by with_unfolding_all rfl) :
    wpAny (model prog w) A (subscriptTail value slice (.ref l) (.int x u)) Q E s := by
  refine kba_turn (value' := PySem.Expr.Name (PySem.Str.ofString "_") ⟨0, 0, 0, 0⟩) (fun _ => rfl) ?_
  refine item_list_ints hl hi' h0 (by omega) (by omega) (fun t => ?_) hs (fun _ => rfl)
  have hx : x.toNat < ns.length := by omega
  have e : ns.getD x.toNat 0 = ns[x.toNat] := by simp [List.getD, hx]
  have q := List.all_eq_true.mp hb ns[x.toNat] (List.getElem_mem hx)
  rw [Bool.and_eq_true, Bool.and_eq_true, decide_eq_true_eq, decide_eq_true_eq, decide_eq_true_eq] at q
  rw [← e] at q
  exact h _ _ q.1.1 q.1.2 q.2
end
end Xm0447Keep
namespace Xm0447Keep
open PySem PySem.Calls PyProof.Rows PySem.W
def RepOf (ws : List Value) (v : Value) (n : Nat) : Prop := ws = List.replicate n v
theorem RepOf.length {ws : List Value} {v : Value} {n : Nat} (h : RepOf ws v n) : ws.length = n := by
  unfold RepOf at h; rw [h, List.length_replicate]
theorem rep_flat (v : Value) : ∀ k : Nat, (List.replicate k [v]).flatten = List.replicate k v
  | 0 => rfl
  | k + 1 => by rw [List.replicate_succ, List.flatten_cons, rep_flat v k, List.replicate_succ]; rfl
section
variable {prog : Program} {w : World} {A : Around} {E : Value → Shared → Prop} {s : Shared} {h₀ : Heap} {L : Addr} {m : Str → Option Value} {news : List (Addr × Obj)} {l : Addr} {v : Value} {x a b : Int} {t u : Tok} {Q : Value → Shared → Prop}
theorem mod_any (hb : 0 < b) (h : ∀ z tk, 0 ≤ z → z < b → Q (.int z tk) { s with toks := s.toks + 1 }) :
    wpAny (model prog w) A (binaryOp .Mod (.int a t) (.int b u)) Q E s := mod_int' (by omega) (h _ _ (fmod_lo a hb) (fmod_hi a hb))
theorem mulL (Fm : Fr h₀ L s.heap m) (N : News h₀ L s.heap news) (hl : s.heap.IsList l #[v]) (h0 : 0 ≤ x) (h1 : x ≤ 200)
    (h : ∀ D h' ws, RepOf ws v x.toNat → Fr h₀ L h' m → News h₀ L h' ((D, listOf (List.toArray ws) 0) :: news) → (∀ p ∈ news, p.1 < D) → Q (.ref D) { s with heap := h' }) :
    wpAny (model prog w) A (binaryOp .Mult (.ref l) (.int x u)) Q E s := by
  refine KMa.mul (vs := [v]) Fm N hl (by omega) (by omega) (by simp only [List.length_cons, List.length_nil]; omega) (rep_flat v x.toNat) fun D h' F' N' l1 => h D h' _ rfl F' N' l1
end
end Xm0447Keep
namespace Xm0447Keep
open PySem PySem.Calls PyProof.Rows PySem.W
section
variable {prog : Program} {w : World} {A : Around} {E : Value → Shared → Prop} {s : Shared} {h₀ : Heap} {L D : Addr} {m : Str → Option Value} {news : List (Addr × Obj)} {v : Value} {x : Int} {ws : List Value} {c : Nat} {Q : Value → Shared → Prop}
theorem lenL (N : News h₀ L s.heap news) (hm : (D, listOf (List.toArray ws) c) ∈ news) (hr : RepOf ws v x.toNat) (h0 : 0 ≤ x) (h1 : x ≤ 2 ^ 30) (h : ∀ tk, Q (.int x tk) { s with toks := s.toks + 1 + 1 }) :
    wpAny (model prog w) A (call (.builtin "len") [.ref D]) Q E s := by
  have e : ((List.toArray ws).size : Int) = x := by rw [List.size_toArray, hr.length]; omega
  exact Calls.call_len_list (News.isList N hm) (by omega) (by rw [e]; exact h _)
theorem lenT (N : News h₀ L s.heap news) (hm : (D, tupOf (List.toArray ws) c) ∈ news) (hr : ws.length = x.toNat) (h0 : 0 ≤ x) (h1 : x ≤ 2 ^ 30) (h : ∀ tk, Q (.int x tk) { s with toks := s.toks + 1 + 1 }) :
    wpAny (model prog w) A (call (.builtin "len") [.ref D]) Q E s := by
  have e : ((List.toArray ws).size : Int) = x := by rw [List.size_toArray, hr]; omega
  exact PyProof.Rows.len_tuple (News.isTup N hm) (by omega) (by rw [e]; exact h _)
end
end Xm0447Keep
namespace Xm0447Keep
open PySem PySem.Calls PyProof.Rows PySem.W Builtin Builtin.ObjectAttr Builtin.Getset_descriptor

abbrev excObj (C t : Addr) (d : Option Addr) : Obj := { cls := .ref C, dict := d, data := .fields #[.ref t, .none, .none, .none, .bool false, .none] }

section
variable {prog : Program} {w : World} {A : Around} {K : Frag} {C x : Addr} {s : Shared} {h₀ : Heap} {L : Addr} {m : Str → Option Value} {news : List (Addr × Obj)} {R : Result → Shared → Prop} {cd : ClassData} {bm : List Value} {name : Str} {v : Value}

theorem osaE_open {ox : Obj} {od : Option Obj} {tk : Tok} (X : K.In s.heap) (I : InstAt s.heap x ox C od) (hc : clsIn K C = some cd) (hmro : cd.mro = .ref C :: bm)
    (hp : ∀ self, refuseLoop self "__setattr__" bm = pure ()) (hobj : bm.contains (.type "object") = true) (ht : takerIn K C name = some none)
    (h : ∀ b, wpAny (model prog w) A.in1 (storeInOwnDict (.ref x) (.ref C) (.str name tk) name v b)
      (fun fin s' => match fin with | .done f => R (.ok f) s' | .again c' => c'.quiet = true ∧ codeAny (model prog w) A c' R s') (fun e s' => R (.error e) s') s) :
    codeAny (model prog w) A (.call (.builtin "object.__setattr__") ⟨[.ref x, .str name tk, v], []⟩) R s := by
  have SF := PySem.F.store_object
  have ne : cd.mro.isEmpty = false := by rw [hmro]; rfl
  have sub : Looks (model prog w) s.heap (isInstance (.ref x) (.type "object")) true := I.type.andThen (looks_mroIn X (by
    unfold mroIn; rw [hc, Option.bind_some, if_neg (by rw [ne]; decide), hmro, List.contains_cons, hobj, Bool.or_true]))
  refine codeAny_call_builtin SF.slot.plain SF.entry (@check_slot (model prog w) _ _ s "object.__setattr__" "object" "__setattr__" (.ref x) [.str name tk, v] [] _ SF.kind SF.split sub (SF.args (.ref x) (.str name tk) v) ?_)
  obtain ⟨attr, ha, hr⟩ := Option.bind_eq_some_iff.mp ht
  have hm : Looks (model prog w) s.heap (mroOf (.ref C)) cd.mro := (looks_clsIn X hc).andThen .now
  have L3 : Looks (model prog w) s.heap (storeTaker? attr) none := by
    cases attr with
    | none => exact .now
    | some a =>
      obtain ⟨b, hb, e⟩ := Option.map_eq_some_iff.mp hr
      refine (looks_takesIn X hb).andThen ?_
      cases b
      · exact .now
      · cases e
  rw [osa_eq, refuse_eq]
  refine wpAny_bind (wpAny_bind (I.type.here (wpAny_bind (hm.here ?_))))
  rw [hmro, refuseLoop_ref, hp]
  refine wpAny_pure (wpAny_bind (I.type.here (wpAny_bind ((looks_findIn X ha).here (wpAny_bind (L3.here ?_))))))
  exact h _

theorem put_dict {dx : Addr} {es es' : List DictEntry} {n n' : Nat} {tk : Tok} {E : Value → Shared → Prop} {P : PySem.Fin → Shared → Prop} (D : s.heap.get? dx = some (dictOf es n)) (hl : (getL name es).isSome = true)
    (e : (putL name (PyData.keyHash w.params name) (.str name s.toks) v es, putN name es n) = (es', n')) (hz : es'.length ≤ 1000)
    (h : ∀ h', Heap.SameBut dx s.heap h' → h'.get? dx = some (dictOf es' n') → P (.done (.ret .none)) { s with heap := h', toks := s.toks + 1 }) :
    wpAny (model prog w) A (storeInDict dx (.str name tk) name v) P E s := by
  obtain ⟨e1, e2⟩ := Prod.mk.inj e
  have D' : (s.heap.update dx (Obj.putName name (PyData.keyHash w.params name) (.str name s.toks) v)).get? dx = some (dictOf es' n') := by
    have q := Heap.get?_update_self (Obj.putName name (PyData.keyHash w.params name) (.str name s.toks) v) D (by rw [putName_dict]; rfl)
    rw [putName_dict, e1, e2] at q
    exact q
  unfold storeInDict newKeyGuard
  refine wpAny_bind (wpAny_pure (wpAny_bind ?_))
  unfold nsSet
  refine wpAny_bind (wpAny_bind (wpAny_askSetting (wpAny_pure (wpAny_bind (wpAny_mkText (wpAny_bind (wpAny_loadPart D ?_)))))))
  dsimp only
  have c : (!es.toArray.any (·.key.isStr name) && es.toArray.any (·.refKey)) = false := by
    rw [← Array.any_toList, ← Array.any_toList]
    unfold getL at hl
    split at hl
    · rename_i en he
      rw [List.any_eq_true.mpr ⟨en, List.mem_of_find?_eq_some he, List.find?_some he⟩]; rfl
    · split at hl
      · cases hl
      · rename_i z; rw [Bool.not_eq_true] at z; rw [z, Bool.and_false]
  rw [aRefKeyMayBeTheName_at, c]
  refine wpAny_updatePart D ?_
  refine wpAny_bind (wpAny_lookBehind D' (pastItsLine_dict (by rw [List.size_toArray, sizeLine_eq]; omega)) ?_)
  exact wpAny_pure (h _ (.update ..) D')

theorem same_fr {h h' : Heap} {d : Addr} (F : Fr h₀ L h m) (hs : Heap.SameBut d h h') (h1 : d ≠ L) (h2 : h₀.get? d = none) : Fr h₀ L h' m := F.change hs h1 h2

structure ExcShape (K : Frag) (C : Addr) (cd : ClassData) (bm : List Value) : Prop where
  cls : clsIn K C = some cd
  mro : cd.mro = .ref C :: bm
  passes : ∀ self, refuseLoop self "__setattr__" bm = pure ()
  obj : bm.contains (.type "object") = true
  sa : findIn K (.ref C) "__setattr__" = some (some (.builtin "object.__setattr__"))
  dict : cd.hasDict = true

theorem setE1 {t dx : Addr} {rest : List (Addr × Obj)} {es es' : List DictEntry} {n n' : Nat} {E : Value → Shared → Prop} {Q : Unit → Shared → Prop} (F : Fr h₀ L s.heap m) (X₀ : K.In h₀)
    (N : News h₀ L s.heap ((x, excObj C t (some dx)) :: (dx, dictOf es n) :: rest)) (S : ExcShape K C cd bm) (ht : takerIn K C name = some none) (hne : ∀ p ∈ rest, p.1 ≠ x ∧ p.1 ≠ dx) (hdx : dx ≠ x)
    (hl : (getL name es).isSome = true) (e : (putL name (PyData.keyHash w.params name) (.str name (s.toks + 1)) v es, putN name es n) = (es', n')) (hz : es'.length ≤ 1000)
    (h : ∀ h', Fr h₀ L h' m → News h₀ L h' ((x, excObj C t (some dx)) :: (dx, dictOf es' n') :: rest) → Q () { s with heap := h', toks := s.toks + 2 }) :
    wpAny (model prog w) A (setAttr (.ref x) name v) Q E s := by
  have X := X₀.keeps F.keep
  have Nx := N (x, excObj C t (some dx)) (.head _)
  have Nd := N (dx, dictOf es n) (.tail _ (.head _))
  have I : InstAt s.heap x (excObj C t (some dx)) C (some (dictOf es n)) := ⟨Nx.1, rfl, rfl, Nd.1⟩
  refine set_plain X I S.sa (osaE_open (s := { s with toks := s.toks + 1 }) X I S.cls S.mro S.passes S.obj ht fun b => ?_)
  refine wpAny_bind (wpAny_pure (wpAny_bind (wpAny_bind (wpAny_loadPart (s := { s with toks := s.toks + 1 }) Nx.1 (wpAny_bind (looks_clsIn X S.cls _ _ _ _ (fun _ _ e => e) ?_))))))
  rw [S.dict]
  refine wpAny_pure (a := some dx) ?_
  refine put_dict (s := { s with toks := s.toks + 1 }) Nd.1 hl e hz fun h' hs D' => h h' (same_fr F hs Nd.2.1 Nd.2.2) fun p hp => ?_
  rcases List.mem_cons.mp hp with rfl | hp
  · exact ⟨(hs.2 x (Ne.symm hdx)).trans Nx.1, Nx.2⟩
  · rcases List.mem_cons.mp hp with rfl | hp
    · exact ⟨D', Nd.2⟩
    · have Np := N p (.tail _ (.tail _ hp))
      exact ⟨(hs.2 p.1 (hne p hp).2).trans Np.1, Np.2⟩

theorem setE0 {t : Addr} {rest : List (Addr × Obj)} {es' : List DictEntry} {n' : Nat} {E : Value → Shared → Prop} {Q : Unit → Shared → Prop} (F : Fr h₀ L s.heap m) (X₀ : K.In h₀)
    (N : News h₀ L s.heap ((x, excObj C t none) :: rest)) (S : ExcShape K C cd bm) (ht : takerIn K C name = some none) (hne : ∀ p ∈ rest, p.1 ≠ x)
    (e : (putL name (PyData.keyHash w.params name) (.str name (s.toks + 1)) v [], putN name [] 0) = (es', n')) (hz : es'.length ≤ 1000)
    (h : ∀ dx h', Fr h₀ L h' m → News h₀ L h' ((x, excObj C t (some dx)) :: (dx, dictOf es' n') :: rest) → (∀ p ∈ rest, p.1 ≠ x ∧ p.1 ≠ dx) → dx ≠ x → Q () { s with heap := h', toks := s.toks + 2 }) :
    wpAny (model prog w) A (setAttr (.ref x) name v) Q E s := by
  have X := X₀.keeps F.keep
  have Nx := N (x, excObj C t none) (.head _)
  have I : InstAt s.heap x (excObj C t none) C none := ⟨Nx.1, rfl, rfl, trivial⟩
  obtain ⟨hp, g, d, tk, os⟩ := s
  refine set_plain X I S.sa (osaE_open X I S.cls S.mro S.passes S.obj ht fun b => ?_)
  refine wpAny_bind (wpAny_pure (wpAny_bind (wpAny_bind (wpAny_loadPart Nx.1 (wpAny_bind (looks_clsIn X S.cls _ _ _ _ (fun _ _ e => e) ?_))))))
  rw [S.dict]
  dsimp only
  have hd1 : typeHasDict (Value.ref C) = true := rfl
  rw [if_neg (by decide), if_neg (by rw [hd1]; decide)]
  dsimp only at F N Nx e
  have hlt : x < hp.objs.size := Heap.lt_size Nx.1
  have F1 := F.push (dictOf [] 0)
  have N1 := N.push F (dictOf [] 0)
  refine wpAny_bind (wpAny_alloc' (wpAny_bind (wpAny_update' (Heap.get?_push_of_some _ Nx.1) (wpAny_pure (a := some hp.objs.size) ?_))))
  obtain ⟨F2, N2⟩ := news_upd (pre := [(hp.objs.size, dictOf [] 0)]) (post := rest) (o' := excObj C t (some hp.objs.size)) (f := fun o => { cls := o.cls, dict := some hp.objs.size, data := o.data, slots := o.slots }) F1 N1
    (fun p hp' => by rw [List.mem_singleton.mp hp']; exact Nat.ne_of_gt hlt) hne rfl rfl
  have Nd := N2 (hp.objs.size, dictOf [] 0) (.head _)
  have Nx2 := N2 (x, excObj C t (some hp.objs.size)) (.tail _ (.head _))
  have hdn : ∀ p ∈ rest, p.1 ≠ x ∧ p.1 ≠ hp.objs.size := fun p hp' => ⟨hne p hp', Nat.ne_of_lt (Heap.lt_size (N p (.tail _ hp')).1)⟩
  refine put_dict (s := ⟨_, g, d, tk + 1, os⟩) Nd.1 rfl e hz fun h' hs D' => h hp.objs.size h' (same_fr F2 hs Nd.2.1 Nd.2.2) (fun p hp' => ?_) hdn (Nat.ne_of_gt hlt)
  rcases List.mem_cons.mp hp' with rfl | hp'
  · exact ⟨(hs.2 x (Nat.ne_of_lt hlt)).trans Nx2.1, Nx2.2⟩
  · rcases List.mem_cons.mp hp' with rfl | hp'
    · exact ⟨D', Nd.2⟩
    · have Np := N2 p (.tail _ (.tail _ hp'))
      exact ⟨(hs.2 p.1 (hdn p hp').2).trans Np.1, Np.2⟩

theorem ns_some_of {h : Heap} {Nn : Addr} {mn : Str → Option Value} {n : Str} {v : Value} (X : K.In h) (G : h.Ns Nn mn) (e : nsIn K Nn n = some (some v)) : mn n = some v := by
  obtain ⟨o, es, ep, ho, hd, _, hf⟩ := G
  unfold nsIn at e
  split at e
  · rename_i c d es' n' sl q
    have := X _ _ q
    rw [ho] at this
    cases this
    cases hd
    split at e
    · rename_i en he
      rw [← hf]
      unfold nsFind findBy
      rw [← Array.find?_toList, he]
      exact Option.some.inj e
    · split at e <;> cases e
  · cases e

section
variable {nm q : Str} {Nn fI : Addr} {bs : List Value} {hdct : Bool} {sn : List Str} {sub : List Value} {ab : Bool} {col : Option Bool} {dd : Option Addr} {k0 k1 k2 k3 k5 : Option Value} {B newId initId : String}
theorem call_excls {pos : List Value} {E : Value → Shared → Prop} {Q : Value → Shared → Prop} (F : Fr h₀ L s.heap m) (X₀ : K.In h₀) (N : News h₀ L s.heap news)
    (hC : K.lookup C = some (excClassObj nm q C Nn bs bm hdct sn sub ab col dd k0 k1 k2 k3 k5 newId)) (FB : ExcBaseFacts B newId initId bm)
    (hns : nsOkIn K Nn = true) (hi : nsIn K Nn "__init__" = some (some (.ref fI))) (hf : isFn K (.ref fI) = true) (hz : pos.length ≤ 100)
    (h : ∀ e t h', Fr h₀ L h' m → News h₀ L h' ((e, excObj C t none) :: (t, tupOf (List.toArray pos) 0) :: news) → (∀ p ∈ (t, tupOf (List.toArray pos) 0) :: news, p.1 ≠ e) →
      codeAny (model prog w) (A.under (.builtin "type.__call__" ⟨.ref C :: pos, []⟩)) (.call (.ref fI) ⟨.ref e :: pos, []⟩) (InitBack e fun r s' => match r with | .ok (.ret v) => Q v s' | .ok _ => False | .error e => E e s') { s with heap := h' }) :
    wpAny (model prog w) A (call (.ref C) pos) Q E s := by
  have X := X₀.keeps F.keep
  have hn := Heap.Ns.of_isNs (isNs_of_in X hns)
  have hin := ns_some_of X hn hi
  obtain ⟨oI, hoI, hcI⟩ := Option.map_eq_some_iff.mp (beq_iff_eq.mp hf)
  obtain ⟨hp, g, d, tk, os⟩ := s
  refine wpAny_call_exc_init FB (X _ _ hC) hn hin (X _ _ hoI) hcI (fun h' e hm => ?_) (by rw [sizeLine_eq]; omega)
  obtain ⟨t, he, htn, ht⟩ := hm.there
  have fresh : ∀ b, hp.get? b = none → h₀.get? b = none := fun b hb => by
    cases hq : h₀.get? b with
    | none => rfl
    | some o' => have := F.keep b o' hq; dsimp only at this; rw [hb] at this; cases this
  have notL : ∀ b, hp.get? b = none → b ≠ L := fun b hb q => by
    obtain ⟨oL, _, _, hL, _⟩ := F.ns
    dsimp only at hL
    rw [← q, hb] at hL; cases hL
  have te : t ≠ e := fun q => by rw [q, he] at ht; cases ht
  refine wpAny_call (codeAny_mono (h e t h' (F.keeps hm.keeps) (fun p hp' => ?_) (fun p hp' => ?_)) fun r s' z => ?_)
  · rcases List.mem_cons.mp hp' with rfl | hp'
    · exact ⟨he, notL _ hm.new, fresh _ hm.new⟩
    · rcases List.mem_cons.mp hp' with rfl | hp'
      · exact ⟨ht, notL _ htn, fresh _ htn⟩
      · exact ⟨hm.keeps _ _ (N p hp').1, (N p hp').2⟩
  · rcases List.mem_cons.mp hp' with rfl | hp'
    · exact te
    · intro q
      have := (N p hp').1
      dsimp only at this
      rw [q, hm.new] at this; cases this
  · rcases r with e' | (v' | _ | _ | _) <;> exact z
end
end
end Xm0447Keep

namespace Xm0447Keep
open PySem PySem.Calls PyProof.Rows PySem.W
structure ExcFacts (h : Heap) (C : Addr) (bm : List Value) (newId : String) : Prop where
  obj : ∃ nm q N bs hdct sn sub ab col dd k0 k1 k2 k3 k5, h.get? C = some (excClassObj nm q C N bs bm hdct sn sub ab col dd k0 k1 k2 k3 k5 newId)
  base : bm.contains (.type "BaseException") = true

def RaisableO (E : Value → Shared → Prop) (v : Value) (s : Shared) : Prop :=
  ∃ e oe vs C bm newId, v = .ref e ∧ s.heap.get? e = some oe ∧ oe.cls = .ref C ∧ oe.data = .fields vs ∧ vs[1]? = some .none ∧ ExcFacts s.heap C bm newId ∧ E (.ref e) s

theorem Raise_obj {M : Model} {A : Around} {E : Value → Shared → Prop} {s : Shared} {env : Env} {x : Expr} {pos : Pos} {Q : Flow → Shared → Prop} (hh : A.handled = none)
    (h : wpAny M A (eval x env) (RaisableO E) E s) : wpAny M A (exec (.Raise (some x) none pos) env) Q E s := by
  show wpAny M A (do standAt pos; raiseStmt env (some (do let v ← eval x env; standAt pos; pure v)) none) Q E s
  refine wpAny_bind (wpAny_standAt ?_)
  unfold raiseStmt
  dsimp only
  refine wpAny_bind (wpAny_bind (wpAny_mono h (fun v s₁ h₁ => wpAny_bind (wpAny_standAt (wpAny_pure ?_))) fun _ _ x => x))
  obtain ⟨e, oe, vs, C, bm, newId, rfl, he, hcls, hd, h1, ⟨⟨nm, q, N, bs, hdct, sn, sub, ab, col, dd, k0, k1, k2, k3, k5, hC⟩, hbase⟩, hE⟩ := h₁
  have hcB : (Value.ref C :: bm).contains (.type "BaseException") = true := by rw [List.contains_cons, hbase, Bool.or_true]
  obtain ⟨hp, g, d, tk, os⟩ := s₁
  obtain ⟨oc, od, oda, osl⟩ := oe
  dsimp only at hcls hd he hC
  subst hcls hd
  repeat (first | with_reducible refine wpAny_loadPart_at he ?_ | with_reducible refine wpAny_loadPart_at hC ?_ | (with_reducible refine wpAny_isSubtype_exc hC ?_; rw [hcB]) | (with_reducible refine wpAny_field he rfl h1 ?_) | wp_step)
  exact wpAny_raiseNew_none hh hE

def TracedD (h B : Heap) (e C dx : Addr) (fl : Value) : Prop :=
  ∃ oe vs T oT ts, h.get? e = some oe ∧ (oe.cls = .ref C ∧ oe.dict = some dx) ∧ oe.data = .fields vs ∧ vs[1]? = some (.ref T) ∧ B.get? T = none ∧ T ≠ e ∧ h.get? T = some oT ∧ oT.data = .fields ts ∧ ts[3]? = some fl

structure FlyD (B : Heap) (l : List Env) (e C dx : Addr) (fl : Value) (h : Heap) : Prop where
  stays : B.StaysIn h
  fresh : B.get? e = none
  frames : h.FunFrames B l
  traced : TracedD h B e C dx fl

section
variable {M : Model} {A : Around} {E : Value → Shared → Prop} {s : Shared} {B : Heap} {env : Env} {outer l : List Env} {L e C dx : Addr} {oe : Obj} {vs : Array Value} {fl head : Value} {hadNext : Bool} {Q : Unit → Shared → Prop}

theorem entryD (hfr : A.frames = some (env :: outer)) (hl : s.heap.FunFrames B (env :: outer)) (hf : env.frame = some L) (he : s.heap.get? e = some oe) (hcls : oe.cls = .ref C) (hdx : oe.dict = some dx)
    (hkb : B.StaysIn s.heap) (hen : B.get? e = none) (hd : oe.data = .fields vs) (hsz : 1 < vs.size)
    (h : ∀ h', FlyD B (env :: outer) e C dx (rawInt L) h' → s.heap.UpToSlots h' → Q () { s with heap := h' }) :
    wpAny M A (do let a ← frameOf env; let pl ← entryPlaceOf L hadNext; let b ← EntryCells.newEntry head a .none (rawInt L) .none pl; setField (.ref e) 1 b) Q E s := by
  have hene : e ∉ (env :: outer).filterMap (·.frame) := fun hm => by
    obtain ⟨_, o, ho, hnf⟩ := hl.mem hm
    rw [he] at ho; injection ho with ho; subst ho; exact hnf vs hd
  refine wpAny_bind (wpAny_frameOf_fun hfr hl hf fun h₁ hs₁ => ?_)
  refine wpAny_bind (wpAny_entryPlaceOf fun pl hpl => ?_)
  unfold EntryCells.newEntry newFields
  refine wpAny_bind (wpAny_newObj_type ?_ (hpl.sizeOk5 _ _ _ _ _))
  have he₁ : h₁.get? e = some oe := (hs₁.2.1 e hene).trans he
  have kb₁ : B.StaysIn h₁ := fun b o hbo => (hs₁.2.1 b fun hm => by rw [(hl.mem hm).1] at hbo; cases hbo).trans (hkb b o hbo)
  have he₂ := Heap.get?_push_of_some (h := h₁) { cls := .type "traceback", dict := none, data := .fields ([head, .ref L, .none, rawInt L, .none] ++ (if pl.isEmpty then List.replicate 6 Value.none else pl)).toArray } he₁
  refine wpAny_setField he₂ hd hsz (h _ ?_ ?_)
  · have hTe : h₁.objs.size ≠ e := Nat.ne_of_gt (Heap.lt_size he₁)
    have hd₃ := Obj.data_mapFields hd (·.setIfInBounds 1 (Value.ref h₁.objs.size))
    have he₃ := Heap.get?_update_self (Obj.mapFields (·.setIfInBounds 1 (Value.ref h₁.objs.size))) he₂ (Obj.isFreed_of_fields hd₃)
    have hT₃ := (Heap.get?_update_other (h₁.push { cls := .type "traceback", dict := none, data := .fields ([head, .ref L, .none, rawInt L, .none] ++ (if pl.isEmpty then List.replicate 6 Value.none else pl)).toArray })
      (Obj.mapFields (·.setIfInBounds 1 (Value.ref h₁.objs.size))) (Ne.symm hTe)).trans (Heap.get?_push_size h₁ rfl)
    have keep : ∀ b o, b ≠ e → h₁.get? b = some o →
        ((h₁.push { cls := .type "traceback", dict := none, data := .fields ([head, .ref L, .none, rawInt L, .none] ++ (if pl.isEmpty then List.replicate 6 Value.none else pl)).toArray }).update e (Obj.mapFields (·.setIfInBounds 1 (Value.ref h₁.objs.size)))).get? b = some o :=
      fun b o hbe hb => by rw [Heap.get?_update_other _ _ (Ne.symm hbe)]; exact Heap.get?_push_of_some _ hb
    refine ⟨fun b o hbo => keep b o (fun q => by rw [q, hen] at hbo; cases hbo) (kb₁ b o hbo), hen, hl.of_keeps fun b o hb hnf => ?_, ?_⟩
    · obtain ⟨sl, hs⟩ := hs₁.2.2 b o hb
      exact ⟨_, keep b _ (fun q => by rw [q, he] at hb; injection hb with hb; subst hb; exact hnf vs hd) hs, rfl⟩
    · refine ⟨_, _, h₁.objs.size, _, _, he₃, ⟨(Obj.cls_mapFields _ _).trans hcls, ?_⟩, hd₃, by simp [hsz], kb₁.fresh, hTe, hT₃, rfl, by first | (simp; done) | (rcases hpl with rfl | ⟨_, _, _, _, _, _, _, rfl⟩ <;> simp)⟩
      obtain ⟨oc, od, oda, osl⟩ := oe
      dsimp only at hd hdx
      subst hd
      exact hdx
  · intro b o hb hnf
    obtain ⟨sl, hs⟩ := hs₁.2.2 b o hb
    refine ⟨sl, ?_⟩
    rw [Heap.get?_update_other _ _ (fun q : e = b => by rw [← q, he] at hb; injection hb with hb; subst hb; exact hnf vs hd)]
    exact Heap.get?_push_of_some _ hs

theorem flightD (hF : FlyD B l e C dx fl s.heap) (h : ∀ h', FlyD B l e C dx .none h' → s.heap.UpToSlots h' → Q () { s with heap := h' }) : wpAny M A (setFlight (.ref e) none) Q E s := by
  obtain ⟨hkb, hen, hl, oe, vs, T, oT, ts, he, hcls, hd, h1, hnT, hTe, hT, hdT, h3⟩ := hF
  have hsz3 : 3 < ts.size := (Array.getElem?_eq_some_iff.mp h3).1
  have other : ∀ b, b ≠ T → (s.heap.update T (Obj.mapFields (·.setIfInBounds 3 ((none : Option Addr).elim Value.none fun f => rawInt f)))).get? b = s.heap.get? b :=
    fun b hb => Heap.get?_update_other _ _ (Ne.symm hb)
  have noRecord : ∀ b o, s.heap.get? b = some o → (∀ vs, o.data ≠ .fields vs) → b ≠ T := fun b o hb hnf q => by
    rw [q, hT] at hb; injection hb with hb; subst hb; exact hnf ts hdT
  unfold setFlight
  refine wpAny_bind (wpAny_field he hd h1 ?_)
  rw [if_pos (show (Value.ref T != Value.none) = true from by simp)]
  refine wpAny_setField hT hdT hsz3 (h _ ⟨fun b o hbo => (other b fun q => by rw [q, hnT] at hbo; cases hbo).trans (hkb b o hbo), hen,
    hl.of_keeps fun b o hb hnf => ⟨o, (other b (noRecord b o hb hnf)).trans hb, rfl⟩, ?_⟩ fun b o hb hnf => ⟨o.slots, (other b (noRecord b o hb hnf)).trans hb⟩)
  exact ⟨oe, vs, T, _, _, (other e (Ne.symm hTe)).trans he, hcls, hd, h1, hnT, hTe, Heap.get?_update_self _ hT (Obj.isFreed_of_fields (Obj.data_mapFields hdT _)), Obj.data_mapFields hdT _, by simp [hsz3]⟩

theorem noteD_on (hfr : A.frames = some (env :: outer)) (hf : env.frame = some L) (hF : FlyD B (env :: outer) e C dx .none s.heap)
    (h : ∀ h', FlyD B (env :: outer) e C dx (rawInt L) h' → s.heap.UpToSlots h' → Q () { s with heap := h' }) : wpAny M A (noteFrame (.ref e) env) Q E s := by
  obtain ⟨hkb, hen, hl, oe, vs, T, oT, ts, he, hcls, hd, h1, hnT, hTe, hT, hdT, h3⟩ := hF
  unfold noteFrame
  simp only [hf]
  refine wpAny_bind (wpAny_field he hd h1 ?_)
  rw [if_pos (show (Value.ref T != Value.none) = true from by simp)]
  refine wpAny_bind (wpAny_field hT hdT h3 ?_)
  rw [if_neg (show ¬ ((Value.none == rawInt L) = true) from by simp [rawInt])]
  refine wpAny_bind (wpAny_setField hT hdT (Array.getElem?_eq_some_iff.mp h3).1 ?_)
  have other : ∀ b, b ≠ T → (s.heap.update T (Obj.mapFields (·.setIfInBounds 3 Value.none))).get? b = s.heap.get? b := fun b hb => Heap.get?_update_other _ _ (Ne.symm hb)
  have noRecord : ∀ b o, s.heap.get? b = some o → (∀ vs, o.data ≠ .fields vs) → b ≠ T := fun b o hb hnf q => by
    rw [q, hT] at hb; injection hb with hb; subst hb; exact hnf ts hdT
  have up : s.heap.UpToSlots (s.heap.update T (Obj.mapFields (·.setIfInBounds 3 Value.none))) := fun b o hb hnf => ⟨o.slots, (other b (noRecord b o hb hnf)).trans hb⟩
  exact entryD hfr (hl.of_keeps fun b o hb hnf => ⟨o, (other b (noRecord b o hb hnf)).trans hb, rfl⟩) hf ((other e (Ne.symm hTe)).trans he) hcls.1 hcls.2
    (fun b o hbo => (other b fun q => by rw [q, hnT] at hbo; cases hbo).trans (hkb b o hbo)) hen hd (Array.getElem?_eq_some_iff.mp h1).1 fun h' k1 k2 => h h' k1 (up.trans k2)

theorem leaveD_first (hfr : A.frames = some (env :: outer)) (hf : env.frame = some L) (hl : s.heap.FunFrames B (env :: outer)) (he : s.heap.get? e = some oe) (hcls : oe.cls = .ref C) (hdx : oe.dict = some dx)
    (hkb : B.StaysIn s.heap) (hen : B.get? e = none) (hd : oe.data = .fields vs) (h1 : vs[1]? = some .none)
    (h : ∀ h', FlyD B outer e C dx .none h' → s.heap.UpToSlots h' → Q () { s with heap := h' }) : wpAny M A (leaving env (.ref e)) Q E s := by
  unfold leaving noteFrame
  simp only [hf]
  refine wpAny_bind (wpAny_bind (wpAny_field he hd h1 ?_))
  rw [if_neg (by decide)]
  refine entryD hfr hl hf he hcls hdx hkb hen hd (Array.getElem?_eq_some_iff.mp h1).1 fun h' k1 k2 => ?_
  refine flightD (s := { s with heap := h' }) k1 fun h'' q1 q2 => h h'' ⟨q1.stays, q1.fresh, ?_, q1.traced⟩ (k2.trans q2)
  obtain ⟨_, _, r⟩ := q1.frames
  exact r
end
end Xm0447Keep

namespace Xm0447Keep
open PySem PySem.Calls PyProof.Rows PySem.W

def RaisedD (base : Heap) (l : List Env) (e C dx : Addr) (news : List (Addr × Obj)) (h : Heap) : Prop :=
  ∃ B, base.StaysIn B ∧ (∀ q ∈ news, B.get? q.1 = some q.2 ∧ base.get? q.1 = none) ∧ FlyD B l e C dx .none h

theorem leave_raiseD {M : Model} {A : Around} {E : Value → Shared → Prop} {s' : Shared} {base g : Heap} {outer : List Env} {L a e t C dx : Addr} {m : Str → Option Value} {name : Str} {scope : Scope} {cd : Value} {Q : Unit → Shared → Prop} {news : List (Addr × Obj)}
    (K : Below A base outer g) (F : Fr g L s'.heap m) (N : News g L s'.heap ((e, excObj C t (some dx)) :: news)) (hne : ∀ p ∈ news, p.1 ≠ e)
    (hQ : ∀ h', RaisedD base outer e C dx news h' → g.UpToSlots h' → Q () { s' with heap := h' }) (hk : scope.kind = .function := by rfl) :
    wpAny M (A.deeper (envOf name scope L a cd)) (leaving (envOf name scope L a cd) (.ref e)) Q E s' := by
  have K' := K.push (name := name) (a := a) (cd := cd) F hk
  have Ne := N (e, excObj C t (some dx)) (.head _)
  have hin : ∀ env ∈ (envOf name scope L a cd :: outer), ∀ b, env.frame = some b → b ∈ e :: (envOf name scope L a cd :: outer).filterMap (·.frame) := fun env he b hb => .tail _ (List.mem_filterMap.mpr ⟨env, he, hb⟩)
  have st : base.StaysIn (hideAll s'.heap (e :: (envOf name scope L a cd :: outer).filterMap (·.frame))) := fun b o q => hideAll_get _ (K'.stays b o q) fun hm => by
    rcases List.mem_cons.mp hm with rfl | hm
    · rw [fresh_of_stays K.stays Ne.2.2] at q; cases q
    · rw [(K'.frames.mem hm).1] at q; cases q
  have hl : ∀ q ∈ news, (hideAll s'.heap (e :: (envOf name scope L a cd :: outer).filterMap (·.frame))).get? q.1 = some q.2 ∧ base.get? q.1 = none := fun q hq => by
    have Nq := N q (.tail _ hq)
    refine ⟨hideAll_get _ Nq.1 fun hm => ?_, fresh_of_stays K.stays Nq.2.2⟩
    rcases List.mem_cons.mp hm with h1 | hm
    · exact hne q hq h1
    · obtain ⟨env, he, hf⟩ := List.mem_filterMap.mp hm
      rcases List.mem_cons.mp he with rfl | he
      · exact Nq.2.1 (Option.some.inj hf).symm
      · obtain ⟨o, ho, _⟩ := (K.frames.mem (List.mem_filterMap.mpr ⟨env, he, hf⟩)).2
        rw [Nq.2.2] at ho; cases ho
  exact leaveD_first (oe := excObj C t (some dx)) K'.stack rfl (funFrames_hide K'.frames hin) Ne.1 rfl rfl (fun b o q => of_hideAll _ q) (hideAll_none _ (.head _)) rfl rfl fun h' k1 k2 =>
    hQ h' ⟨_, st, hl, k1⟩ ((Heap.UpToSlots.of_keeps F.keep).trans k2)

theorem caughtD {prog : Program} {w : World} {A₀ : Around} {E : Value → Shared → Prop} {s' : Shared} {h₀ h : Heap} {outer : List Env} {L a e C dx : Addr} {m : Str → Option Value} {name : Str} {scope : Scope} {cd : Value}
    {n : Str} {b₀ : Stmt} {suite : List Stmt} {pos np : Pos} {rest : List ExceptHandler} {Q : Flow → Shared → Prop} {news : List (Addr × Obj)} {KF : Frag} {bm : List Value} {newId : String}
    {p : Program} {loose : List Str} {mg mb : Str → Option Value} {x : Str}
    (K : Below A₀ h₀ outer h₀) (F : Fr h₀ L h m) (hsm : h.UpToSlots s'.heap) (R : RaisedD h₀ (envOf name scope L a cd :: outer) e C dx news s'.heap)
    (X : KF.In h₀) (T : TopRead p loose mg mb h₀) (ex : nsIn KF mainGlobals x = some (some (.ref C))) (hC : ExcFacts h₀ C bm newId)
    (k : ∀ h' tk oe ws, Fr h₀ L h' (fun y => if y = n then some (.ref e) else m y) → News h₀ L h' ((e, oe) :: news) → oe.cls = .ref C → oe.dict = some dx → oe.data = .fields ws →
      wpAny (model prog w) ((A₀.deeper (envOf name scope L a cd)).mark (some (.ref e))) (execs (b₀ :: suite) (envOf name scope L a cd))
        (fun f s₄ => wpAny (model prog w) (A₀.deeper (envOf name scope L a cd)) (do bindName (envOf name scope L a cd) n .none; unbindBehindTheSuite (envOf name scope L a cd) n pos) (fun _ s₅ => Q f s₅) E s₄)
        (AsSuiteRaised (model prog w) ((A₀.deeper (envOf name scope L a cd)).mark (some (.ref e))) (envOf name scope L a cd) n pos (notedBy (model prog w) ((A₀.deeper (envOf name scope L a cd)).mark (some (.ref e))) (envOf name scope L a cd) (cameBackBy (model prog w) (A₀.deeper (envOf name scope L a cd)) (envOf name scope L a cd) E)))
        { s' with heap := h', toks := tk })
    (hk : scope.kind = .function := by rfl) (hlo : (envOf name scope L a cd).kindOf n = some .local := by rfl) (hx : (envOf name scope L a cd).kindOf x = some .globalImplicit := by rfl) (hd : (x == ("__debug__" : Str)) = false := by decide) :
    wpAny (model prog w) (A₀.deeper (envOf name scope L a cd)) (noteFrame (.ref e) (envOf name scope L a cd))
      (fun _ s₂ => wpAny (model prog w) (A₀.deeper (envOf name scope L a cd)) (setFlight (.ref e) none) (fun _ s₃ =>
        wpAny (model prog w) (A₀.deeper (envOf name scope L a cd)) (handleBy (.ref e) (envOf name scope L a cd) (.ExceptHandler (some (.Name x np)) (some n) (b₀ :: suite) pos :: rest)) Q E s₃) E s₂) E s' := by
  obtain ⟨B, hB, hl, hfl⟩ := R
  have hL : B.get? L = none := by
    obtain ⟨_, ⟨L', _, hf, hn', _⟩, _⟩ := hfl.frames
    obtain rfl : L = L' := Option.some.inj hf
    exact hn'
  have heL : e ≠ L := fun q => by
    obtain ⟨oe, vs, _, _, _, he, _, hd', _⟩ := hfl.traced
    obtain ⟨oL, es, ep, hoL, hdL, _⟩ := (hsm.ns F.ns)
    rw [q, hoL] at he
    cases he
    rw [hdL] at hd'; cases hd'
  have he0 : h₀.get? e = none := fresh_of_stays hB hfl.fresh
  refine noteD_on (Around.frames_deeper K.stack) rfl hfl fun h₄ hf₄ hsm₄ => ?_
  refine flightD (s := { s' with heap := h₄ }) hf₄ fun h₅ hf₅ hsm₅' => ?_
  have hsm₅ := hsm₄.trans hsm₅'
  have F₅ := F.of_stays (fun b o q => hf₅.stays b o (hB b o q)) (hsm.trans hsm₅)
  refine wpAny_handleBy_cons (codeAny_handlers_test (name_K F₅ X T ex ?_ hk hx hd)) (by intro q; cases q)
  obtain ⟨⟨nm, q, Nn, bs, hdct, sn, sub, ab, col, dd, k0, k1, k2, k3, k5, hC'⟩, hbase⟩ := hC
  have hC₅ := F₅.keep _ _ hC'
  obtain ⟨oe, vs, _, _, _, he, hcls, _⟩ := hf₅.traced
  refine wpAny_excMatches_sub_self hC₅ he hcls.1 hbase (codeAny_handlers_suite_as ?_)
  refine flightD (s := { s' with heap := h₅ }) hf₅ fun h₆ hf₆ hsm₆ => ?_
  have F₆ := F.of_stays (fun b o q => hf₆.stays b o (hB b o q)) ((hsm.trans hsm₅).trans hsm₆)
  obtain ⟨oe', ws, _, _, _, he', hcls', hd', _⟩ := hf₆.traced
  have N₆ : News h₀ L h₆ ((e, oe') :: news) := fun q hq => by
    rcases List.mem_cons.mp hq with rfl | hq
    · exact ⟨he', heL, he0⟩
    · exact ⟨hf₆.stays _ _ (hl q hq).1, (fun z => by have := (hl q hq).1; rw [z, hL] at this; cases this), (hl q hq).2⟩
  exact stN F₆ N₆ (fun h₇ F₇ N₇ => k h₇ _ oe' ws F₇ N₇ hcls'.1 hcls'.2 hd') hk hlo
end Xm0447Keep

namespace Xm0447Keep
open PySem PySem.Calls PyProof.Rows PySem.W Builtin Builtin.ObjectAttr
theorem ga_kind : builtinKind "BaseException.__getattribute__" = some .slot := by decide +kernel
theorem ga_split : splitId "BaseException.__getattribute__" = some ("BaseException", "__getattribute__") := by decide +kernel
theorem ga_ne : (Value.builtin "BaseException.__getattribute__" == Value.builtin "object.__getattribute__") = false := by decide +kernel
theorem str_handed (x : Str) (t : Tok) : handedOut (.str x t) = pure (.str x t) := rfl

theorem getE {prog : Program} {w : World} {A : Around} {E : Value → Shared → Prop} {s : Shared} {K : Frag} {C e dx L : Addr} {h₀ : Heap} {m : Str → Option Value} {news : List (Addr × Obj)} {cd : ClassData} {bm : List Value} {name : Str} {v : Value} {expr : Bool} {Q : Value → Shared → Prop}
    {oe : Obj} {ws : Array Value} {es : List DictEntry} {n : Nat}
    (F : Fr h₀ L s.heap m) (X₀ : K.In h₀) (N : News h₀ L s.heap news) (he : (e, oe) ∈ news) (hdx : (dx, dictOf es n) ∈ news) (hc : oe.cls = .ref C) (hd : oe.dict = some dx) (hdat : oe.data = .fields ws)
    (S : ExcShape K C cd bm) (hbase : bm.contains (.type "BaseException") = true) (ga : findIn K (.ref C) "__getattribute__" = some (some (.builtin "BaseException.__getattribute__"))) (gh : findIn K (.ref C) "__getattr__" = some none)
    (ha : findIn K (.ref C) name = some none) (hl : getL name es = some (some v)) (hv : handedOut v = pure v) (h : Q v { s with toks := s.toks + 1 }) : wpAny (model prog w) A (getAttr (.ref e) name expr) Q E s := by
  have X := X₀.keeps F.keep
  have I : InstAt s.heap e oe C (some (dictOf es n)) := ⟨N.get he, hc, by unfold notCls; rw [hdat], by rw [hd]; exact N.get hdx⟩
  have ne : cd.mro.isEmpty = false := by rw [S.mro]; rfl
  have FB := PySem.F.attr_Exception
  have sub : Looks (model prog w) s.heap (isInstance (.ref e) (.type "BaseException")) true := I.type.andThen (looks_mroIn X (by
    unfold mroIn; rw [S.cls, Option.bind_some, if_neg (by rw [ne]; decide), S.mro, List.contains_cons, hbase, Bool.or_true]))
  have fnd : Looks (model prog w) s.heap (find (.ref e) (.ref C) name) (.value v) := looks_find X I (by
    unfold findObj
    rw [S.cls, Option.bind_some, ha, Option.bind_some]
    have ho : PySem.W.ownOf cd (some (dictOf es n)) name = some (some v) := by unfold PySem.W.ownOf; rw [if_pos S.dict]; exact hl
    simp only [Option.bind_some, ho])
  obtain ⟨hp, g, d, tk, os⟩ := s
  dsimp only at X I sub fnd
  unfold getAttr getAttrBy
  refine wpAny_bind (wpAny_mkText (wpAny_holding (wpAny_bind (I.type _ _ _ _ (fun _ _ z => z) (wpAny_bind (looks_findIn X ga _ _ _ _ (fun _ _ z => z) ?_))))))
  have hx1 : (onTheHeap (Value.ref C) && Value.builtin "BaseException.__getattribute__" == Value.builtin "object.__getattribute__") = false := by rw [ga_ne]; rfl
  dsimp only
  rw [hx1]
  show wpAny _ _ (getAttrByItsOwn _ _ _ _ _ _) _ _ _
  unfold getAttrByItsOwn hookBefore
  refine wpAny_bind (looks_findIn X gh _ _ _ _ (fun _ _ z => z) (wpAny_bind (wpAny_attempt (wpAny_holding ?_))))
  unfold callGetattribute
  rw [if_neg (by cases expr <;> exact Bool.false_ne_true)]
  unfold boundAndCalled
  rw [FB.ga.bind]
  refine wpAny_bind (wpAny_pure (wpAny_call ?_))
  refine codeAny_call_builtin FB.ga.plain PySem.F.entry_bexc_ga (@check_slot (model prog w) _ _ ⟨hp, g, d, tk + 1, os⟩ "BaseException.__getattribute__" "BaseException" "__getattribute__" (.ref e) [.str name tk] [] _ ga_kind ga_split sub (PySem.F.args_bexc_ga (.ref e) (.str name tk)) ?_)
  unfold Builtin.«object.__getattribute__»
  refine wpAny_bind (wpAny_pure (wpAny_bind (wpAny_pure (wpAny_bind (I.type _ _ _ _ (fun _ _ z => z) (wpAny_bind (fnd _ _ _ _ (fun _ _ z => z) ?_)))))))
  refine wpAny_pure ?_
  show wpAny _ _ (handedOut v) _ _ _
  rw [hv]
  exact wpAny_pure h
end Xm0447Keep

namespace Xm0447Keep
open PySem PySem.Calls PyProof.Rows PySem.W
theorem eqRep {prog : Program} {w : World} {A : Around} {E : Value → Shared → Prop} {s : Shared} {h₀ : Heap} {L a b : Addr} {news : List (Addr × Obj)} {v : Value} {ws ws2 : List Value} {n1 n2 k1 k2 : Nat} {Q : Value → Shared → Prop}
    (N : News h₀ L s.heap news) (h1 : (a, listOf (List.toArray ws) n1) ∈ news) (h2 : (b, listOf (List.toArray ws2) n2) ∈ news) (r1 : RepOf ws v k1) (r2 : RepOf ws2 v k2) (hk : k1 = k2) (hu : A.units + 64 < cLine)
    (h : Q (.bool true) s) : wpAny (model prog w) A (compareOp .Eq (.ref a) (.ref b)) Q E s := by
  subst hk
  unfold RepOf at r1 r2
  subst r1 r2
  have q : SeqAt.RcAt A s (.ref a) (.ref b) ((List.range (List.replicate k1 v).toArray.size).all fun _ => true) :=
    SeqAt.RcAt.lists (News.isList N h1) (News.isList N h2) rfl (by omega) fun j _ _ => SeqAt.EqAt.same _
  refine cmp_ofEq (q prog w E Q ?_)
  have e : ((List.range (List.replicate k1 v).toArray.size).all fun _ => true) = true := by simp
  rw [e]
  exact h
theorem rep_push {ws : List Value} {v : Value} {k : Nat} (h : RepOf ws v k) : ∃ ws', RepOf ws' v (k + 1) ∧ (List.toArray ws).push v = List.toArray ws' := by
  refine ⟨ws ++ [v], ?_, by simp⟩
  unfold RepOf at h ⊢
  rw [h, List.replicate_succ']
theorem appendL {prog : Program} {w : World} {A : Around} {E : Value → Shared → Prop} {s : Shared} {h₀ : Heap} {L D : Addr} {m : Str → Option Value} {news news' : List (Addr × Obj)} {v : Value} {x : Int} {ws : List Value} {n : Nat} {Q : Value → Shared → Prop}
    (F : Fr h₀ L s.heap m) (N : News h₀ L s.heap news) (hr : RepOf ws v x.toNat) (hx : x ≤ 200) (U : Upd D (listOf (List.toArray ws) n) (listOf ((List.toArray ws).push v) (n + 1)) news news')
    (h : ∀ h', Fr h₀ L h' m → News h₀ L h' news' → Q .none { s with heap := h' }) : wpAny (model prog w) A (call (.builtin "list.append") [.ref D, v]) Q E s :=
  append_K F N U h (by rw [List.size_toArray, hr.length, sizeLine_eq]; omega)

theorem ne_cons {x dx : Addr} {o : Obj} {rest : List (Addr × Obj)} (h : ∀ p ∈ rest, p.1 ≠ x ∧ p.1 ≠ dx) (hd : dx ≠ x) : ∀ p ∈ (dx, o) :: rest, p.1 ≠ x := fun p hp => by
  rcases List.mem_cons.mp hp with rfl | hp
  · exact hd
  · exact (h p hp).1
theorem excFacts_of {K : Frag} {h : Heap} {C : Addr} {bm : List Value} {newId : String} {nm q : Str} {Nn : Addr} {bs : List Value} {hdct : Bool} {sn : List Str} {sub : List Value} {ab : Bool} {col : Option Bool} {dd : Option Addr} {k0 k1 k2 k3 k5 : Option Value}
    (X : K.In h) (hC : K.lookup C = some (excClassObj nm q C Nn bs bm hdct sn sub ab col dd k0 k1 k2 k3 k5 newId)) (hb : bm.contains (.type "BaseException") = true) : ExcFacts h C bm newId :=
  ⟨⟨_, _, _, _, _, _, _, _, _, _, _, _, _, _, _, X _ _ hC⟩, hb⟩
theorem raisable_of {h₀ : Heap} {L : Addr} {m : Str → Option Value} {s : Shared} {news : List (Addr × Obj)} {e C t : Addr} {od : Option Addr} {E : Value → Shared → Prop} {bm : List Value} {newId : String}
    (F : Fr h₀ L s.heap m) (N : News h₀ L s.heap news) (hm : (e, excObj C t od) ∈ news) (X : ExcFacts h₀ C bm newId) (h : E (.ref e) s) : RaisableO E (.ref e) s := by
  obtain ⟨⟨nm, q, Nn, bs, hdct, sn, sub, ab, col, dd, k0, k1, k2, k3, k5, hC⟩, hb⟩ := X
  exact ⟨e, _, _, C, bm, newId, rfl, N.get hm, rfl, rfl, rfl, ⟨⟨_, _, _, _, _, _, _, _, _, _, _, _, _, _, _, F.keep _ _ hC⟩, hb⟩, h⟩
end Xm0447Keep

namespace Xm0447Keep
theorem pow_ten8 : (10 : Int) ^ Int.toNat 8 = 100000000 := by decide
theorem ite_yes {c : Prop} [Decidable c] {A B : Prop} (hc : c) (h : A) : if decide c = true then A else B := by rw [if_pos (decide_eq_true hc)]; exact h
theorem ite_no {c : Prop} [Decidable c] {A B : Prop} (hc : ¬ c) (h : B) : if decide c = true then A else B := by rw [if_neg (by rw [decide_eq_false hc]; exact Bool.false_ne_true)]; exact h
theorem ite_nyes {c : Prop} [Decidable c] {A B : Prop} (hc : c) (h : B) : if (!decide c) = true then A else B := by rw [if_neg (by rw [decide_eq_true hc]; exact Bool.false_ne_true)]; exact h
theorem ite_nno {c : Prop} [Decidable c] {A B : Prop} (hc : ¬ c) (h : A) : if (!decide c) = true then A else B := by rw [if_pos (by rw [decide_eq_false hc]; rfl)]; exact h
end Xm0447Keep

open Lean Elab Tactic Meta PySem PySem.Calls PyProof.Rows PySem.W
local macro_rules | `(tactic| walk_at "subscriptTail Name Slice ref ref") => `(tactic| (k_here; (with_reducible show wpAny _ _ (subscriptTail _ (PySem.Expr.Slice _ _ none _) (Value.ref _) (Value.ref _)) _ _ _); k_dflt (refine' kmk_slice_ints ?F ?N ?l ?p ?q ?i ?m ?c ?_ ?s ?t ?z; (case F => k_asm); (case N => k_asm); (case l => kmk_list); (case p => kmk_part); (case q => kmk_part); (case i => l_ints); (case m => first | exact kmk_from (by l_ints) (by kmk_sign) | exact kmk_upto (by l_ints) (by kmk_sign)); (case c => kmk_len); (case s => with_unfolding_all rfl); (case t => kmk_pure); (case z => kmk_size)); intro D' ws' h' F' N' l1 hI' hC' hL'; (try simp only [Int.reduceNeg, Int.neg_neg, Int.reduceToNat] at hI' hC' hL'); (try k_lt l1); (try k_sweep)))
local macro_rules | `(tactic| walk_at "subscriptTail List cons Slice ref ref") => `(tactic| (k_here; (refine kba_turn (value' := PySem.Expr.Name (PySem.Str.ofString "_") ⟨0, 0, 0, 0⟩) (fun _ => rfl) ?_)))
local macro_rules | `(tactic| walk_at "subscriptTail List cons BinOp ref int") => `(tactic| (k_here; (with_unfolding_all refine' Xm0447Keep.item_menu (lo := 0) (hi := 1000000) ?k1 ?k2 ?k3 ?k4 ?k5 ?k6 ?_; (case k1 => exact News.isList (by k_asm) (by k_mem)); (case k2 => l_ints); (case k3 => l_idx); (case k4 => l_idx); (case k5 => decide); (case k6 => decide); k_whole); intro g' t' hg0 hg1 hg2))
local macro_rules | `(tactic| walk_at "binaryOp Mult ref int") => `(tactic| (k_here; (with_reducible show wpAny _ _ (binaryOp Operator.Mult (Value.ref _) (Value.int _ _)) _ _ _); (refine' Xm0447Keep.mulT ?F ?N ?l ?a ?b ?c ?_; (case F => k_asm); (case N => k_asm); (case l => exact News.isTup (by k_asm) (by k_mem)); (case a => omega); (case b => omega); (case c => omega); k_whole); intro D' h' ws' hW' F' N' l1; (try k_lt l1); (try k_sweep)))
local macro_rules | `(tactic| walk_at "binaryOp Mult ref int") => `(tactic| (k_here; (with_reducible show wpAny _ _ (binaryOp Operator.Mult (Value.ref _) (Value.int _ _)) _ _ _); (refine' Xm0447Keep.mulL ?F ?N ?l ?a ?b ?_; (case F => k_asm); (case N => k_asm); (case l => exact News.isList (by k_asm) (by k_mem)); (case a => omega); (case b => omega); k_whole); intro D' h' ws' hW' F' N' l1; (try k_lt l1); (try k_sweep)))
local macro_rules | `(tactic| walk_at "binaryOp Mod int int") => `(tactic| (k_here; (with_reducible refine Xm0447Keep.mod_any ?k1 ?_); (case k1 => decide); intro z' t' hz0 hz1))
local macro_rules | `(tactic| walk_at "call builtin:len") => `(tactic| (k_here; (with_reducible show wpAny _ _ (call (Value.builtin "len") [Value.ref _]) _ _ _); (first
  | (refine' Xm0447Keep.lenL ?N ?l ?r ?a ?b ?_; (case N => k_asm); (case l => k_dflt k_mem); (case r => with_reducible assumption); (case a => omega); (case b => omega); k_whole)
  | (refine' Xm0447Keep.lenT ?N ?l ?r ?a ?b ?_; (case N => k_asm); (case l => k_dflt k_mem); (case r => with_reducible assumption); (case a => omega); (case b => omega); k_whole)); intro t'))
local macro_rules | `(tactic| walk_at "compareOp Eq ref ref") => `(tactic| (k_here; (with_reducible show wpAny _ _ (compareOp CmpOp.Eq (Value.ref _) (Value.ref _)) _ _ _); k_dflt (refine' Xm0447Keep.eqRep ?N ?a ?b ?r ?q ?k ?u ?_; (case N => k_asm); (case a => k_mem); (case b => k_mem); (case r => with_reducible assumption); (case q => with_reducible assumption); (case k => omega); (case u => ke_room); k_whole)))
local macro_rules | `(tactic| walk_at "call builtin:list.append") => `(tactic| (k_here; (with_reducible show wpAny _ _ (call (Value.builtin _) [Value.ref _, _]) _ _ _); (rename Xm0447Keep.RepOf _ _ _ => hWR); k_dflt (refine' Xm0447Keep.appendL ?F ?N hWR ?x ?U ?_; (case F => k_asm); (case N => k_asm); (case x => omega); (case U => k_upd); k_whole); intro h' F' N'; (obtain ⟨ws', hW', eW'⟩ := Xm0447Keep.rep_push hWR); (rw [eW'] at N'); clear eW'; (try k_sweep)))
local macro_rules | `(tactic| walk_at "exec Raise some none") => `(tactic| (k_here; (with_reducible show wpAny _ _ (exec (Stmt.Raise (some (Expr.Call _ _ _ _)) none _) _) _ _ _); k_dflt (refine' Xm0447Keep.Raise_obj ?h ?_; (case h => rfl))))
local macro_rules | `(tactic| walk_at "call ref") => `(tactic| (k_here; k_dflt (refine' Xm0447Keep.call_excls ?F ?X ?N ?C PySem.F.excBase_Exception ?a ?b ?c ?z ?_; (case F => k_asm); (case X => k_asm); (case N => k_asm); (case C => exact rfl); (case a => kernel_rfl); (case b => k_is); (case c => k_is); (case z => exact Nat.le_of_ble_eq_true rfl); k_whole); intro e' t' h' F' N' hne'; (try k_sweep); k_enter))
local macro_rules | `(tactic| walk_at "RaisableO ref") => `(tactic| (refine' Xm0447Keep.raisable_of ?F ?N ?m ?X ?_; (case F => k_asm); (case N => k_asm); (case m => k_mem); (case X => exact Xm0447Keep.excFacts_of (by k_asm) rfl rfl)))
local macro_rules | `(tactic| walk_at "binaryOp Pow int int") => `(tactic| (k_here; (with_reducible refine pow_int_small ?kb1 ?kb2 ?kb3 ?_); (case kb1 => decide); (case kb2 => decide); (case kb3 => decide); rw [Xm0447Keep.pow_ten8]))
local macro_rules | `(tactic| walk_at "ite") => `(tactic| (k_here; first | refine Xm0447Keep.ite_yes (by with_reducible assumption) ?_ | refine Xm0447Keep.ite_no (by with_reducible assumption) ?_ | refine Xm0447Keep.ite_nyes (by with_reducible assumption) ?_ | refine Xm0447Keep.ite_nno (by with_reducible assumption) ?_))
local macro_rules | `(tactic| walk_at "setAttr ref") => `(tactic| (k_here; k_dflt (refine' Xm0447Keep.setE0 ?F ?X ?N ?S ?t ?n ?e ?z ?_; (case F => k_asm); (case X => k_asm); (case N => k_asm); (case S => exact ⟨rfl, rfl, PySem.F.store_Exception.passes, rfl, by k_is, rfl⟩); (case t => k_is); (case n => k_asm); (case e => k_put); (case z => exact Nat.le_of_ble_eq_true rfl); k_whole); intro dx' h' F' N' hdn' hdx'; (try k_sweep)))
local macro_rules | `(tactic| walk_at "setAttr ref") => `(tactic| (k_here; k_dflt (refine' Xm0447Keep.setE1 ?F ?X ?N ?S ?t ?n ?x ?l ?e ?z ?_; (case F => k_asm); (case X => k_asm); (case N => k_asm); (case S => exact ⟨rfl, rfl, PySem.F.store_Exception.passes, rfl, by k_is, rfl⟩); (case t => k_is); (case n => k_asm); (case x => k_asm); (case l => k_get); (case e => k_put); (case z => exact Nat.le_of_ble_eq_true rfl); k_whole); intro h' F' N'; (try k_sweep)))
local macro_rules | `(tactic| walk_at "leaving ref") => `(tactic| (k_here; k_dflt (refine' Xm0447Keep.leave_raiseD ?K ?F ?N ?n ?_; (case N => k_asm); (case K => assumption); (case F => assumption); (case n => exact Xm0447Keep.ne_cons (by k_asm) (by k_asm)); k_whole); intro h' R' U'; (try dsimp only at R' U' ⊢)))
local macro_rules | `(tactic| walk_at "noteFrame ref") => `(tactic| (k_here; (rename Xm0447Keep.RaisedD _ _ _ _ _ _ _ => rkX); k_dflt (refine' Xm0447Keep.caughtD ?K ?F ?U rkX ?X ?T ?ex ?C ?_; (case U => assumption); (case F => assumption); (case K => assumption); (case X => k_asm); (case T => k_asm); (case ex => k_is); (case C => exact Xm0447Keep.excFacts_of (by k_asm) rfl rfl); k_whole); intro h' tk' oe' ws' F' N' c' d' q'; (try k_sweep)))
local macro_rules | `(tactic| walk_at "getAttr ref") => `(tactic| (k_here; (with_reducible show wpAny _ _ (getAttr (Value.ref _) _ _) _ _ _); k_dflt (refine' Xm0447Keep.getE ?F ?X ?N ?he ?hd ?c ?d ?q ?S ?b ?ga ?gh ?ha ?hl ?hv ?_; (case F => k_asm); (case X => k_asm); (case c => with_reducible assumption); (case d => with_reducible assumption); (case q => with_reducible assumption); (case N => k_asm); (case he => k_mem); (case hd => k_mem); (case S => exact ⟨rfl, rfl, PySem.F.store_Exception.passes, rfl, by k_is, rfl⟩); (case b => rfl); (case ga => k_is); (case gh => k_is); (case ha => k_is); (case hl => k_get); (case hv => rfl); k_whole)))

set_option maxHeartbeats 8000000 in
theorem PySem.Challenge.cw_xm0447_01_holds : PySem.Challenge.rw_xm0447_01.Holds := by
  open_k
