import PyProof.Rows.All
import Wide.All
import OpenK.AllK
import Wide.FinOn
import Lean
import PySem.Challenge.RW_pq1158_01
open PySem PySem.W PyProof.Rows
set_option Elab.async false
namespace Mine
set_option maxRecDepth 100000
set_option maxRecDepth 100000 in
set_option maxHeartbeats 8000000 in
open_top lawTop for PySem.Challenge.rw_pq1158_01

noncomputable abbrev P : Program := PySem.Challenge.rw_pq1158_01.row.prog
noncomputable abbrev KF (w : World) : Frag := lawTop.heap_39 w.params
noncomputable abbrev LS : List Str := looseW lawTop.view_39 [Str.ofString "SettingError"]
abbrev Led := List (Addr × Obj)

/-- what a contract's caller stands in -/
structure Here (w : World) (mean : ExcName → Option Value) (mg mb : Str → Option Value) (A₀ : Around) (base h₀ : Heap) (outer : List Env) (cs : Scope) (L : Addr) (m : Str → Option Value) (h : Heap) (led : Led) (dp un d : Nat) : Prop where
  B : Below A₀ base outer h₀
  F : Fr h₀ L h m
  X : (lawTop.heap_39 w.params).In h₀
  N : News h₀ L h led
  T : Top lawTop.view_39 LS mean mg mb h₀
  hk : cs.kind = .function
  hd : dp + d < recursionLimit
  hu : un + 8 * d < cLine

/-- what is handed on at a contract's end -/
abbrev Back (h₀ : Heap) (L : Addr) (m : Str → Option Value) (s : Shared) (R : Result → Shared → Prop) (v : Value) (led : Led) : Prop :=
  ∀ h' tk', Fr h₀ L h' m → News h₀ L h' led → R (.ok (.ret v)) { s with heap := h', toks := tk' }

abbrev tupOf (its : List Value) (n : Nat) : Obj := { cls := .type "tuple", data := .seq its.toArray n }

/-- the keys' hashes and marks of a row's dict -/
structure RK where
  (a b c d e : Int)
  (ta tb tc td te : Tok)
abbrev rowD (k : RK) (most moct things oct drop : Value) : Obj :=
  dictOf [⟨k.a, .str (Str.ofString "most") k.ta, most⟩, ⟨k.b, .str (Str.ofString "most_octets") k.tb, moct⟩, ⟨k.c, .str (Str.ofString "things") k.tc, things⟩,
    ⟨k.d, .str (Str.ofString "octets") k.td, oct⟩, ⟨k.e, .str (Str.ofString "dropped") k.te, drop⟩] 5

abbrev drD (k : RK) (quanta rows left at_ begun : Value) : Obj :=
  dictOf [⟨k.a, .str (Str.ofString "quanta") k.ta, quanta⟩, ⟨k.b, .str (Str.ofString "rows") k.tb, rows⟩, ⟨k.c, .str (Str.ofString "left") k.tc, left⟩,
    ⟨k.d, .str (Str.ofString "at") k.td, at_⟩, ⟨k.e, .str (Str.ofString "is_begun") k.te, begun⟩] 5


/-- the entry at d (of the same class) is now o -/
def setL (d : Addr) (o : Obj) (l : Led) : Led := l.map fun p => if p.1 = d ∧ p.2.cls = o.cls then (d, o) else p

theorem mem_setL_ne {a d : Addr} {o o' : Obj} {l : Led} (h : (a, o') ∈ l) (hne : a ≠ d) : (a, o') ∈ setL d o l :=
  List.mem_map.mpr ⟨_, h, if_neg fun q => hne q.1⟩
theorem mem_setL_cls {a d : Addr} {o o' : Obj} {l : Led} (h : (a, o') ∈ l) (hne : o'.cls ≠ o.cls) : (a, o') ∈ setL d o l :=
  List.mem_map.mpr ⟨_, h, if_neg fun q => hne q.2⟩
theorem mem_setL_self {d : Addr} {o₀ o : Obj} {l : Led} (h : (d, o₀) ∈ l) (hc : o₀.cls = o.cls) : (d, o) ∈ setL d o l :=
  List.mem_map.mpr ⟨_, h, if_pos ⟨rfl, hc⟩⟩
theorem mem_setL_or {a d : Addr} {o o' : Obj} {l : Led} (h : (a, o') ∈ l) (hne : a ≠ d ∨ o'.cls ≠ o.cls) : (a, o') ∈ setL d o l := hne.elim (mem_setL_ne h) (mem_setL_cls h)
/-- what a change leaves: all that does not lie at an address of Own -/
def Later (Own : Addr → Prop) (l l' : Led) : Prop := ∀ p ∈ l, ¬ Own p.1 → p ∈ l'
theorem mem_later {Own : Addr → Prop} {l l' : Led} (h : Later Own l l') {a : Addr} {o : Obj} (hm : (a, o) ∈ l) (hn : ¬ Own a) : (a, o) ∈ l' := h _ hm hn
/-- a part of a ledger, off an address -/
def offI (I : Addr) (l : Led) : Led := l.filter fun p => decide (p.1 ≠ I)
theorem mem_offI {I a : Addr} {o : Obj} {l : Led} (h : (a, o) ∈ l) (hn : a ≠ I) : (a, o) ∈ offI I l := List.mem_filter.mpr ⟨h, decide_eq_true hn⟩
theorem offI_sub {I : Addr} {l : Led} : ∀ p ∈ offI I l, p ∈ l := fun _ h => (List.mem_filter.mp h).1
theorem offI_ne {I : Addr} {l : Led} : ∀ p ∈ offI I l, p.1 ≠ I := fun _ h => of_decide_eq_true (List.mem_filter.mp h).2
theorem cls_dl : Value.type "dict" ≠ Value.type "list" := by decide
theorem cls_ld : Value.type "list" ≠ Value.type "dict" := by decide
theorem cls_tl : Value.type "tuple" ≠ Value.type "list" := by decide
theorem cls_td : Value.type "tuple" ≠ Value.type "dict" := by decide
theorem keys_setL {d : Addr} {o : Obj} {l : Led} : (setL d o l).map (·.1) = l.map (·.1) := by
  unfold setL
  rw [List.map_map]
  refine List.map_congr_left fun p _ => ?_
  by_cases h : p.1 = d ∧ p.2.cls = o.cls
  · simp [h]
  · simp [h]
theorem key_of_setL {d : Addr} {o : Obj} {l : Led} {p : Addr × Obj} (h : p ∈ setL d o l) : ∃ q ∈ l, q.1 = p.1 := by
  have : p.1 ∈ (setL d o l).map (·.1) := List.mem_map_of_mem h
  rw [keys_setL] at this
  obtain ⟨q, hq, e⟩ := List.mem_map.mp this
  exact ⟨q, hq, e⟩
theorem lt_setL {d x : Addr} {o : Obj} {l : Led} (h : ∀ p ∈ l, p.1 < x) : ∀ p ∈ setL d o l, p.1 < x := fun _ hp => by
  obtain ⟨q, hq, e⟩ := key_of_setL hp
  exact e ▸ h q hq
theorem setL_append {d : Addr} {o : Obj} {l r : Led} : setL d o (l ++ r) = setL d o l ++ setL d o r := List.map_append
theorem setL_left {d : Addr} {o : Obj} {l r : Led} {p : Addr × Obj} (h : p ∈ setL d o l) : p ∈ setL d o (l ++ r) := by
  rw [setL_append]; exact List.mem_append_left _ h
/-- what setL keeps of a part that lies off d -/
theorem setL_off {d : Addr} {o : Obj} {l r : Led} (hr : ∀ p ∈ r, p.1 ≠ d) (h : ∀ p ∈ r, p ∈ l) : ∀ p ∈ r, p ∈ setL d o l := fun p hp => mem_setL_ne (h p hp) (hr p hp)

theorem cls_r {a : Addr} {b : String} : Value.ref a ≠ Value.type b := fun h => nomatch h
theorem setL_setL {d : Addr} {o o' : Obj} {l : Led} (h : o.cls = o'.cls) : setL d o' (setL d o l) = setL d o' l := by
  unfold setL
  rw [List.map_map]
  refine List.map_congr_left fun p _ => ?_
  by_cases hp : p.1 = d ∧ p.2.cls = o.cls
  · have hp' : p.1 = d ∧ p.2.cls = o'.cls := ⟨hp.1, hp.2.trans h⟩
    simp only [Function.comp_apply, if_pos hp, if_pos hp', h, and_self, if_true]
  · have hp' : ¬ (p.1 = d ∧ p.2.cls = o'.cls) := fun q => hp ⟨q.1, q.2.trans h.symm⟩
    simp only [Function.comp_apply, if_neg hp, if_neg hp']
theorem setL_comm {d d' : Addr} {o o' : Obj} {l : Led} (h : o.cls ≠ o'.cls) : setL d o (setL d' o' l) = setL d' o' (setL d o l) := by
  unfold setL
  rw [List.map_map, List.map_map]
  refine List.map_congr_left fun p _ => ?_
  by_cases hp : p.1 = d ∧ p.2.cls = o.cls
  · have hp' : ¬ (p.1 = d' ∧ p.2.cls = o'.cls) := fun q => h (hp.2.symm.trans q.2)
    have hn : ¬ (d = d' ∧ o.cls = o'.cls) := fun q => h q.2
    simp only [Function.comp_apply, if_pos hp, if_neg hp', if_neg hn]
  · by_cases hp' : p.1 = d' ∧ p.2.cls = o'.cls
    · have hn : ¬ (d' = d ∧ o'.cls = o.cls) := fun q => h q.2.symm
      simp only [Function.comp_apply, if_pos hp', if_neg hp, if_neg hn]
    · simp only [Function.comp_apply, if_neg hp', if_neg hp]
theorem news_same {h₀ h : Heap} {L d : Addr} {o : Obj} {led : Led} (N : News h₀ L h led) (hm : (d, o) ∈ led) : News h₀ L h (setL d o led) := fun p hp => by
  obtain ⟨q, hq, rfl⟩ := List.mem_map.mp hp
  by_cases hd : q.1 = d ∧ q.2.cls = o.cls
  · rw [if_pos hd]; exact N _ hm
  · rw [if_neg hd]; exact N _ hq
theorem news_setL2 {h₀ h : Heap} {L d : Addr} {o o' : Obj} {led : Led} (N : News h₀ L h (setL d o' (setL d o led))) (hc : o.cls = o'.cls := by rfl) : News h₀ L h (setL d o' led) := by
  rw [setL_setL hc] at N; exact N
/-- where the walk is to halt -/
def Stop (P : Prop) : Prop := P
theorem Stop.out {P : Prop} (h : Stop P) : P := h

theorem focus {h₀ h : Heap} {L d : Addr} {o : Obj} {led : Led} (N : News h₀ L h led) (hm : (d, o) ∈ led) :
    ∃ r, News h₀ L h ((d, o) :: r) ∧ (∀ p ∈ r, p.1 ≠ d) ∧ ∀ h' o', o.cls = o'.cls → News h₀ L h' ((d, o') :: r) → News h₀ L h' (setL d o' led) := by
  refine ⟨led.filter fun p => decide (p.1 ≠ d), ?_, fun p hp => ?_, fun h' o' hc N' p hp => ?_⟩
  · intro p hp
    rcases List.mem_cons.mp hp with rfl | hp
    · exact N _ hm
    · exact N _ (List.mem_filter.mp hp).1
  · exact of_decide_eq_true (List.mem_filter.mp hp).2
  · obtain ⟨q, hq, rfl⟩ := List.mem_map.mp hp
    by_cases hd : q.1 = d
    · have e1 := (N _ hq).1
      have e2 := (N _ hm).1
      rw [hd, e2] at e1
      have e : q.2.cls = o'.cls := by rw [← Option.some.inj e1]; exact hc
      rw [if_pos ⟨hd, e⟩]
      exact N' _ (.head _)
    · rw [if_neg fun x => hd x.1]
      exact N' _ (.tail _ (List.mem_filter.mpr ⟨hq, decide_eq_true hd⟩))

section
variable {prog : Program} {w : World} {A A₀ : Around} {E : Value → Shared → Prop} {s : Shared} {K : Frag} {x C dx D L : Addr} {h₀ : Heap} {m : Str → Option Value} {led : Led} {ox od : Obj} {es es' : List DictEntry} {n n' : Nat} {name : Str} {v : Value}

theorem set_dict_S {Q : Unit → Shared → Prop} (F : Fr h₀ L s.heap m) (X₀ : K.In h₀) (N : News h₀ L s.heap led) (I : InstAt s.heap x ox C (some (dictOf es n))) (hd : ox.dict = some dx)
    (hs : findIn K (.ref C) "__setattr__" = some (some (.builtin "object.__setattr__"))) (hp : plainOver K C = true) (ht : takerIn K C name = some none) (hh : hasDictIn K C = true) (hl : (getL name es).isSome = true)
    (e : (putL name (PyData.keyHash w.params name) (.str name (s.toks + 1)) v es, putN name es n) = (es', n')) (hm : (dx, dictOf es n) ∈ led) (hz : es'.length ≤ 1000)
    (h : ∀ h', Fr h₀ L h' m → News h₀ L h' (setL dx (dictOf es' n') led) → Q () { s with heap := h', toks := s.toks + 2 }) :
    wpAny (model prog w) A (setAttr (.ref x) name v) Q E s := by
  obtain ⟨r, N', hr, hback⟩ := focus N hm
  exact set_dict F X₀ N' I hd hs hp ht hh hl e (Upd.head hr) hz fun h' F' N'' => h h' F' (hback h' _ rfl N'')

theorem append_S {its : List Value} {y : Value} {Q : Value → Shared → Prop} (F : Fr h₀ L s.heap m) (N : News h₀ L s.heap led) (hm : (D, listOf its.toArray n) ∈ led)
    (h : ∀ h', Fr h₀ L h' m → News h₀ L h' (setL D (listOf (its ++ [y]).toArray (n + 1)) led) → Q .none { s with heap := h' }) (hsz : its.length ≤ sizeLine) :
    wpAny (model prog w) A (call (.builtin "list.append") [.ref D, y]) Q E s := by
  obtain ⟨r, N', hr, hback⟩ := focus N hm
  have U : Upd D (listOf its.toArray n) (listOf (its.toArray.push y) (n + 1)) ((D, listOf its.toArray n) :: r) ((D, listOf (its ++ [y]).toArray (n + 1)) :: r) := by
    rw [List.push_toArray]
    exact Upd.head hr
  exact append_K F N' U (fun h' F' N'' => h h' F' (hback h' _ rfl N'')) (by rw [List.size_toArray]; exact hsz)

theorem pop0_S {u : Tok} {y : Value} {its : List Value} {Q : Value → Shared → Prop} (F : Fr h₀ L s.heap m) (N : News h₀ L s.heap led) (hm : (D, listOf (y :: its).toArray n) ∈ led)
    (hz : (y :: its).length ≤ sizeLine) (h : ∀ h', Fr h₀ L h' m → News h₀ L h' (setL D (listOf its.toArray (n + 1)) led) → Q y { s with heap := h' }) :
    wpAny (model prog w) A (call (.builtin "list.pop") [.ref D, .int 0 u]) Q E s := by
  obtain ⟨r, N', hr, hback⟩ := focus N hm
  exact kl_popAt (k := 0) (p := []) (q := its) F N' rfl (by simp [seqIndex?]) rfl (Upd.head hr) hz fun h' F' N'' => h h' F' (hback h' _ rfl N'')

theorem setI_S {vs : List Value} {ns : List Int} {k i : Int} {t u : Tok} {Q : Unit → Shared → Prop} (F : Fr h₀ L s.heap m) (N : News h₀ L s.heap led) (hm : (D, listOf vs.toArray n) ∈ led) (hi : IntsAre vs ns) (h0 : 0 ≤ k) (h1 : k < ns.length) (hfit : k < 2 ^ 63)
    (h : ∀ h', Fr h₀ L h' m → News h₀ L h' (setL D (listOf (vs.set k.toNat (.int i u)).toArray n) led) → IntsAre (vs.set k.toNat (.int i u)) (ns.set k.toNat i) → Q () { s with heap := h' }) :
    wpAny (model prog w) A (setItem (.ref D) (.int k t) (.int i u)) Q E s := by
  obtain ⟨r, N', hr, hback⟩ := focus N hm
  exact ksa_set F N' (Upd.head hr) hi h0 h1 hfit fun h' F' N'' hi' _ _ => h h' F' (hback h' _ rfl N'') hi'

theorem eqNil_S {a b : Addr} {y : Value} {its : List Value} {n' : Nat} {Q : Value → Shared → Prop} (N : News h₀ L s.heap led) (ha : (a, listOf (y :: its).toArray n) ∈ led) (hb : (b, ({ cls := .type "list", data := .seq ([] : List Value).toArray n' } : Obj)) ∈ led) (hu : A.units < cLine)
    (h : Q (.bool false) s) : wpAny (model prog w) A (compareOp .Eq (.ref a) (.ref b)) Q E s :=
  PySem.SeqAt.eq_list_lengthsAt (N.isList ha) (N.isList hb) (by simp) hu h

theorem itemL_S {value slice : PySem.Expr} {a : Addr} {k : Int} {u : Tok} {its : List Value} {y : Value} {Q : Value → Shared → Prop} (N : News h₀ L s.heap led) (hm : (a, listOf its.toArray n) ∈ led) (h0 : 0 ≤ k) (hfit : k < 2 ^ 63) (hx : its[k.toNat]? = some y) (h : Q y s)
    (hs : subscripted slice false (.ref a) (.int k u) = operate [.ref a, .int k u] (getItem (.ref a) (.int k u)) := by with_unfolding_all rfl) :
    wpAny (model prog w) A (subscriptTail value slice (.ref a) (.int k u)) Q E s :=
  have hl := N.isList hm
  tail_any hl.typeIs slot_list_getitem.lookup (wpAny_getItem_list hl h0 hfit (by simpa using hx) h) hs
theorem itemT_S {value slice : PySem.Expr} {a : Addr} {k : Nat} {u : Tok} {its : List Value} {y : Value} {Q : Value → Shared → Prop} (N : News h₀ L s.heap led) (hm : (a, tupOf its n) ∈ led) (hk : k < 100) (hx : its[k]? = some y) (h : Q y s)
    (hs : subscripted slice false (.ref a) (.int k u) = operate [.ref a, .int k u] (getItem (.ref a) (.int k u)) := by with_unfolding_all rfl) :
    wpAny (model prog w) A (subscriptTail value slice (.ref a) (.int k u)) Q E s := by
  have hlt : k < its.length := by
    cases h1 : decide (k < its.length) with
    | true => exact of_decide_eq_true h1
    | false => rw [List.getElem?_eq_none (Nat.not_lt.mp (of_decide_eq_false h1))] at hx; cases hx
  have ht := N.isTup hm
  refine tail_any ht.typeIs slot_tuple_getitem.lookup (getItem_tuple (j := k) ht (by omega) (by omega) ?_ (by simpa using hx) h) hs
  have e : (if (k : Int) < 0 then (k : Int) + its.toArray.size else (k : Int)) = (k : Int) := if_neg (by omega)
  unfold seqIndex?
  simp only [e]
  simp [hlt]
theorem lenL_S {a : Addr} {its : List Value} {Q : Value → Shared → Prop} (N : News h₀ L s.heap led) (hm : (a, listOf its.toArray n) ∈ led) (hsz : its.length ≤ sizeLine) (h : ∀ t tk, Q (.int its.length t) { s with toks := tk }) :
    wpAny (model prog w) A (call (.builtin "len") [.ref a]) Q E s := by
  have hl := N.isList hm
  refine len_list hl ?_ ?_
  · rw [List.size_toArray]
    rw [PySem.sizeLine_eq] at hsz
    omega
  · rw [List.size_toArray]
    exact h _ _
/-- an item of a list of ints -/
theorem itemI_S {value slice : PySem.Expr} {a : Addr} {k : Int} {u : Tok} {vs : List Value} {ns : List Int} {Q : Value → Shared → Prop} (N : News h₀ L s.heap led) (hm : (a, listOf vs.toArray n) ∈ led) (hi : IntsAre vs ns) (h0 : 0 ≤ k) (h1 : k < ns.length) (hfit : k < 2 ^ 63) (h : ∀ t, Q (.int (ns.getD k.toNat 0) t) s)
    (hs : subscripted slice false (.ref a) (.int k u) = operate [.ref a, .int k u] (getItem (.ref a) (.int k u)) := by with_unfolding_all rfl) :
    wpAny (model prog w) A (subscriptTail value slice (.ref a) (.int k u)) Q E s :=
  have hl := N.isList hm
  tail_any hl.typeIs slot_list_getitem.lookup (ksa_get N hm hi h0 h1 hfit h) hs
theorem tupAdd_S {a b : Addr} {xs ys : List Value} {n' : Nat} {Q : Value → Shared → Prop} (F : Fr h₀ L s.heap m) (N : News h₀ L s.heap led) (ha : (a, tupOf xs n) ∈ led) (hb : (b, tupOf ys n') ∈ led) (hx : xs ≠ []) (hy : ys ≠ []) (hz : xs.length + ys.length ≤ 16384)
    (h : ∀ T h', Fr h₀ L h' m → News h₀ L h' ((T, tupOf (xs ++ ys) 0) :: led) → (∀ p ∈ led, p.1 < T) → Q (.ref T) { s with heap := h' }) :
    wpAny (model prog w) A (binaryOp .Add (.ref a) (.ref b)) Q E s :=
  kde_addT (zs := xs ++ ys) F N (N.isTup ha) (N.isTup hb) (by simpa using hx) (by simpa using hy) (by simpa using hz) (by simp) h
theorem get_own_S {expr : Bool} {Q : Value → Shared → Prop} {attr : Option Value} (F : Fr h₀ L s.heap m) (X₀ : K.In h₀) (I : InstAt s.heap x ox C (some (dictOf es n))) (hg : plainGet K C name = true) (hh : hasDictIn K C = true)
    (ha : findIn K (.ref C) name = some attr) (hn : noGet K attr = true) (hl : getL name es = some (some v)) (hv : handedIn v = true) (h : ∀ tk, Q v { s with toks := tk }) :
    wpAny (model prog w) A (getAttr (.ref x) name expr) Q E s := get_own F X₀ I hg hh ha hn hl hv (h _)
end

theorem off00 : True := by w_top off; trivial
theorem fmod_bnd0 {a k : Int} (h : 0 < k) : 0 ≤ a.fmod k ∧ a.fmod k < k := by
  rw [Int.fmod_eq_emod_of_nonneg _ (by omega)]
  exact ⟨Int.emod_nonneg _ (by omega), Int.emod_lt_of_pos _ h⟩
theorem great_nn {c : Int} {p : Prop} [Decidable p] : 0 ≤ (if -1 - c > c then -1 - c else c) * (if p then 1 else 0) := by
  refine Int.mul_nonneg ?_ ?_
  · split <;> omega
  · split <;> omega
section
variable {w : World} {mean : ExcName → Option Value} {mg mb : Str → Option Value} {dp un : Nat} {gd : Option (List Code)} {cn : Str} {cs : Scope} {a : Addr} {ccd : Value} {cl : List (Str × Addr)} {outer : List Env} {A₀ : Around} {base h₀ : Heap} {L : Addr} {m : Str → Option Value} {led : Led}
  {s : Shared} {R : Result → Shared → Prop} {sc : Addr} {vs : List Value} {ns : List Int} {tk0 : Tok}

set_option maxHeartbeats 1000000 in
theorem ct_pool (H : Here w mean mg mb A₀ base h₀ outer cs L m s.heap led dp un 2) (hl : h₀.IsList sc vs.toArray) (hi : IntsAre vs ns) (hlen : ns.length ≤ 63)
    (hR : ∀ (D : Addr) (x y : Int) (tx ty : Tok) (n : Nat), 0 ≤ x → 0 ≤ y → y < 2147483647 → Back h₀ L m s R (.ref D) ((D, listOf [.int x tx, .int y ty].toArray n) :: led)) :
    codeAny (model P w) (ktrTop dp un gd cn cs L a ccd cl outer) (.call (.ref 188) ⟨[.ref sc, .int 0 tk0], []⟩) R s := by
  obtain ⟨B, F, X, N, T, hk, hdp, hun⟩ := H
  have hfill : (fun (_ : Frag) (_ : OpenLaw) => True) (lawTop.heap_39 w.params) PySem.Challenge.rw_pq1158_01 := by k_fill; trivial
  clear hfill
  have hvl := hi.length
  k_dflt cell_enter
  rename Fr h₀ L _ _ => FG
  have hl' := hl.at fun o e => FG.keep _ o e
  have hsz : vs.length ≤ 1000 := by omega
  k_steps
  all_goals
    rename News h₀ L _ _ => NN
    rename Fr h₀ L _ _ => FF
    exact hR _ _ _ _ _ _ great_nn (fmod_bnd0 (by omega)).1 (fmod_bnd0 (by omega)).2 _ _ FF NN
end


local macro_rules | `(tactic| walk_at $s:str) => `(tactic| k_extra $s)
local macro_rules | `(tactic| k_room) => `(tactic| ktr_room)
local macro_rules | `(tactic| tb_start) => `(tactic| k_extra "tb_start")
local macro_rules | `(tactic| tb_rel) => `(tactic| k_extra "tb_rel")
theorem ln00x1y1 : True := by
  (k_with "tb_start" => (first | exact Or.inl (by with_reducible assumption) | exact Or.inl (Ne.symm (by with_reducible assumption)) | exact Or.inr cls_r | exact Or.inr cls_dl | exact Or.inr cls_ld | exact Or.inr cls_tl | exact Or.inr cls_td))
  (k_with "tb_rel" => (first | with_reducible assumption | with_reducible exact List.mem_cons_self | (with_reducible refine' List.mem_cons_of_mem _ (by first | (tb_rel) | fail)) | (with_reducible refine' mem_setL_self (by first | (tb_rel) | fail) (by first | (rfl) | fail)) | (with_reducible refine' mem_setL_or (by first | (tb_rel) | fail) (by first | (tb_start) | fail)) | (with_reducible refine' mem_offI (by first | (tb_rel) | fail) (by first | (first | with_reducible assumption | exact Ne.symm (by with_reducible assumption)) | fail)) | (with_reducible refine' mem_later (by first | (with_reducible assumption) | fail) (by first | (tb_rel) | fail) (by first | (with_reducible assumption) | fail))))
  trivial
local macro_rules | `(tactic| k_mem) => `(tactic| tb_rel)
theorem ln00x1y2 : True := by
  (k_with "setAttr ref" => (k_here; k_dflt (refine' set_dict_S (by first | (k_asm) | fail) (by first | (k_asm) | fail) (by first | (k_asm) | fail) (by first | (k_inst) | fail) (by first | (exact rfl) | fail) (by first | (k_is) | fail) (by first | (k_is) | fail) (by first | (k_is) | fail) (by first | (k_is) | fail) (by first | (k_get) | fail) (by first | (k_put) | fail) (by first | (tb_rel) | fail) (by first | (exact Nat.le_of_ble_eq_true rfl) | fail) ?_; k_whole; intro zh' zF' zN'; (try dsimp only); (try k_sweep))))
  (k_with "call builtin:list.append" => (k_here; (with_reducible show wpAny _ _ (call (Value.builtin _) [Value.ref _, _]) _ _ _); k_dflt (refine' append_S (by first | (k_asm) | fail) (by first | (k_asm) | fail) (by first | (tb_rel) | fail) ?_ (by first | (with_reducible assumption) | fail); k_whole); intro zh' zF' zN'; (try k_sweep)))
  (k_with "call builtin:list.pop" => (k_here; (with_reducible show wpAny _ _ (call (Value.builtin _) [Value.ref _, Value.int _ _]) _ _ _); k_dflt (refine' pop0_S (by first | (k_asm) | fail) (by first | (k_asm) | fail) (by first | (tb_rel) | fail) (by first | (with_reducible assumption) | fail) ?_; k_whole); intro zh' zF' zN'; (try k_sweep)))
  (k_with "compareOp Eq ref ref" => (k_here; (with_reducible show wpAny _ _ (compareOp CmpOp.Eq (Value.ref _) (Value.ref _)) _ _ _); k_dflt (refine' eqNil_S (by first | (k_asm) | fail) (by first | (tb_rel) | fail) (by first | (exact List.Mem.head _) | fail) (by first | (ktr_units) | fail) ?_; k_whole)))
  (k_with "call builtin:len" => (k_here; (with_reducible show wpAny _ _ (call (Value.builtin "len") [Value.ref _]) _ _ _); k_dflt (refine' lenL_S (by first | (k_asm) | fail) (by first | (tb_rel) | fail) (by first | (with_reducible assumption) | fail) ?_; k_whole); intro _ _))
  (k_with "binaryOp Add ref ref" => (k_here; (with_reducible show wpAny _ _ (binaryOp Operator.Add (Value.ref _) (Value.ref _)) _ _ _); k_dflt (refine' tupAdd_S (by first | (k_asm) | fail) (by first | (k_asm) | fail) (by first | (tb_rel) | fail) (by first | (tb_rel) | fail) (by first | (exact List.cons_ne_nil _ _) | fail) (by first | (exact List.cons_ne_nil _ _) | fail) (by first | (simp only [List.length_cons, List.length_nil]; decide) | fail) ?_; k_whole); intro zT' zh' zF' zN' zl1; (try k_sweep)))
  (k_with "setItem ref int" => (k_here; (with_reducible show wpAny _ _ (setItem (Value.ref _) (Value.int _ _) (Value.int _ _)) _ _ _); k_dflt (refine' setI_S (by first | (k_asm) | fail) (by first | (k_asm) | fail) (by first | (tb_rel) | fail) (by first | (with_reducible assumption) | fail) (by first | (first | with_reducible assumption | omega) | fail) (by first | (first | with_reducible assumption | omega) | fail) (by first | (first | with_reducible assumption | omega) | fail) ?_; k_whole); intro zh' zF' zN' zhi'; (try k_sweep)))
  (k_with "exec While" => (k_here; (with_reducible show wpAny _ _ (exec (Stmt.While _ _ _ _) _) _ _ _); refine Stop.out ?_))
  (k_with "getAttr ref" => (k_here; k_dflt (refine' get_own_S (by first | (k_asm) | fail) (by first | (k_asm) | fail) (by first | (k_inst) | fail) (by first | (k_is) | fail) (by first | (k_is) | fail) (by first | (k_is) | fail) (by first | (k_is) | fail) (by first | (k_get) | fail) (by first | (k_handed) | fail) ?_; k_whole); intro _; (try dsimp only)))
  (k_with "subscriptTail" => (k_here; (with_reducible show wpAny _ _ (subscriptTail _ _ (Value.ref _) (Value.int _ _)) _ _ _); k_dflt (refine' itemL_S (by first | (k_asm) | fail) (by first | (tb_rel) | fail) (by first | (first | decide | omega) | fail) (by first | (first | decide | omega) | fail) (by first | (first | with_reducible assumption | with_reducible rfl | rfl) | fail) ?_ (by first | (with_unfolding_all rfl) | fail))))
  (k_with "subscriptTail" => (k_here; (with_reducible show wpAny _ _ (subscriptTail _ _ (Value.ref _) (Value.int _ _)) _ _ _); k_dflt (refine' itemI_S (by first | (k_asm) | fail) (by first | (tb_rel) | fail) (by first | (with_reducible assumption) | fail) (by first | (first | with_reducible assumption | omega) | fail) (by first | (first | with_reducible assumption | omega | (simp only [List.length_set]; first | with_reducible assumption | omega)) | fail) (by first | (first | with_reducible assumption | omega) | fail) ?_ (by first | (with_unfolding_all rfl) | fail); k_whole); intro _; (try dsimp only)))
  (k_with "subscriptTail" => (k_here; (with_reducible show wpAny _ _ (subscriptTail _ _ (Value.ref _) (Value.int 0 _)) _ _ _); k_dflt (first | (refine' itemT_S (k := 0) (by first | (k_asm) | fail) (by first | (tb_rel) | fail) (by first | (decide) | fail) (by first | (rfl) | fail) ?_ (by first | (with_unfolding_all rfl) | fail)) | (refine' itemL_S (by first | (k_asm) | fail) (by first | (tb_rel) | fail) (by first | (first | decide | omega) | fail) (by first | (first | decide | omega) | fail) (by first | (first | with_reducible assumption | with_reducible rfl | rfl) | fail) ?_ (by first | (with_unfolding_all rfl) | fail)))))
  (k_with "subscriptTail" => (k_here; (with_reducible show wpAny _ _ (subscriptTail _ _ (Value.ref _) (Value.int 1 _)) _ _ _); k_dflt (refine' itemT_S (k := 1) (by first | (k_asm) | fail) (by first | (tb_rel) | fail) (by first | (decide) | fail) (by first | (rfl) | fail) ?_ (by first | (with_unfolding_all rfl) | fail))))
  (k_with "subscriptTail" => (k_here; (with_reducible show wpAny _ _ (subscriptTail _ _ (Value.ref _) (Value.int 2 _)) _ _ _); k_dflt (refine' itemT_S (k := 2) (by first | (k_asm) | fail) (by first | (tb_rel) | fail) (by first | (decide) | fail) (by first | (rfl) | fail) ?_ (by first | (with_unfolding_all rfl) | fail))))
  (k_with "room" => (first | exact room_down (by with_reducible assumption) (by decide) | ktr_room))
  (k_with "units" => (first | exact units_down (by with_reducible assumption) (by decide) | ktr_units))
  trivial


theorem off10 : True := by w_top off; trivial
/-- room and units, from the caller's -/
theorem room_down {dp a b n c : Nat} (h : dp + n < c) (e : a + b ≤ n) : dp + a + b < c := by omega
theorem units_down {un a d n c : Nat} (h : un + 8 * n < c) (e : a + 8 * d ≤ 8 * n) : un + a + 8 * d < c := by omega
theorem small_to {n : Nat} (h : n ≤ 1000) : Builtin.Range.small 0 (n : Int) 1 = true := small_one (by decide) (by decide) (by omega) (by omega)
theorem small_to1 {n : Nat} (h : n + 1 ≤ 1000) : Builtin.Range.small 0 ((n : Int) + 1) 1 = true := small_one (by decide) (by decide) (by omega) (by omega)
theorem rsize_to {n : Nat} : Builtin.Range.rangeSize 0 (n : Int) 1 = (n : Int) := by rw [rangeSize_nat]; omega
theorem rsize_to1 {n : Nat} : Builtin.Range.rangeSize 0 ((n : Int) + 1) 1 = ((n + 1 : Nat) : Int) := by rw [rangeSize_nat]; omega
theorem le_line {n : Nat} (h : n ≤ 1000) : n ≤ sizeLine := by rw [PySem.sizeLine_eq]; omega
theorem i63 {j : Nat} (h : j < 1000) : (j : Int) < 2 ^ 63 := by omega
theorem i63m {j : Nat} : -2 ^ 63 ≤ (j : Int) := by omega
theorem small_to0 {n : Nat} (h : n ≤ 1000) : Builtin.Range.small 0 (0 + (n : Int)) 1 = true := small_one (by decide) (by decide) (by omega) (by omega)
theorem rsize_to0 {n : Nat} : Builtin.Range.rangeSize 0 (0 + (n : Int)) 1 = (n : Int) := by rw [rangeSize_nat]; omega
theorem z_nat {i : Nat} : (0 + (i : Int)).toNat = i := by omega
theorem z_nn {i : Nat} : (0 : Int) ≤ 0 + (i : Int) := by omega
theorem z_lt {i n : Nat} (h : i < n) : 0 + (i : Int) < (n : Int) := by omega
theorem z63 {i : Nat} (h : i < 1000) : 0 + (i : Int) < 2 ^ 63 := by omega
theorem lt_of_at9 {α : Type} {rows : List α} {i : Nat} {r : α} (hr : rows[i]? = some r) : i < rows.length := by
  rcases Nat.lt_or_ge i rows.length with h | h
  · exact h
  · rw [List.getElem?_eq_none h] at hr; cases hr
theorem lt40 {k : Nat} (h : k < 40) : (k : Int) < 40 := by omega
theorem oct_le {a c : Int} {k : Nat} (h : a ≤ 6 * (k : Int)) (hk : k < 40) (hc : c ≤ 6) : a + c ≤ 999 := by omega
theorem mul256 {n : Nat} (h : n ≤ 100) : (0 + 1) * (n : Int).toNat ≤ 256 := by omega
/-- a part of a ledger -/
theorem news_sub {h₀ h : Heap} {L : Addr} {l l' : Led} (N : News h₀ L h l) (hs : ∀ p ∈ l', p ∈ l) : News h₀ L h l' := fun p hp => N p (hs p hp)
theorem news_tail {h₀ h : Heap} {L : Addr} {p : Addr × Obj} {l : Led} (N : News h₀ L h (p :: l)) : News h₀ L h l := news_sub N fun _ hp => List.mem_cons_of_mem _ hp

section
variable {w : World} {mean : ExcName → Option Value} {mg mb : Str → Option Value} {dp un : Nat} {gd : Option (List Code)} {cn : Str} {cs : Scope} {a : Addr} {ccd : Value} {cl : List (Str × Addr)} {outer : List Env} {A₀ : Around} {base h₀ : Heap} {L : Addr} {m : Str → Option Value} {led : Led}
  {s : Shared} {R : Result → Shared → Prop} {x dx l ta : Addr} {k : RK} {v1 v2 v3 v4 v y : Value} {n n2 n3 : Nat} {sz oct most moct : Int} {t t1 t2 t3 : Tok} {vs : List Value}

set_option maxHeartbeats 400000 in
theorem ct_head (H : Here w mean mg mb A₀ base h₀ outer cs L m s.heap led dp un 2)
    (hx : (x, instObj 111 dx) ∈ led) (hd : (dx, rowD k v1 v2 (.ref l) v3 v4) ∈ led) (hl : (l, listOf (Value.ref ta :: vs).toArray n2) ∈ led) (ht : (ta, tupOf [.int sz t, v] n3) ∈ led)
    (hR : Back h₀ L m s R (.int sz t) led) :
    codeAny (model P w) (ktrTop dp un gd cn cs L a ccd cl outer) (.call (.ref 101) ⟨[.ref x], []⟩) R s := by
  obtain ⟨B, F, X, N, T, hk, hdp, hun⟩ := H
  have hfill : (fun (_ : Frag) (_ : OpenLaw) => True) (lawTop.heap_39 w.params) PySem.Challenge.rw_pq1158_01 := by k_fill; trivial
  clear hfill
  k_dflt cell_enter
  k_steps
  all_goals (first | exact hR _ _ (by k_asm) (by k_asm))

set_option maxHeartbeats 400000 in
theorem ct_empty (H : Here w mean mg mb A₀ base h₀ outer cs L m s.heap led dp un 2)
    (hx : (x, instObj 111 dx) ∈ led) (hd : (dx, rowD k v1 v2 (.ref l) v3 v4) ∈ led) (hl : (l, listOf (y :: vs).toArray n2) ∈ led)
    (hR : Back h₀ L m s R (.bool false) led) :
    codeAny (model P w) (ktrTop dp un gd cn cs L a ccd cl outer) (.call (.ref 94) ⟨[.ref x], []⟩) R s := by
  obtain ⟨B, F, X, N, T, hk, hdp, hun⟩ := H
  have hfill : (fun (_ : Frag) (_ : OpenLaw) => True) (lawTop.heap_39 w.params) PySem.Challenge.rw_pq1158_01 := by k_fill; trivial
  clear hfill
  k_dflt cell_enter
  k_steps
  all_goals (first | exact hR _ _ (by k_asm) (by first | k_asm | exact news_tail (by k_asm)))

set_option maxHeartbeats 400000 in
theorem ct_rowtake (H : Here w mean mg mb A₀ base h₀ outer cs L m s.heap led dp un 2)
    (hx : (x, instObj 111 dx) ∈ led) (hd : (dx, rowD k v1 v2 (.ref l) (.int oct t1) v4) ∈ led) (hl : (l, listOf (Value.ref ta :: vs).toArray n2) ∈ led) (ht : (ta, tupOf [.int sz t, v] n3) ∈ led) (hsz : (Value.ref ta :: vs).length ≤ sizeLine)
    (hR : ∀ t', Back h₀ L m s R (.ref ta) (setL dx (rowD k v1 v2 (.ref l) (.int (oct - sz) t') v4) (setL l (listOf vs.toArray (n2 + 1)) led))) :
    codeAny (model P w) (ktrTop dp un gd cn cs L a ccd cl outer) (.call (.ref 108) ⟨[.ref x], []⟩) R s := by
  obtain ⟨B, F, X, N, T, hk, hdp, hun⟩ := H
  have hfill : (fun (_ : Frag) (_ : OpenLaw) => True) (lawTop.heap_39 w.params) PySem.Challenge.rw_pq1158_01 := by k_fill; trivial
  clear hfill
  k_dflt cell_enter
  k_steps
  all_goals (first | exact hR _ _ _ (by k_asm) (by k_asm))

set_option maxHeartbeats 400000 in
theorem ct_rowput (H : Here w mean mg mb A₀ base h₀ outer cs L m s.heap led dp un 2)
    (hx : (x, instObj 111 dx) ∈ led) (hd : (dx, rowD k (.int most t1) (.int moct t2) (.ref l) (.int oct t3) v4) ∈ led) (hl : (l, listOf vs.toArray n2) ∈ led) (hsz : vs.length ≤ sizeLine)
    (hmost : (vs.length : Int) < most) (hoct : oct + sz ≤ moct)
    (hR : ∀ ta t', (∀ p ∈ led, p.1 < ta) → Back h₀ L m s R (.bool true) (setL dx (rowD k (.int most t1) (.int moct t2) (.ref l) (.int (oct + sz) t') v4) (setL l (listOf (vs ++ [Value.ref ta]).toArray (n2 + 1)) ((ta, tupOf [.int sz t, v] 0) :: led)))) :
    codeAny (model P w) (ktrTop dp un gd cn cs L a ccd cl outer) (.call (.ref 87) ⟨[.ref x, .int sz t, v], []⟩) R s := by
  obtain ⟨B, F, X, N, T, hk, hdp, hun⟩ := H
  have hfill : (fun (_ : Frag) (_ : OpenLaw) => True) (lawTop.heap_39 w.params) PySem.Challenge.rw_pq1158_01 := by k_fill; trivial
  clear hfill
  k_dflt cell_enter
  k_steps
  all_goals (first | exact hR _ _ (by assumption) _ _ (by k_asm) (by k_asm))
end


theorem ln12x1y1 : True := by
  (k_with "call ref" => (k_here; (with_reducible show wpAny _ _ (call (Value.ref 101) _) _ _ _); k_dflt (refine wpAny_call ?_; refine' ct_head (Here.mk (by first | (k_asm) | fail) (by first | (k_asm) | fail) (by first | (k_asm) | fail) (by first | (k_asm) | fail) (by first | (k_asm) | fail) (by first | (first | with_reducible assumption | exact rfl) | fail) (by first | (k_extra "room") | fail) (by first | (k_extra "units") | fail)) (by first | (tb_rel) | fail) (by first | (tb_rel) | fail) (by first | (tb_rel) | fail) (by first | (tb_rel) | fail) ?_; k_whole); intro zh' ztk' zF' zN'; (try dsimp only); (try k_sweep)))
  (k_with "call ref" => (k_here; (with_reducible show wpAny _ _ (call (Value.ref 94) _) _ _ _); k_dflt (refine wpAny_call ?_; refine' ct_empty (Here.mk (by first | (k_asm) | fail) (by first | (k_asm) | fail) (by first | (k_asm) | fail) (by first | (k_asm) | fail) (by first | (k_asm) | fail) (by first | (first | with_reducible assumption | exact rfl) | fail) (by first | (k_extra "room") | fail) (by first | (k_extra "units") | fail)) (by first | (tb_rel) | fail) (by first | (tb_rel) | fail) (by first | (tb_rel) | fail) ?_; k_whole); intro zh' ztk' zF' zN'; (try dsimp only); (try k_sweep)))
  trivial


theorem off14 : True := by w_top off; trivial
section
variable {w : World} {mean : ExcName → Option Value} {mg mb : Str → Option Value} {dp un : Nat} {gd : Option (List Code)} {cn : Str} {cs : Scope} {a : Addr} {ccd : Value} {cl : List (Str × Addr)} {outer : List Env} {A₀ : Around} {base h₀ : Heap} {L : Addr} {m : Str → Option Value} {led : Led}
  {s : Shared} {R : Result → Shared → Prop} {D dD qa ra la x dx l ta : Addr} {k kD : RK} {v1 v2 v3 v4 v y qv rv lv : Value} {n n2 n3 : Nat} {sz oct most moct i at_ : Int} {t t1 t2 t3 : Tok} {vs rvs : List Value} {b : Bool}

set_option maxHeartbeats 400000 in
theorem ct_maygo (H : Here w mean mg mb A₀ base h₀ outer cs L m s.heap led dp un 4)
    (hr : (ra, listOf rvs.toArray n) ∈ led) (h0 : 0 ≤ i) (h63 : i < 2 ^ 63) (hi : rvs[i.toNat]? = some (.ref x))
    (hx : (x, instObj 111 dx) ∈ led) (hd : (dx, rowD k v1 v2 (.ref l) v3 v4) ∈ led) (hl : (l, listOf (y :: vs).toArray n2) ∈ led)
    (hR : Back h₀ L m s R (.bool true) led) :
    codeAny (model P w) (ktrTop dp un gd cn cs L a ccd cl outer) (.call (.ref 129) ⟨[.ref ra, .int i t, .none], []⟩) R s := by
  obtain ⟨B, F, X, N, T, hk, hdp, hun⟩ := H
  have hfill : (fun (_ : Frag) (_ : OpenLaw) => True) (lawTop.heap_39 w.params) PySem.Challenge.rw_pq1158_01 := by k_fill; trivial
  clear hfill
  k_dflt cell_enter
  k_steps
  all_goals (first | exact hR _ _ (by k_asm) (by k_asm))

set_option maxHeartbeats 400000 in
theorem ct_rowat (H : Here w mean mg mb A₀ base h₀ outer cs L m s.heap led dp un 2)
    (hr : (ra, listOf rvs.toArray n) ∈ led) (h0 : 0 ≤ i) (hlen : i < rvs.length) (hsz : rvs.length ≤ sizeLine) (hi : rvs[i.toNat]? = some (.ref x))
    (hR : Back h₀ L m s R (.ref x) led) :
    codeAny (model P w) (ktrTop dp un gd cn cs L a ccd cl outer) (.call (.ref 122) ⟨[.ref ra, .int i t], []⟩) R s := by
  have h63 : i < 2 ^ 63 := by rw [PySem.sizeLine_eq] at hsz; omega
  obtain ⟨B, F, X, N, T, hk, hdp, hun⟩ := H
  have hfill : (fun (_ : Frag) (_ : OpenLaw) => True) (lawTop.heap_39 w.params) PySem.Challenge.rw_pq1158_01 := by k_fill; trivial
  clear hfill
  k_dflt cell_enter
  k_steps
  all_goals (first | exact hR _ _ (by k_asm) (by k_asm))

set_option maxHeartbeats 400000 in
theorem ct_goon (H : Here w mean mg mb A₀ base h₀ outer cs L m s.heap led dp un 2)
    (hD : (D, instObj 177 dD) ∈ led) (hdD : (dD, drD kD qv (.ref ra) lv (.int at_ t1) (.bool b)) ∈ led) (hr : (ra, listOf rvs.toArray n) ∈ led) (hsz : rvs.length ≤ sizeLine) (h0 : 0 ≤ at_) (hlt : at_ < rvs.length)
    (hR : ∀ t', Back h₀ L m s R .none (setL dD (drD kD qv (.ref ra) lv (.int ((at_ + 1).fmod rvs.length) t') (.bool false)) led)) :
    codeAny (model P w) (ktrTop dp un gd cn cs L a ccd cl outer) (.call (.ref 155) ⟨[.ref D], []⟩) R s := by
  obtain ⟨B, F, X, N, T, hk, hdp, hun⟩ := H
  have hfill : (fun (_ : Frag) (_ : OpenLaw) => True) (lawTop.heap_39 w.params) PySem.Challenge.rw_pq1158_01 := by k_fill; trivial
  clear hfill
  k_dflt cell_enter
  k_steps
  all_goals (first | exact hR _ _ _ (by k_asm) (by first | k_asm | exact news_setL2 (by k_asm)))
end


theorem off16 : True := by w_top off; trivial
/-- what a deficit round keeps: in all r or r + 1 quanta have been given, and what is left is less than the greatest size (at the queue being served: and a quantum) -/
structure FairR (r G : Int) (qs sent left : List Int) (n at_ : Nat) (b : Bool) : Prop where
  hs : sent.length = n
  hl : left.length = n
  at_lt : at_ < n
  nn : ∀ i, i < n → 0 ≤ left.getD i 0
  on : ∀ i, i < n → (i < at_ ∨ (i = at_ ∧ b = true)) → sent.getD i 0 + left.getD i 0 = r * qs.getD i 0 + qs.getD i 0
  off : ∀ i, i < n → ¬ (i < at_ ∨ (i = at_ ∧ b = true)) → sent.getD i 0 + left.getD i 0 = r * qs.getD i 0
  le : ∀ i, i < n → ¬ (i = at_ ∧ b = true) → left.getD i 0 ≤ G - 1
  leAt : b = true → left.getD at_ 0 ≤ qs.getD at_ 0 + G - 1
def Fair (G : Int) (qs sent left : List Int) (n at_ : Nat) (b : Bool) : Prop := ∃ r, FairR r G qs sent left n at_ b
theorem getD_set_ne {xs : List Int} {i j : Nat} {v : Int} (h : j ≠ i) : (xs.set i v).getD j 0 = xs.getD j 0 := by
  rw [List.getD_eq_getElem?_getD, List.getD_eq_getElem?_getD, List.getElem?_set_ne (Ne.symm h)]
theorem getD_set_eq {xs : List Int} {i : Nat} {v : Int} (h : i < xs.length) : (xs.set i v).getD i 0 = v := by
  rw [List.getD_eq_getElem?_getD, List.getElem?_set_self h]; rfl
theorem fair_start {G : Int} {qs : List Int} {n : Nat} (hn : 0 < n) (hG : 1 ≤ G) : Fair G qs (List.replicate n 0) (List.replicate n 0) n 0 false := by
  have z : ∀ i, (List.replicate n (0 : Int)).getD i 0 = 0 := fun i => by
    rw [List.getD_eq_getElem?_getD, List.getElem?_replicate]; split <;> rfl
  refine ⟨0, List.length_replicate, List.length_replicate, hn, fun i _ => by rw [z]; omega, fun i _ h => ?_, fun i _ _ => by rw [z]; simp, fun i _ _ => by rw [z]; omega, fun h => nomatch h⟩
  rcases h with h | ⟨_, h⟩
  · omega
  · cases h
theorem fair_begin {G : Int} {qs sent left : List Int} {n i : Nat} (h : Fair G qs sent left n i false) (hq : 1 ≤ qs.getD i 0) : Fair G qs sent (left.set i (left.getD i 0 + qs.getD i 0)) n i true := by
  obtain ⟨r, h⟩ := h
  have hl := h.hl
  have hi := h.at_lt
  have hset : (left.set i (left.getD i 0 + qs.getD i 0)).getD i 0 = left.getD i 0 + qs.getD i 0 := getD_set_eq (by omega)
  have h0 := h.off i hi (by simp)
  have h1 := h.le i hi (by simp)
  have h2 := h.nn i hi
  refine ⟨r, h.hs, by rw [List.length_set]; exact hl, hi, fun j hj => ?_, fun j hj hc => ?_, fun j hj hc => ?_, fun j hj hc => ?_, fun _ => ?_⟩
  · by_cases e : j = i
    · subst e; rw [hset]; omega
    · rw [getD_set_ne e]; exact h.nn j hj
  · by_cases e : j = i
    · subst e; rw [hset]; omega
    · rw [getD_set_ne e]; exact h.on j hj (.inl (by omega))
  · have e : j ≠ i := fun e => hc (.inr ⟨e, rfl⟩)
    rw [getD_set_ne e]; exact h.off j hj (by rintro (q | ⟨q, _⟩); exact hc (.inl q); exact e q)
  · have e : j ≠ i := fun e => hc ⟨e, rfl⟩
    rw [getD_set_ne e]; exact h.le j hj (by simp)
  · rw [hset]; omega
theorem fair_move {G sz : Int} {qs sent left : List Int} {n i : Nat} (h : Fair G qs sent left n i true) (hlt : left.getD i 0 < sz) (hG : sz ≤ G) : Fair G qs sent left n ((i + 1) % n) false := by
  obtain ⟨r, h⟩ := h
  have hi := h.at_lt
  have le' : ∀ j, j < n → left.getD j 0 ≤ G - 1 := fun j hj => by
    by_cases e : j = i
    · subst e; omega
    · exact h.le j hj (by rintro ⟨q, _⟩; exact e q)
  by_cases hw : i + 1 < n
  · rw [Nat.mod_eq_of_lt hw]
    refine ⟨r, h.hs, h.hl, hw, h.nn, fun j hj hc => ?_, fun j hj hc => ?_, fun j hj _ => le' j hj, fun q => nomatch q⟩
    · rcases hc with hc | ⟨_, hc⟩
      · exact h.on j hj (by rcases Nat.lt_or_ge j i with q | q; exact .inl q; exact .inr ⟨by omega, rfl⟩)
      · cases hc
    · exact h.off j hj (by rintro (q | ⟨q, _⟩) <;> exact hc (.inl (by omega)))
  · have e : i + 1 = n := by omega
    rw [e, Nat.mod_self]
    refine ⟨r + 1, h.hs, h.hl, by omega, h.nn, fun j hj hc => ?_, fun j hj _ => ?_, fun j hj _ => le' j hj, fun q => nomatch q⟩
    · rcases hc with hc | ⟨_, hc⟩
      · omega
      · cases hc
    · rw [h.on j hj (by rcases Nat.lt_or_ge j i with q | q; exact .inl q; exact .inr ⟨by omega, rfl⟩), Int.add_mul, Int.one_mul]
theorem fair_take {G sz : Int} {qs sent left : List Int} {n i : Nat} (h : Fair G qs sent left n i true) (h1 : 1 ≤ sz) (hle : sz ≤ left.getD i 0) :
    Fair G qs (sent.set i (sent.getD i 0 + sz)) (left.set i (left.getD i 0 - sz)) n i true ∧ (left.set i (left.getD i 0 - sz)).getD i 0 ≤ qs.getD i 0 + G - 2 := by
  obtain ⟨r, h⟩ := h
  have hs := h.hs
  have hl := h.hl
  have hi := h.at_lt
  have hset : (left.set i (left.getD i 0 - sz)).getD i 0 = left.getD i 0 - sz := getD_set_eq (by omega)
  have hset' : (sent.set i (sent.getD i 0 + sz)).getD i 0 = sent.getD i 0 + sz := getD_set_eq (by omega)
  have h0 := h.on i hi (by simp)
  have hat := h.leAt rfl
  refine ⟨⟨r, by rw [List.length_set]; exact hs, by rw [List.length_set]; exact hl, hi, fun j hj => ?_, fun j hj hc => ?_, fun j hj hc => ?_, fun j hj hc => ?_, fun _ => ?_⟩, by rw [hset]; omega⟩
  · by_cases e : j = i
    · subst e; rw [hset]; omega
    · rw [getD_set_ne e]; exact h.nn j hj
  · by_cases e : j = i
    · subst e; rw [hset, hset']; omega
    · rw [getD_set_ne e, getD_set_ne e]; exact h.on j hj hc
  · have e : j ≠ i := fun e => hc (.inr ⟨e, rfl⟩)
    rw [getD_set_ne e, getD_set_ne e]; exact h.off j hj hc
  · have e : j ≠ i := fun e => hc ⟨e, rfl⟩
    rw [getD_set_ne e]; exact h.le j hj hc
  · rw [hset]; omega
theorem gap_core {r G si sj qi qj li lj ki kj : Int} (hi : si + li = r * qi + ki * qi) (hj : sj + lj = r * qj + kj * qj) : si * qj - sj * qi = (ki - kj) * (qi * qj) - li * qj + lj * qi := by
  have e1 : si = r * qi + ki * qi - li := by omega
  have e2 : sj = r * qj + kj * qj - lj := by omega
  rw [e1, e2]
  simp only [Int.sub_mul, Int.add_mul]
  have c1 : r * qj * qi = r * qi * qj := by rw [Int.mul_assoc, Int.mul_comm qj qi, ← Int.mul_assoc]
  have c2 : kj * qj * qi = kj * (qi * qj) := by rw [Int.mul_assoc, Int.mul_comm qj qi]
  have c3 : ki * qi * qj = ki * (qi * qj) := by rw [Int.mul_assoc]
  rw [c1, c2, c3]
  omega
theorem gap_up {G si sj qi qj li lj d : Int} (hq1 : 1 ≤ qi) (hq2 : 1 ≤ qj) (e : si * qj - sj * qi = d * (qi * qj) - li * qj + lj * qi) (hl : 0 ≤ li)
    (h : (d = 1 ∧ lj ≤ G - 1) ∨ (d = 0 ∧ lj ≤ qj + G - 1) ∨ (d = -1 ∧ lj ≤ qj + G - 1)) (hG : 1 ≤ G) : si * qj - sj * qi ≤ qi * qj + (G - 1) * qi := by
  rw [e]
  have p0 : 0 ≤ li * qj := Int.mul_nonneg hl (by omega)
  have p1 : 0 ≤ qi * qj := Int.mul_nonneg (by omega) (by omega)
  rcases h with ⟨rfl, h⟩ | ⟨rfl, h⟩ | ⟨rfl, h⟩
  · have := Int.mul_le_mul_of_nonneg_right h (show 0 ≤ qi by omega)
    omega
  · have := Int.mul_le_mul_of_nonneg_right h (show 0 ≤ qi by omega)
    rw [show qj + G - 1 = qj + (G - 1) by omega, Int.add_mul, Int.mul_comm qj qi] at this
    omega
  · have := Int.mul_le_mul_of_nonneg_right h (show 0 ≤ qi by omega)
    rw [show qj + G - 1 = qj + (G - 1) by omega, Int.add_mul, Int.mul_comm qj qi] at this
    omega
theorem fair_gap1 {G : Int} {qs sent left : List Int} {n at_ i j : Nat} {b : Bool} (h : Fair G qs sent left n at_ b) (hG : 1 ≤ G) (hi : i < n) (hj : j < n) (hqi : 1 ≤ qs.getD i 0) (hqj : 1 ≤ qs.getD j 0) :
    sent.getD i 0 * qs.getD j 0 - sent.getD j 0 * qs.getD i 0 ≤ qs.getD i 0 * qs.getD j 0 + (G - 1) * qs.getD i 0 := by
  obtain ⟨r, h⟩ := h
  have key : ∀ k, k < n → ∃ c : Int, sent.getD k 0 + left.getD k 0 = r * qs.getD k 0 + c * qs.getD k 0 ∧ ((c = 1 ∧ (k < at_ ∨ (k = at_ ∧ b = true))) ∨ (c = 0 ∧ ¬ (k < at_ ∨ (k = at_ ∧ b = true)))) := fun k hk => by
    by_cases hc : k < at_ ∨ (k = at_ ∧ b = true)
    · exact ⟨1, by rw [Int.one_mul]; exact h.on k hk hc, .inl ⟨rfl, hc⟩⟩
    · exact ⟨0, by rw [Int.zero_mul, Int.add_zero]; exact h.off k hk hc, .inr ⟨rfl, hc⟩⟩
  obtain ⟨ci, ei, hci⟩ := key i hi
  obtain ⟨cj, ej, hcj⟩ := key j hj
  have hlj : left.getD j 0 ≤ qs.getD j 0 + G - 1 := by
    by_cases hc : j = at_ ∧ b = true
    · obtain ⟨rfl, hb⟩ := hc; exact h.leAt hb
    · have := h.le j hj hc; omega
  refine gap_up hqi hqj (gap_core (G := G) ei ej) (h.nn i hi) ?_ hG
  rcases hci with ⟨rfl, a⟩ | ⟨rfl, a⟩ <;> rcases hcj with ⟨rfl, c⟩ | ⟨rfl, c⟩
  · exact .inr (.inl ⟨by omega, hlj⟩)
  · exact .inl ⟨by omega, h.le j hj fun q => c (.inr q)⟩
  · exact .inr (.inr ⟨by omega, hlj⟩)
  · exact .inr (.inl ⟨by omega, hlj⟩)
theorem fair_gap {G : Int} {qs sent left : List Int} {n at_ i j : Nat} {b : Bool} (h : Fair G qs sent left n at_ b) (hG : 1 ≤ G) (hi : i < n) (hj : j < n) (hqi : 1 ≤ qs.getD i 0) (hqj : 1 ≤ qs.getD j 0) :
    ((sent.getD i 0 * qs.getD j 0 - sent.getD j 0 * qs.getD i 0).natAbs : Int) ≤ qs.getD i 0 * qs.getD j 0 + (G - 1) * max (qs.getD i 0) (qs.getD j 0) := by
  have a := fair_gap1 h hG hi hj hqi hqj
  have c := fair_gap1 h hG hj hi hqj hqi
  have m1 : (G - 1) * qs.getD i 0 ≤ (G - 1) * max (qs.getD i 0) (qs.getD j 0) := Int.mul_le_mul_of_nonneg_left (by omega) (by omega)
  have m2 : (G - 1) * qs.getD j 0 ≤ (G - 1) * max (qs.getD i 0) (qs.getD j 0) := Int.mul_le_mul_of_nonneg_left (by omega) (by omega)
  rw [Int.mul_comm (qs.getD j 0) (qs.getD i 0)] at c
  omega
theorem fair_15 {sent left : List Int} {at_ : Nat} (h : Fair 1 [1, 4] sent left 2 at_ true) (hle : left.getD at_ 0 ≤ ([1, 4] : List Int).getD at_ 0 + 1 - 2) (hsum : sent.getD 0 0 + sent.getD 1 0 = 15) : sent = [3, 12] := by
  obtain ⟨r, h⟩ := h
  have hs := h.hs
  match sent, hs with
  | [s0, s1], _ =>
    have n0 := h.nn 0 (by omega)
    have n1 := h.nn 1 (by omega)
    simp only [List.getD_cons_zero, List.getD_cons_succ] at *
    have hat := h.at_lt
    rcases (show at_ = 0 ∨ at_ = 1 by omega) with rfl | rfl
    · have a := h.on 0 (by omega) (by simp)
      have c := h.off 1 (by omega) (by simp)
      have e := h.le 1 (by omega) (by simp)
      simp only [List.getD_cons_zero, List.getD_cons_succ] at *
      omega
    · have a := h.on 0 (by omega) (by simp)
      have c := h.on 1 (by omega) (by simp)
      have e := h.le 0 (by omega) (by simp)
      simp only [List.getD_cons_zero, List.getD_cons_succ] at *
      have : s0 = 3 ∧ s1 = 12 := by omega
      rw [this.1, this.2]


theorem off18 : True := by w_top off; trivial
section
variable {prog : Program} {w : World} {A : Around} {h₀ : Heap} {L : Addr} {m : Str → Option Value} {env : Env} {x : Str} {scope : Scope} {cl : List (Str × Addr)} {s : Shared} {news : List (Addr × Obj)}
/-- the name of a block, read -/
theorem name_block {C : Addr} {oC : Obj} {m₂ : Str → Option Value} {v : Value} {pos : Pos} {E : Value → Shared → Prop} {Q : Value → Shared → Prop} (hC : LCg.NsObj oC m₂) (hx : m₂ x = some v) (hg : s.heap.get? C = some oC) (h : Q v s)
    (hk : (compEnvC scope cl C env).scope.kind = .function) (hl : (compEnvC scope cl C env).kindOf x = some .local) (hd : (x == ("__debug__" : Str)) = false) :
    wpAny (model prog w) A (eval (.Name x pos) (compEnvC scope cl C env)) Q E s := wpAny_Name (wpAny_loadName_local hk hl (hC.ns hg) hx h) hd
/-- a comprehension over a range whose test holds each time and that hands on the number itself -/
theorem rest_true {ct : PySem.Expr} {px : Pos} {Fin : List Value → List (Addr × Obj) → Prop} {n : Nat} {a : Int}
    (hk : ∀ C, (compEnvC scope cl C env).scope.kind = .function) (hl : ∀ C, (compEnvC scope cl C env).kindOf x = some .local) (hd : (x == ("__debug__" : Str)) = false)
    (turn : ∀ (i : Nat) (t : Tok) (I : Addr) (oI : Obj) (C : Addr) (oC : Obj) (D : Addr) (m₂ : Str → Option Value) (ys : List Value) (h : Heap) (tk : Nat) (E' : Value → Shared → Prop), i < n → LCg.NsObj oC m₂ → m₂ x = some (.int (a + (i : Int)) t) → Fr h₀ L h m → News h₀ L h ((I, oI) :: (C, oC) :: (D, LCg.lst ys) :: news) →
      wpAny (model prog w) A (isTrue ct (compEnvC scope cl C env) (eval ct (compEnvC scope cl C env))) (fun ok s' => ok = true ∧ ∃ h' tk', s' = { s with heap := h', toks := tk' } ∧ Fr h₀ L h' m ∧ News h₀ L h' ((I, oI) :: (C, oC) :: (D, LCg.lst ys) :: news)) E' { s with heap := h, toks := tk })
    (fin : ∀ ys : List Value, ys.length = n → Fin ys news) :
    LCt.CompRestT prog w A h₀ L m env ct (.Name x px) x scope cl s (fun _ => True) (fun i v => ∃ t, v = .int (a + (i : Int)) t) Fin n 0 [] news := by
  have key : ∀ (j i : Nat) (ys : List Value), i + j = n → ys.length = i → LCt.CompRestT prog w A h₀ L m env ct (.Name x px) x scope cl s (fun _ => True) (fun i v => ∃ t, v = .int (a + (i : Int)) t) Fin j i ys news := by
    intro j
    induction j with
    | zero =>
      intro i ys hi hy
      exact LCt.CompRestT.zero (fin ys (by omega))
    | succ j ih =>
      intro i ys hi hy
      refine LCt.CompRestT.succ ?_
      rintro v I oI C oC D m₂ h tk E' ⟨t, rfl⟩ hC hx F N off ne
      refine wpAny_mono (turn i t I oI C oC D m₂ ys h tk E' (by omega) hC hx F N) (fun ok s₂ hq => ?_) fun _ _ e => e
      obtain ⟨rfl, h', tk', rfl, F', N'⟩ := hq
      rw [if_pos rfl]
      refine name_block hC hx (N' (C, oC) (by simp)).1 ?_ (hk C) (hl C) hd
      exact LCg.CompEnd.intro F' N' news (fun _ hp => hp) off trivial (ih (i + 1) _ (by omega) (by simp [hy]))
  exact key n 0 [] (by omega) rfl
end


theorem off19 : True := by w_top off; trivial
theorem ne_of_cls {h₀ h : Heap} {L I a : Addr} {it o : Obj} {l : Led} (N : News h₀ L h l) (hI : (I, it) ∈ l) (hm : (a, o) ∈ l) (hc : o.cls ≠ it.cls) : a ≠ I := fun e => by
  have h1 := (N _ hm).1
  have h2 := (N _ hI).1
  simp only [e] at h1 h2
  rw [h1] at h2
  exact hc (congrArg Obj.cls (Option.some.inj h2))
theorem mem_offI_cls {h₀ h : Heap} {L I a : Addr} {it o : Obj} {l : Led} (N : News h₀ L h l) (hI : (I, it) ∈ l) (hm : (a, o) ∈ l) (hc : o.cls ≠ it.cls) : (a, o) ∈ offI I l := mem_offI hm (ne_of_cls N hI hm hc)

/-- names that hold what they held -/
def PinsOk : List (Str × Value) → (Str → Option Value) → Prop
  | [], _ => True
  | p :: r, m => m p.1 = some p.2 ∧ PinsOk r m
def pinM : List (Str × Value) → (Str → Option Value) → Str → Option Value
  | [], m => m
  | p :: r, m => fun y => if y = p.1 then some p.2 else pinM r m y
theorem pinM_eq : ∀ {l : List (Str × Value)} {m : Str → Option Value}, PinsOk l m → pinM l m = m
  | [], _, _ => rfl
  | p :: r, m, h => by
    funext y
    show (if y = p.1 then some p.2 else pinM r m y) = m y
    rw [pinM_eq h.2]
    split
    · next e => rw [e]; exact h.1.symm
    · rfl

section
variable {prog : Program} {w : World} {A : Around} {E : Value → Shared → Prop} {s : Shared} {env : Env} {h₀ : Heap} {L : Addr} {m : Str → Option Value} {x x₂ : Str} {body : List Stmt} {Q : Flow → Shared → Prop} {scope : Scope} {cl : List (Str × Addr)} {news : List (Addr × Obj)}

theorem compEnd_mono {s₁ : Shared} {I C D : Addr} {oI oC oD : Obj} {S : List (Addr × Obj) → Prop} {rest rest' : Value → List (Addr × Obj) → Prop} {y : Value} {s₂ : Shared} (h : LCg.CompEnd h₀ L m s₁ I oI C oC D oD S rest y s₂) (hr : ∀ nw, rest y nw → rest' y nw) :
    LCg.CompEnd h₀ L m s₁ I oI C oC D oD S rest' y s₂ := by
  obtain ⟨h', tk, nw, e, F, N, o, hS, r⟩ := h
  exact ⟨h', tk, nw, e, F, N, o, hS, hr nw r⟩

theorem comp_rest {elt : PySem.Expr} {S : List (Addr × Obj) → Prop} {V : Nat → Value → Prop} {Fin : List Value → List (Addr × Obj) → Prop} {n : Nat} (J : Nat → List Value → Led → Prop) (h0 : J 0 [] news)
    (turn : ∀ (i : Nat) (v : Value) (ys : List Value) (nw : Led) (I : Addr) (oI : Obj) (C : Addr) (oC : Obj) (D : Addr) (m₂ : Str → Option Value) (h : Heap) (tk : Nat) (E' : Value → Shared → Prop), i < n → J i ys nw → V i v → LCg.NsObj oC m₂ → m₂ x = some v → Fr h₀ L h m →
      News h₀ L h ((I, oI) :: (C, oC) :: (D, LCg.lst ys) :: nw) → LCg.Off3 I C D nw → ys.length = i →
      wpAny (model prog w) A (eval elt (compEnvC scope cl C env)) (LCg.CompEnd h₀ L m { s with heap := h, toks := tk } I oI C oC D (LCg.lst ys) S (fun y nw' => J (i + 1) (ys ++ [y]) nw')) E' { s with heap := h, toks := tk })
    (fin : ∀ ys nw, ys.length = n → J n ys nw → Fin ys nw) :
    LCg.CompRest prog w A h₀ L m env elt x scope cl s S V Fin n 0 [] news := by
  have key : ∀ (j i : Nat) (ys : List Value) (nw : Led), i + j = n → ys.length = i → J i ys nw → LCg.CompRest prog w A h₀ L m env elt x scope cl s S V Fin j i ys nw := by
    intro j
    induction j with
    | zero =>
      intro i ys nw hi hy hJ
      obtain rfl : i = n := by omega
      exact LCg.CompRest.zero (fin ys nw hy hJ)
    | succ j ih =>
      intro i ys nw hi hy hJ
      refine LCg.CompRest.succ ?_
      intro v I oI C oC D m₂ h tk E' hv hC hx F N off ne
      refine wpAny_mono (turn i v ys nw I oI C oC D m₂ h tk E' (by omega) hJ hv hC hx F N off hy) (fun y s₂ hq => compEnd_mono hq fun nw' hJ' => ih (i + 1) _ nw' (by omega) (by simp [hy]) hJ') fun _ _ e => e
  exact key n 0 [] news (by omega) rfl h0

theorem comp_restP {elt : PySem.Expr} {S : List (Addr × Obj) → Prop} {V : Nat → Value → Prop} {Fin : List Value → List (Addr × Obj) → Prop} {n : Nat} (J : Nat → List Value → Led → Prop) (h0 : J 0 [] news) (V2 : Nat → Value → Value → Prop)
    (src : ∀ (i : Nat) (v : Value) (ys : List Value) (nw : Led), i < n → J i ys nw → V i v → ∃ (t : Addr) (v₁ v₂ : Value) (nt : Nat), v = .ref t ∧ (t, tupOf [v₁, v₂] nt) ∈ nw ∧ V2 i v₁ v₂)
    (turn : ∀ (i : Nat) (v₁ v₂ : Value) (ys : List Value) (nw : Led) (I : Addr) (oI : Obj) (C : Addr) (oC : Obj) (D : Addr) (m₂ : Str → Option Value) (h : Heap) (tk : Nat) (E' : Value → Shared → Prop), i < n → J i ys nw → V2 i v₁ v₂ → LCg.NsObj oC m₂ → m₂ x = some v₁ → m₂ x₂ = some v₂ → Fr h₀ L h m →
      News h₀ L h ((I, oI) :: (C, oC) :: (D, LCg.lst ys) :: nw) → LCg.Off3 I C D nw → ys.length = i →
      wpAny (model prog w) A (eval elt (compEnvC scope cl C env)) (LCg.CompEnd h₀ L m { s with heap := h, toks := tk } I oI C oC D (LCg.lst ys) S (fun y nw' => J (i + 1) (ys ++ [y]) nw')) E' { s with heap := h, toks := tk })
    (fin : ∀ ys nw, ys.length = n → J n ys nw → Fin ys nw) :
    LCp.CompRestP prog w A h₀ L m env elt x x₂ scope cl s S V Fin n 0 [] news := by
  have key : ∀ (j i : Nat) (ys : List Value) (nw : Led), i + j = n → ys.length = i → J i ys nw → LCp.CompRestP prog w A h₀ L m env elt x x₂ scope cl s S V Fin j i ys nw := by
    intro j
    induction j with
    | zero =>
      intro i ys nw hi hy hJ
      obtain rfl : i = n := by omega
      exact LCp.CompRestP.zero (fin ys nw hy hJ)
    | succ j ih =>
      intro i ys nw hi hy hJ
      refine LCp.CompRestP.succ ?_
      intro v hv
      obtain ⟨t, v₁, v₂, nt, e, hm, h2⟩ := src i v ys nw (by omega) hJ hv
      refine ⟨t, _, v₁, v₂, nt, e, hm, rfl, rfl, ?_⟩
      intro I oI C oC D m₂ h tk E' hC hx hx₂ F N off ne
      refine wpAny_mono (turn i v₁ v₂ ys nw I oI C oC D m₂ h tk E' (by omega) hJ h2 hC hx hx₂ F N off hy) (fun y s₂ hq => compEnd_mono hq fun nw' hJ' => ih (i + 1) _ nw' (by omega) (by simp [hy]) hJ') fun _ _ e => e
  exact key n 0 [] news (by omega) rfl h0

theorem unrEnd_mono {s₁ s₂ : Shared} {I : Addr} {it : Obj} {rest rest' : (Str → Option Value) → List (Addr × Obj) → Prop} (h : UnrEnd h₀ L s₁ I it rest s₂) (hr : ∀ m' nw, rest m' nw → rest' m' nw) : UnrEnd h₀ L s₁ I it rest' s₂ := by
  obtain ⟨h', tk, m', nw, e, F, N, o, r⟩ := h
  exact ⟨h', tk, m', nw, e, F, N, o, hr m' nw r⟩
theorem unrPost_mono {s₁ s₂ : Shared} {I : Addr} {it : Obj} {rest rest' : (Str → Option Value) → List (Addr × Obj) → Prop} {f : Flow} (h : UnrPost h₀ L s₁ I it rest Q f s₂) (hr : ∀ m' nw, rest m' nw → rest' m' nw) : UnrPost h₀ L s₁ I it rest' Q f s₂ := by
  cases f with
  | ret v => exact h
  | brk => exact h
  | next => exact unrEnd_mono h hr
  | cont => exact unrEnd_mono h hr

theorem range_rest {I : Addr} {a : Int} {n : Nat} (pins : List (Str × Value)) (J : Nat → Led → Prop) (h0 : J 0 news) (hp : PinsOk pins m)
    (turn : ∀ (i : Nat) (t : Tok) (h : Heap) (tk : Nat) (u : Str → Option Value) (nw : Led), i < n → J i nw → Fr h₀ env.locals h (fun y => if y = x then some (.int (a + (i : Int)) t) else pinM pins u y) →
      News h₀ env.locals h ((I, itR (a + ((i + 1 : Nat) : Int)) ((n : Int) - ((i + 1 : Nat) : Int))) :: nw) →
      wpAny (model prog w) A (execs body env) (UnrPost h₀ env.locals { s with heap := h, toks := tk } I (itR (a + ((i + 1 : Nat) : Int)) ((n : Int) - ((i + 1 : Nat) : Int))) (fun m' nw' => PinsOk pins m' ∧ J (i + 1) nw') Q) E { s with heap := h, toks := tk })
    (done : ∀ (h : Heap) (tk : Nat) (u : Str → Option Value) (nw : Led), J n nw → Fr h₀ env.locals h (pinM pins u) → News h₀ env.locals h nw → Q .next { s with heap := h, toks := tk }) :
    RangeRest prog w A E h₀ env x body Q s I a n n 0 m news := by
  have key : ∀ (j i : Nat) (m₁ : Str → Option Value) (nw : Led), i + j = n → PinsOk pins m₁ → J i nw → RangeRest prog w A E h₀ env x body Q s I a n j i m₁ nw := by
    intro j
    induction j with
    | zero =>
      intro i m₁ nw hi hm hJ
      obtain rfl : i = n := by omega
      refine RangeRest.zero fun h tk F N => done h tk m₁ nw hJ ?_ N
      rw [pinM_eq hm]; exact F
    | succ j ih =>
      intro i m₁ nw hi hm hJ
      refine RangeRest.succ fun t h tk F N => ?_
      refine wpAny_mono (turn i t h tk m₁ nw (by omega) hJ (by rw [pinM_eq hm]; exact F) N) (fun f s₂ hq => unrPost_mono hq fun m' nw' ⟨hm', hJ'⟩ => ih (i + 1) m' nw' (by omega) hm' hJ') fun _ _ e => e
  exact key n 0 m news (by omega) hp h0

theorem unrEnd_fin {s₁ : Shared} {I : Addr} {it : Obj} {rest : (Str → Option Value) → List (Addr × Obj) → Prop} {h' : Heap} {tk : Nat} {m' : Str → Option Value} {all : Led} (F : Fr h₀ L h' m') (N : News h₀ L h' all) (hI : (I, it) ∈ all) (r : rest m' (offI I all)) :
    UnrEnd h₀ L s₁ I it rest { s₁ with heap := h', toks := tk } :=
  UnrEnd.intro F N (offI I all) (fun p hp => by
    rcases List.mem_cons.mp hp with rfl | hp
    · exact hI
    · exact offI_sub p hp) offI_ne r

theorem unrPostW_mono {s₁ s₂ : Shared} {its : List (Addr × Obj)} {rest rest' : (Str → Option Value) → List (Addr × Obj) → Prop} {f : Flow} (h : UnrPostW h₀ L s₁ its rest Q f s₂) (hr : ∀ m' nw, rest m' nw → rest' m' nw) : UnrPostW h₀ L s₁ its rest' Q f s₂ := by
  have key : UnrEndW h₀ L s₁ its rest s₂ → UnrEndW h₀ L s₁ its rest' s₂ := by
    rintro ⟨h', tk, m', nw, e, F, N, o, r⟩
    exact ⟨h', tk, m', nw, e, F, N, o, hr m' nw r⟩
  cases f with
  | ret v => exact h
  | brk => exact h
  | next => exact key h
  | cont => exact key h
/-- a loop over enumerate(xs) -/
theorem enum_rest {elts : List PySem.Expr} {k : Nat} {pos : Pos} {I : Addr} {vs : List Value} {keep : List (Addr × Obj)} (pins : List (Str × Value)) (J : Nat → Led → Prop) (h0 : J 0 news) (hp : PinsOk pins m)
    (turn : ∀ (i : Nat) (v : Value) (T : Addr) (t : Tok) (h : Heap) (tk : Nat) (u : Str → Option Value) (nw : Led) (o1 o2 : Obj), vs[i]? = some v → J i nw → IsTup h T #[.int (i : Int) t, v] → Fr h₀ env.locals h (pinM pins u) → o1.cls = .type "enumerate" → o2.cls = .type "list_iterator" →
      News h₀ env.locals h ((I + 1, o1) :: (I, o2) :: nw) →
      wpAny (model prog w) A (assign (.Tuple elts k pos) env (.ref T)) (fun _ s₂ => wpAny (model prog w) A (execs body env) (UnrPostW h₀ env.locals { s with heap := h, toks := tk } [(I + 1, o1), (I, o2)] (fun m' nw' => SubL keep nw' ∧ PinsOk pins m' ∧ J (i + 1) nw') Q) E s₂) E { s with heap := h, toks := tk })
    (done : ∀ (h : Heap) (tk : Nat) (u : Str → Option Value) (nw : Led), J vs.length nw → Fr h₀ env.locals h (pinM pins u) → News h₀ env.locals h nw → Q .next { s with heap := h, toks := tk }) :
    ItemsRest prog w A E h₀ env (.Tuple elts k pos) body Q s [(I + 1, "enumerate"), (I, "list_iterator")] keep (enumItems 0 vs) m news := by
  have key : ∀ (ws pre : List Value) (m₁ : Str → Option Value) (nw : Led), vs = pre ++ ws → PinsOk pins m₁ → J pre.length nw → ItemsRest prog w A E h₀ env (.Tuple elts k pos) body Q s [(I + 1, "enumerate"), (I, "list_iterator")] keep (enumItems pre.length ws) m₁ nw := by
    intro ws
    induction ws with
    | nil =>
      intro pre m₁ nw e hm hJ
      rw [List.append_nil] at e
      subst e
      refine ItemsRest.zero fun h tk F N => done h tk m₁ nw hJ ?_ N
      rw [pinM_eq hm]; exact F
    | cons v ws ih =>
      intro pre m₁ nw e hm hJ
      refine ItemsRest.pair fun T t h tk hT F => AllObj.cons fun o1 c1 => AllObj.cons fun o2 c2 => AllObj.nil fun N => ?_
      have hv : vs[pre.length]? = some v := by rw [e]; simp
      refine wpAny_mono (turn pre.length v T t h tk m₁ nw o1 o2 hv hJ hT (by rw [pinM_eq hm]; exact F) c1 c2 N) (fun _ s₂ hq => wpAny_mono hq (fun f s₃ hq' => unrPostW_mono hq' fun m' nw' ⟨hk, hm', hJ'⟩ => ⟨hk, ?_⟩) fun _ _ e => e) fun _ _ e => e
      have := ih (pre ++ [v]) m' nw' (by rw [e]; simp) hm' (by simpa using hJ')
      simpa using this
  exact key vs [] m news rfl hp h0
theorem unrEndW_fin {s₁ : Shared} {a b : Addr × Obj} {rest : (Str → Option Value) → List (Addr × Obj) → Prop} {h' : Heap} {tk : Nat} {m' : Str → Option Value} {all : Led} (F : Fr h₀ L h' m') (N : News h₀ L h' all) (ha : a ∈ all) (hb : b ∈ all) (r : rest m' (offI a.1 (offI b.1 all))) :
    UnrEndW h₀ L s₁ [a, b] rest { s₁ with heap := h', toks := tk } :=
  ⟨h', tk, m', offI a.1 (offI b.1 all), rfl, F, fun p hp => by
    rcases List.mem_cons.mp hp with rfl | hp
    · exact N _ ha
    · rcases List.mem_cons.mp hp with rfl | hp
      · exact N _ hb
      · exact N _ (offI_sub _ (offI_sub _ hp)), fun p hp q hq => by
    rcases List.mem_cons.mp hq with rfl | hq
    · exact offI_ne p hp
    · obtain rfl := List.mem_singleton.mp hq
      exact offI_ne p (offI_sub p hp), r⟩
end


theorem off20 : True := by w_top off; trivial
/-- a thing that waits: its tuple's address, its size, its mark, itself -/
structure Thing where
  ta : Addr
  sz : Int
  t : Tok
  v : Value
/-- a queue -/
structure RowS where
  (x dx l : Addr)
  k : RK
  (most moct oct : Int)
  (tm to tc : Tok)
  vd : Value
  n2 : Nat
  th : List Thing
abbrev RowS.dict (r : RowS) : Obj := rowD r.k (.int r.most r.tm) (.int r.moct r.to) (.ref r.l) (.int r.oct r.tc) r.vd
abbrev RowS.list (r : RowS) : Obj := listOf (r.th.map fun t => Value.ref t.ta).toArray r.n2
abbrev Thing.obj (t : Thing) : Obj := tupOf [.int t.sz t.t, t.v] 0
structure RowIn (led : Led) (r : RowS) : Prop where
  x : (r.x, instObj 111 r.dx) ∈ led
  dx : (r.dx, r.dict) ∈ led
  l : (r.l, r.list) ∈ led
  th : ∀ t ∈ r.th, (t.ta, t.obj) ∈ led
abbrev rowRefs (rows : List RowS) : List Value := rows.map fun r => Value.ref r.x
theorem rowRefs_at {rows : List RowS} {i : Nat} {r : RowS} (h : rows[i]? = some r) : (rowRefs rows)[i]? = some (.ref r.x) := by simp [rowRefs, h]
theorem rowRefs_len {rows : List RowS} : (rowRefs rows).length = rows.length := by simp [rowRefs]
theorem RowIn.list_cons {led : Led} {r : RowS} {t : Thing} {ts : List Thing} (h : RowIn led r) (e : r.th = t :: ts) : (r.l, listOf (Value.ref t.ta :: ts.map fun t => Value.ref t.ta).toArray r.n2) ∈ led := by
  have := h.l
  simp only [RowS.list, e, List.map_cons] at this
  exact this


theorem off21 : True := by w_top off; trivial
/-- what the heads want beyond what is left -/
def need : List Int → List Int → Nat
  | s :: ss, l :: ls => (s - l).toNat + need ss ls
  | _, _ => 0
theorem need_set : ∀ {ss ls : List Int} {i : Nat} {q : Int}, i < ls.length → i < ss.length → 1 ≤ q → ls.getD i 0 + q < ss.getD i 0 → need ss (ls.set i (ls.getD i 0 + q)) < need ss ls
  | [], _, _, _, _, h, _, _ => absurd h (Nat.not_lt_zero _)
  | _ :: _, [], _, _, h, _, _, _ => absurd h (Nat.not_lt_zero _)
  | s :: ss, l :: ls, 0, q, _, _, h1, h2 => by
    simp only [List.getD_cons_zero] at h2 ⊢
    simp only [List.set_cons_zero, need]
    omega
  | s :: ss, l :: ls, i + 1, q, ha, hb, h1, h2 => by
    simp only [List.getD_cons_succ] at h2 ⊢
    have := need_set (ss := ss) (ls := ls) (i := i) (q := q) (Nat.lt_of_succ_lt_succ ha) (Nat.lt_of_succ_lt_succ hb) h1 h2
    simp only [List.set_cons_succ, need]
    omega
def headSz (r : RowS) : Int := match r.th with | t :: _ => t.sz | [] => 0
theorem headSz_at {rows : List RowS} {i : Nat} {r : RowS} {t : Thing} {ts : List Thing} (h : rows[i]? = some r) (e : r.th = t :: ts) : (rows.map headSz).getD i 0 = t.sz := by
  rw [List.getD_eq_getElem?_getD, List.getElem?_map, h]
  simp [headSz, e]
theorem norm1 {dD la : Addr} {Z Y X X' : Obj} {led : Led} (h1 : Y.cls = Z.cls) (h2 : X.cls = X'.cls) (h3 : Z.cls ≠ X'.cls) : setL dD Z (setL la X' (setL la X (setL dD Y led))) = setL la X' (setL dD Z led) := by
  rw [setL_setL h2, setL_comm h3, setL_setL h1]
theorem norm2 {dD la : Addr} {Z Y X : Obj} {led : Led} (h1 : Y.cls = Z.cls) (h3 : Z.cls ≠ X.cls) : setL dD Z (setL la X (setL dD Y led)) = setL la X (setL dD Z led) := by
  rw [setL_comm h3, setL_setL h1]
theorem lt_of_setL {d x : Addr} {o : Obj} {l : Led} (h : ∀ p ∈ setL d o l, p.1 < x) : ∀ p ∈ l, p.1 < x := fun p hp => by
  have h1 : p.1 ∈ (setL d o l).map (·.1) := by rw [keys_setL]; exact List.mem_map_of_mem hp
  obtain ⟨q, hq, e⟩ := List.mem_map.mp h1
  exact e ▸ h q hq
theorem fmod_next {at_ n : Nat} (h : 0 < n) : ((at_ : Int) + 1).fmod (n : Int) = ((at_ + 1) % n : Nat) := by
  rw [Int.fmod_eq_emod_of_nonneg _ (by omega), Int.natCast_emod, Int.natCast_add]
  rfl
theorem news_two {h₀ h : Heap} {L dD la : Addr} {X Y : Obj} {c1 c2 : Addr × Obj} {led : Led} (N : News h₀ L h (c1 :: c2 :: led)) (h1 : (la, X) ∈ led) (h2 : (dD, Y) ∈ led) (hc : X.cls ≠ Y.cls) : News h₀ L h (c1 :: c2 :: setL la X (setL dD Y led)) := fun p hp => by
  rcases List.mem_cons.mp hp with rfl | hp
  · exact N _ (.head _)
  · rcases List.mem_cons.mp hp with rfl | hp
    · exact N _ (.tail _ (.head _))
    · have N0 : News h₀ L h led := fun q hq => N q (.tail _ (.tail _ hq))
      exact news_same (news_same N0 h2) (mem_setL_cls h1 hc) p hp
theorem setL_cells {d : Addr} {o : Obj} {c1 c2 : Addr × Obj} {l : Led} (h1 : c1.1 ≠ d) (h2 : c2.1 ≠ d) : setL d o (c1 :: c2 :: l) = c1 :: c2 :: setL d o l := by
  unfold setL
  rw [List.map_cons, List.map_cons, if_neg fun q => h1 q.1, if_neg fun q => h2 q.1]
section
variable {dD la a1 a2 : Addr} {o1 o2 : Obj} {e1 e2 e3 : List DictEntry} {n1 n2 n3 k0 k1 : Nat} {i0 i1 : Array Value} {led : Led}
theorem nrmB (h1 : a1 ≠ la) (h2 : a2 ≠ la) (h3 : a1 ≠ dD) (h4 : a2 ≠ dD) :
    setL dD (dictOf e2 n2) (setL la (listOf i1 k1) ((a1, o1) :: (a2, o2) :: setL la (listOf i0 k0) (setL dD (dictOf e1 n1) led))) = (a1, o1) :: (a2, o2) :: setL la (listOf i1 k1) (setL dD (dictOf e2 n2) led) := by
  rw [setL_cells h1 h2, setL_cells h3 h4, norm1 (Z := dictOf e2 n2) (Y := dictOf e1 n1) (X := listOf i0 k0) (X' := listOf i1 k1) rfl rfl cls_dl]
theorem nrmA (h1 : a1 ≠ la) (h2 : a2 ≠ la) (h3 : a1 ≠ dD) (h4 : a2 ≠ dD) :
    setL dD (dictOf e3 n3) (setL dD (dictOf e2 n2) (setL la (listOf i1 k1) ((a1, o1) :: (a2, o2) :: setL la (listOf i0 k0) (setL dD (dictOf e1 n1) led)))) = (a1, o1) :: (a2, o2) :: setL la (listOf i1 k1) (setL dD (dictOf e3 n3) led) := by
  rw [setL_setL (o := dictOf e2 n2) (o' := dictOf e3 n3) rfl, nrmB h1 h2 h3 h4]
theorem nrmC (h3 : a1 ≠ dD) (h4 : a2 ≠ dD) :
    setL dD (dictOf e2 n2) ((a1, o1) :: (a2, o2) :: setL la (listOf i0 k0) (setL dD (dictOf e1 n1) led)) = (a1, o1) :: (a2, o2) :: setL la (listOf i0 k0) (setL dD (dictOf e2 n2) led) := by
  rw [setL_cells h3 h4, norm2 (Z := dictOf e2 n2) (Y := dictOf e1 n1) (X := listOf i0 k0) rfl cls_dl]
end


theorem off22 : True := by w_top off; trivial
theorem ln22x1y1 : True := by
  (k_with "CompSrcT" => (k_here; (with_reducible show LCt.CompSrcT _ _ _ _ _ _ _ _ _ _ _ _ _ _ _); refine Stop.out ?_))
  (k_with "call ref" => (k_here; (with_reducible show wpAny _ _ (call (Value.ref 129) _) _ _ _); k_dflt (refine wpAny_call ?_; refine' ct_maygo (Here.mk (by first | (k_asm) | fail) (by first | (k_asm) | fail) (by first | (k_asm) | fail) (by first | (k_asm) | fail) (by first | (k_asm) | fail) (by first | (first | with_reducible assumption | exact rfl) | fail) (by first | (k_extra "room") | fail) (by first | (k_extra "units") | fail)) (by first | (tb_rel) | fail) (by first | (first | with_reducible assumption | omega) | fail) (by first | (first | with_reducible assumption | omega) | fail) (by first | (with_reducible assumption) | fail) (by first | (tb_rel) | fail) (by first | (tb_rel) | fail) (by first | (tb_rel) | fail) ?_; k_whole); intro zh' ztk' zF' zN'; (try dsimp only); (try k_sweep)))
  (k_with "call ref" => (k_here; (with_reducible show wpAny _ _ (call (Value.ref 155) _) _ _ _); k_dflt (refine wpAny_call ?_; refine' ct_goon (Here.mk (by first | (k_asm) | fail) (by first | (k_asm) | fail) (by first | (k_asm) | fail) (by first | (k_asm) | fail) (by first | (k_asm) | fail) (by first | (first | with_reducible assumption | exact rfl) | fail) (by first | (k_extra "room") | fail) (by first | (k_extra "units") | fail)) (by first | (tb_rel) | fail) (by first | (tb_rel) | fail) (by first | (tb_rel) | fail) (by first | (with_reducible assumption) | fail) (by first | (first | with_reducible assumption | omega) | fail) (by first | (first | with_reducible assumption | omega) | fail) ?_; k_whole); intro zt' zh' ztk' zF' zN'; (try dsimp only); (try k_sweep)))
  (k_with "eval ListComp" => (k_here; k_dflt (refine LCt.ListComp_T (F₀ := by k_asm) (by with_unfolding_all rfl) (by decide) (by rfl) (by decide) (by rfl) ?_)))
  (k_with "exec If" => (k_here; goal_lacks CutAt; (with_reducible show wpAny _ _ (exec (Stmt.If (Expr.UnaryOp _ (Expr.Attribute _ _ _) _) _ _ _) _) _ _ _); refine Stop.out ?_))
  trivial
/-- where two paths of the walk come together -/
def CutAt (h₀ : Heap) (L : Addr) (m : Str → Option Value) (s : Shared) (P : Led → Prop) (fl : Flow) (s' : Shared) : Prop :=
  fl = .next ∧ ∃ (h : Heap) (tk : Nat) (led : Led), s' = { s with heap := h, toks := tk } ∧ Fr h₀ L h m ∧ News h₀ L h led ∧ P led
theorem cut_at {M : Model} {A : Around} {E : Value → Shared → Prop} {s s₁ : Shared} {t : Sem Flow} {Q : Flow → Shared → Prop} {h₀ h₁ : Heap} {L : Addr} {m : Str → Option Value} (_ : Fr h₀ L h₁ m) (P : Led → Prop)
    (h : wpAny M A t (CutAt h₀ L m s P) E s₁) (k : ∀ (h : Heap) (tk : Nat) (led : Led), Fr h₀ L h m → News h₀ L h led → P led → Q .next { s with heap := h, toks := tk }) : wpAny M A t Q E s₁ :=
  wpAny_mono h (fun _ _ ⟨e, h, tk, led, es, F, N, p⟩ => by subst e; subst es; exact k h tk led F N p) fun _ _ e => e
section
variable {w : World} {mean : ExcName → Option Value} {mg mb : Str → Option Value} {dp un : Nat} {gd : Option (List Code)} {cn : Str} {cs : Scope} {a : Addr} {ccd : Value} {cl : List (Str × Addr)} {outer : List Env} {A₀ : Around} {base h₀ : Heap} {L : Addr} {m : Str → Option Value} {led : Led}
  {s : Shared} {R : Result → Shared → Prop} {D dD qa ra la : Addr} {kD : RK} {nq nr nl : Nat} {at_ : Nat} {tat : Tok} {qvs lvs args : List Value} {qs left : List Int} {rows : List RowS} {b : Bool}

set_option maxHeartbeats 2000000 in
theorem ct_look (Jp : List Int → Nat → Bool → Prop) (H : Here w mean mg mb A₀ base h₀ outer cs L m s.heap led dp un 8)
    (hargs : args = [.ref D] ∨ args = [.ref D, .none])
    (hD : (D, instObj 177 dD) ∈ led) (hdD : (dD, drD kD (.ref qa) (.ref ra) (.ref la) (.int (at_ : Int) tat) (.bool b)) ∈ led)
    (hqa : (qa, listOf qvs.toArray nq) ∈ led) (hq : IntsAre qvs qs) (hra : (ra, listOf (rowRefs rows).toArray nr) ∈ led) (hla : (la, listOf lvs.toArray nl) ∈ led) (hl : IntsAre lvs left)
    (hn : rows.length < 1000) (hqn : qs.length = rows.length) (hln : left.length = rows.length) (hat : at_ < rows.length)
    (hrow : ∀ r ∈ rows, RowIn led r) (hne : ∀ r ∈ rows, r.th ≠ []) (hq1 : ∀ i, i < rows.length → 1 ≤ qs.getD i 0)
    (hrl : ra ≠ la) (hql : qa ≠ la) (hxd : ∀ r ∈ rows, r.dx ≠ dD) (hxl : ∀ r ∈ rows, r.l ≠ la)
    (hJ : Jp left at_ b)
    (hbeg : ∀ left i, i < rows.length → Jp left i false → Jp (left.set i (left.getD i 0 + qs.getD i 0)) i true)
    (hmov : ∀ left i r t ts, rows[i]? = some r → r.th = t :: ts → Jp left i true → left.getD i 0 < t.sz → Jp left ((i + 1) % rows.length) false)
    (hR : ∀ (i : Nat) (r : RowS) (t : Thing) (ts : List Thing) (lvs' : List Value) (left' : List Int) (tat' ti : Tok) (T : Addr), rows[i]? = some r → r.th = t :: ts → Jp left' i true → left'.length = rows.length → IntsAre lvs' left' → t.sz ≤ left'.getD i 0 → (∀ p ∈ led, p.1 < T) →
      Back h₀ L m s R (.ref T) ((T, tupOf [.int (i : Int) ti, .int t.sz t.t, t.v] 0) :: setL la (listOf lvs'.toArray nl) (setL dD (drD kD (.ref qa) (.ref ra) (.ref la) (.int (i : Int) tat') (.bool true)) led))) :
    codeAny (model P w) (ktrTop dp un gd cn cs L a ccd cl outer) (.call (.ref 161) ⟨args, []⟩) R s := by
  obtain ⟨B, F, X, N, T, hk, hdp, hun⟩ := H
  have hfill : (fun (_ : Frag) (_ : OpenLaw) => True) (lawTop.heap_39 w.params) PySem.Challenge.rw_pq1158_01 := by k_fill; trivial
  clear hfill
  have hsz : (rowRefs rows).length ≤ sizeLine := by rw [rowRefs_len, PySem.sizeLine_eq]; omega
  k_dflt (refine' code_defC (binds := [(Str.ofString "self", .ref D), (Str.ofString "allowed", .none)]) ?k1 ?k2 ?k3 ?k4 ?k5 ?kA ?kF ?kK ?k6 ?k7 ?k8 ?k9 ?kB ?kD ?_ ?c2 ?c3 ?c4; (case kA => exact rfl); (case kF => exact rfl); (case kK => with_reducible assumption); (case k1 => k_asm); (case k2 => k_asm); (case k3 => k_asm); (case k4 => k_asm); (case k5 => k_asm); (case k6 => k_is); (case k7 => k_is); (case k8 => k_extra "room"); (case k9 => (rcases hargs with rfl | rfl; (exact binds_K (by k_in) rfl (by k_is) rfl rfl rfl); (exact binds_K (by k_in) rfl (by k_is) rfl rfl rfl))); (case kB => exact rfl); (case kD => decide +kernel); (case c2 => exact rfl); (case c3 => exact rfl); (case c4 => exact rfl); k_whole; intro g' L' h' tk' cells' FG' F' N' Y' B' X' T' l1)
  obtain ⟨o1, o2, hE', d1', d2'⟩ := CellsAre.two Y'
  subst hE'
  clear Y'
  simp only [List.cons_append, List.nil_append] at N'
  have hcl0 : @LT.lt Nat _ la L' := l1 (la, _) hla
  have hcd0 : @LT.lt Nat _ dD L' := l1 (dD, _) hdD
  have hcl1 : L' + 1 + 1 ≠ la := neN (by omega)
  have hcl2 : L' + 1 ≠ la := neN (by omega)
  have hcd1 : L' + 1 + 1 ≠ dD := neN (by omega)
  have hcd2 : L' + 1 ≠ dD := neN (by omega)
  clear hcl0 hcd0
  try dsimp only
  try k_unmd
  k_fold
  k_steps
  unfold Stop
  refine LCt.CompSrcT.range (by rfl) (by k_asm) (by k_asm) (by assumption) (by first | exact small_one (by omega) (by omega) (by rw [rowRefs_len]; omega) (by rw [rowRefs_len]; omega)) (rangeSize_nat _ _) (by rw [rowRefs_len, PySem.sizeLine_eq]; omega) ?_
  intro g0
  refine rest_true (by intro C; rfl) (by intro C; rfl) (by decide) ?_ ?_
  · intro i t I oI C oC D' m₂ ys h tk E' hi hC hx F1 N1
    rw [rowRefs_len] at hi
    obtain ⟨r, hr⟩ : ∃ r, rows[i]? = some r := ⟨rows[i]'(by omega), by simp⟩
    have hrm := List.mem_of_getElem? hr
    have hri : (rowRefs rows)[((0 : Int) + (i : Int)).toNat]? = some (.ref r.x) := by simpa using rowRefs_at hr
    obtain ⟨y0, ys0, hth⟩ := List.exists_cons_of_ne_nil (hne r hrm)
    have hr3' := (hrow r hrm).list_cons hth
    obtain ⟨hr1, hr2, hr3, hr4⟩ := hrow r hrm
    clear hr3 hr4
    k_steps
    all_goals (first | k_asm)
  · intro ys hys D1 h1 tk1 F1 N1 off1
    rw [rowRefs_len] at hys
    obtain ⟨y0, ys0, rfl⟩ : ∃ y ys', ys = y :: ys' := by
      cases ys with
      | nil => simp at hys; omega
      | cons y ys => exact ⟨_, _, rfl⟩
    k_steps
    unfold Stop
    refine While_inv2 (n₀ := 2 * need (rows.map headSz) left + (if b then 1 else 0)) (fun n _ nx => ∃ (i : Nat) (b : Bool) (lv : List Value) (lf : List Int) (tt : Tok), nx = (L' + 1 + 1, o1) :: (L' + 1, o2) :: setL la (listOf lv.toArray nl) (setL dD (drD kD (.ref qa) (.ref ra) (.ref la) (.int (i : Int) tt) (.bool b)) led) ∧
      IntsAre lv lf ∧ lf.length = rows.length ∧ i < rows.length ∧ Jp lf i b ∧ n = 2 * need (rows.map headSz) lf + (if b then 1 else 0)) (by k_asm)
      (news := (L' + 1 + 1, o1) :: (L' + 1, o2) :: setL la (listOf lvs.toArray nl) (setL dD (drD kD (.ref qa) (.ref ra) (.ref la) (.int (at_ : Int) tat) (.bool b)) led)) ?_ ⟨at_, b, lvs, left, tat, rfl, hl, hln, hat, hJ, rfl⟩ ?_ ?_
    · exact news_two (news_sub (by k_asm) fun p hp => .tail _ (.tail _ hp)) hla hdD cls_ld
    · rintro n m₁ nx h₁ tk₁ F₁ N₁ ⟨i, b', lv, lf, tt, rfl, hI, hlen, hi, hJ', rfl⟩
      obtain ⟨r, hr⟩ : ∃ r, rows[i]? = some r := ⟨rows[i], by simp⟩
      have hrm := List.mem_of_getElem? hr
      have hri : (rowRefs rows)[(i : Int).toNat]? = some (.ref r.x) := by simpa using rowRefs_at hr
      obtain ⟨y1, ys1, hth⟩ := List.exists_cons_of_ne_nil (hne r hrm)
      have hr3' := (hrow r hrm).list_cons hth
      obtain ⟨hr1, hr2, hr3, hr4⟩ := hrow r hrm
      have hr4' : (y1.ta, tupOf [.int y1.sz y1.t, y1.v] 0) ∈ led := hr4 y1 (by rw [hth]; exact .head _)
      clear hr3 hr4
      have hra1 := hxd r hrm
      have hra2 := hxl r hrm
      have hi0 : (0 : Int) ≤ (i : Int) := Int.natCast_nonneg i
      have hi63 : (i : Int) < 2 ^ 63 := i63 (Nat.lt_trans hi hn)
      have hi1 : (i : Int) < (rowRefs rows).length := by rw [rowRefs_len]; exact Int.ofNat_lt.mpr hi
      have hi2 : (i : Int) < lf.length := by rw [hlen]; exact Int.ofNat_lt.mpr hi
      have hi3 : (i : Int) < qs.length := by rw [hqn]; exact Int.ofNat_lt.mpr hi
      k_steps
      unfold Stop
      rename Fr _ _ _ _ => FC
      have FB := FC
      refine cut_at (s := s) (L := L') FB (fun nx => ∃ (lv' : List Value) (lf' : List Int) (tt' : Tok), nx = (L' + 1 + 1, o1) :: (L' + 1, o2) :: setL la (listOf lv'.toArray nl) (setL dD (drD kD (.ref qa) (.ref ra) (.ref la) (.int (i : Int) tt') (.bool true)) led) ∧
        IntsAre lv' lf' ∧ lf'.length = rows.length ∧ Jp lf' i true ∧ (lf'.getD i 0 < y1.sz → 2 * need (rows.map headSz) lf' < 2 * need (rows.map headSz) lf + (if b' then 1 else 0))) ?_ ?_
      · clear FB
        cases b'
        · k_steps
          rename Fr _ _ _ _ => FF
          rename News _ _ _ _ => NN
          rename IntsAre (List.set _ _ _) _ => hI'
          rw [nrmB hcl1 hcl2 hcd1 hcd2] at NN
          refine ⟨rfl, _, _, _, rfl, FF, NN, _, _, tt, rfl, hI', by rw [List.length_set]; exact hlen, hbeg lf i hi hJ', fun hlt => ?_⟩
          simp only [Int.toNat_natCast] at hlt ⊢
          have hq1' := hq1 i hi
          rw [List.getD_eq_getElem?_getD, List.getElem?_set_self (by omega)] at hlt
          have := need_set (ss := rows.map headSz) (ls := lf) (i := i) (q := qs.getD i 0) (by omega) (by simp; exact hi) hq1' (by rw [headSz_at hr hth]; exact hlt)
          simp only [Bool.false_eq_true, if_false]
          omega
        · k_steps
          rename Fr _ _ _ _ => FF
          rename News _ _ _ _ => NN
          refine ⟨rfl, _, _, _, rfl, FF, NN, _, _, tt, rfl, hI, hlen, hJ', fun _ => ?_⟩
          simp only [if_true]
          omega
      rintro h7 tk7 nx F7 N7 ⟨lv', lf', tt', rfl, hI', hlen', hJ1, hdec⟩
      clear FB
      have hi2' : (i : Int) < lf'.length := by rw [hlen']; exact Int.ofNat_lt.mpr hi
      k_steps
      all_goals dsimp only [WhileStep2]
      · k_steps
        rename Fr _ _ _ _ => FF
        rename News _ _ _ _ => NN
        with_reducible rename ∀ p : Addr × Obj, p ∈ (_ : List (Addr × Obj)) → _ => lT
        rename _ ≤ List.getD _ _ _ => hle
        refine hR i r y1 ys1 _ _ tt' tt' _ hr hth hJ1 hlen' hI' hle (lt_of_setL (lt_of_setL fun p hp => lT p (.tail _ (.tail _ (.tail _ hp))))) _ _ FF (news_sub NN fun p hp => ?_)
        rcases List.mem_cons.mp hp with rfl | hp
        · exact .head _
        · exact .tail _ (.tail _ (.tail _ (.tail _ hp)))
      · rename Fr _ _ _ _ => FF
        rename News _ _ _ _ => NN
        rename ¬ _ ≤ List.getD _ _ _ => hle
        rw [nrmC hcd1 hcd2, rowRefs_len, fmod_next (by omega)] at NN
        simp only [Int.toNat_natCast] at hle
        refine ⟨_, _, _, _, _, rfl, FF, NN, ?_, (i + 1) % rows.length, false, _, _, _, rfl, hI', hlen', Nat.mod_lt _ (by omega), hmov _ i r y1 ys1 hr hth hJ1 (Int.not_le.mp hle), rfl⟩
        have := hdec (Int.not_le.mp hle)
        simp only [Bool.false_eq_true, if_false]
        omega
    · first | passes_own | with_unfolding_all passes_own
end


theorem off24 : True := by w_top off; trivial
theorem Later.refl {Own : Addr → Prop} {l : Led} : Later Own l l := fun _ h _ => h
theorem Later.trans {Own : Addr → Prop} {a b c : Led} (h : Later Own a b) (h' : Later Own b c) : Later Own a c := fun p hp hn => h' p (h p hp hn) hn
theorem Later.set {Own : Addr → Prop} {l : Led} {d : Addr} {o : Obj} (h : Own d) : Later Own l (setL d o l) := fun p hp hn => mem_setL_ne (a := p.1) (o' := p.2) hp fun e => hn (e ▸ h)
theorem Later.cons {Own : Addr → Prop} {l : Led} {p : Addr × Obj} : Later Own l (p :: l) := fun _ hq _ => .tail _ hq
theorem Later.sub {Own : Addr → Prop} {l l' : Led} (h : ∀ p ∈ l, p ∈ l') : Later Own l l' := fun p hp _ => h p hp

/-- a DeficitRound -/
structure DR where
  (D dD qa ra la : Addr)
  kD : RK
  (nq nr nl at_ : Nat)
  tat : Tok
  (qvs lvs : List Value)
  (qs left : List Int)
  rows : List RowS
  b : Bool
abbrev DR.dict (S : DR) : Obj := drD S.kD (.ref S.qa) (.ref S.ra) (.ref S.la) (.int (S.at_ : Int) S.tat) (.bool S.b)
structure DRIn (Own : Addr → Prop) (led : Led) (S : DR) : Prop where
  hD : (S.D, instObj 177 S.dD) ∈ led
  hdD : (S.dD, drD S.kD (.ref S.qa) (.ref S.ra) (.ref S.la) (.int (S.at_ : Int) S.tat) (.bool S.b)) ∈ led
  hqa : (S.qa, listOf S.qvs.toArray S.nq) ∈ led
  hq : IntsAre S.qvs S.qs
  hra : (S.ra, listOf (rowRefs S.rows).toArray S.nr) ∈ led
  hla : (S.la, listOf S.lvs.toArray S.nl) ∈ led
  hl : IntsAre S.lvs S.left
  hn : S.rows.length < 1000
  hqn : S.qs.length = S.rows.length
  hln : S.left.length = S.rows.length
  hat : S.at_ < S.rows.length
  hrow : ∀ r ∈ S.rows, RowIn led r
  hq1 : ∀ i, i < S.rows.length → 1 ≤ S.qs.getD i 0
  hrl : S.ra ≠ S.la
  hql : S.qa ≠ S.la
  hxd : ∀ r ∈ S.rows, r.dx ≠ S.dD
  hxl : ∀ r ∈ S.rows, r.l ≠ S.la
  hxq : ∀ r ∈ S.rows, r.l ≠ S.qa
  hxr : ∀ r ∈ S.rows, r.l ≠ S.ra
  hdx : ∀ (i j : Nat) (r r' : RowS), S.rows[i]? = some r → S.rows[j]? = some r' → i ≠ j → r.dx ≠ r'.dx
  hll : ∀ (i j : Nat) (r r' : RowS), S.rows[i]? = some r → S.rows[j]? = some r' → i ≠ j → r.l ≠ r'.l
  ownD : Own S.dD
  ownL : Own S.la
  ownR : ∀ r ∈ S.rows, Own r.dx ∧ Own r.l
  ownC : ∀ a, Own a → a = S.dD ∨ a = S.la ∨ ∃ r ∈ S.rows, a = r.dx ∨ a = r.l
theorem DRIn.notOwn {Own : Addr → Prop} {led : Led} {S : DR} (I : DRIn Own led S) {b : Addr} (h : ∀ p ∈ led, p.1 ≠ b) : ¬ Own b := fun hb => by
  rcases I.ownC b hb with rfl | rfl | ⟨r, hr, rfl | rfl⟩
  · exact h _ I.hdD rfl
  · exact h _ I.hla rfl
  · exact h _ (I.hrow r hr).dx rfl
  · exact h _ (I.hrow r hr).l rfl

theorem RowIn.keep {led led' : Led} {r : RowS} (h : RowIn led r) (h1 : (r.x, instObj 111 r.dx) ∈ led → (r.x, instObj 111 r.dx) ∈ led') (h2 : (r.dx, r.dict) ∈ led → (r.dx, r.dict) ∈ led') (h3 : (r.l, r.list) ∈ led → (r.l, r.list) ∈ led')
    (h4 : ∀ a its n, (a, tupOf its n) ∈ led → (a, tupOf its n) ∈ led') : RowIn led' r := ⟨h1 h.x, h2 h.dx, h3 h.l, fun t ht => h4 _ _ _ (h.th t ht)⟩
theorem DRIn.sub {Own : Addr → Prop} {led led' : Led} {S : DR} (I : DRIn Own led S) (h : ∀ p ∈ led, p ∈ led') : DRIn Own led' S :=
  { I with hD := h _ I.hD, hdD := h _ I.hdD, hqa := h _ I.hqa, hra := h _ I.hra, hla := h _ I.hla, hrow := fun r hr => (I.hrow r hr).keep (h _) (h _) (h _) fun _ _ _ => h _ }
theorem DRIn.setD {Own : Addr → Prop} {led : Led} {S : DR} (I : DRIn Own led S) {at' : Nat} {tat' : Tok} {b' : Bool} (ha : at' < S.rows.length) :
    DRIn Own (setL S.dD (drD S.kD (.ref S.qa) (.ref S.ra) (.ref S.la) (.int (at' : Int) tat') (.bool b')) led) { S with at_ := at', tat := tat', b := b' } :=
  { I with
    hD := mem_setL_cls I.hD cls_r
    hdD := mem_setL_self I.hdD rfl
    hqa := mem_setL_cls I.hqa cls_ld
    hra := mem_setL_cls I.hra cls_ld
    hla := mem_setL_cls I.hla cls_ld
    hat := ha
    hrow := fun r hr => (I.hrow r hr).keep (fun h => mem_setL_cls h cls_r) (fun h => mem_setL_ne h (I.hxd r hr)) (fun h => mem_setL_cls h cls_ld) fun _ _ _ h => mem_setL_cls h cls_td }
theorem DRIn.setLeft {Own : Addr → Prop} {led : Led} {S : DR} (I : DRIn Own led S) {lvs' : List Value} {left' : List Int} {nl' : Nat} (hi : IntsAre lvs' left') (hn : left'.length = S.rows.length) :
    DRIn Own (setL S.la (listOf lvs'.toArray nl') led) { S with lvs := lvs', left := left', nl := nl' } :=
  { I with
    hD := mem_setL_cls I.hD cls_r
    hdD := mem_setL_cls I.hdD cls_dl
    hqa := mem_setL_ne I.hqa I.hql
    hra := mem_setL_ne I.hra I.hrl
    hla := mem_setL_self I.hla rfl
    hl := hi
    hln := hn
    hrow := fun r hr => (I.hrow r hr).keep (fun h => mem_setL_cls h cls_r) (fun h => mem_setL_cls h cls_dl) (fun h => mem_setL_ne h (I.hxl r hr)) fun _ _ _ h => mem_setL_cls h cls_tl }
theorem mem_set_cases {rows : List RowS} {i : Nat} {r r' q : RowS} (hr : rows[i]? = some r) (h : q ∈ rows.set i r') : (q = r' ∨ ∃ j, j ≠ i ∧ rows[j]? = some q) := by
  obtain ⟨j, hj⟩ := List.getElem?_of_mem h
  rw [List.getElem?_set] at hj
  split at hj
  · next e =>
    subst e
    have hlt : i < rows.length := by
      rcases Nat.lt_or_ge i rows.length with h | h
      · exact h
      · rw [List.getElem?_eq_none h] at hr; cases hr
    rw [if_pos hlt] at hj
    exact .inl (Option.some.inj hj).symm
  · next e => exact .inr ⟨j, Ne.symm e, hj⟩
theorem set_at {rows : List RowS} {i j : Nat} {r r' q : RowS} (hr : rows[i]? = some r) (hd : r'.dx = r.dx) (hl : r'.l = r.l) (h : (rows.set i r')[j]? = some q) : ∃ q₀, rows[j]? = some q₀ ∧ q.dx = q₀.dx ∧ q.l = q₀.l := by
  rw [List.getElem?_set] at h
  split at h
  · next e =>
    subst e
    have hlt : i < rows.length := by
      rcases Nat.lt_or_ge i rows.length with h | h
      · exact h
      · rw [List.getElem?_eq_none h] at hr; cases hr
    rw [if_pos hlt] at h
    obtain rfl := Option.some.inj h
    exact ⟨r, hr, hd, hl⟩
  · exact ⟨q, h, rfl, rfl⟩
theorem DRIn.setRow {Own : Addr → Prop} {led : Led} {S : DR} (I : DRIn Own led S) {i : Nat} {r r' : RowS} (hr : S.rows[i]? = some r) (hx : r'.x = r.x) (hd : r'.dx = r.dx) (hl : r'.l = r.l) (hth : ∀ t ∈ r'.th, (t.ta, t.obj) ∈ led) :
    DRIn Own (setL r.dx r'.dict (setL r.l r'.list led)) { S with rows := S.rows.set i r' } := by
  have hrm := List.mem_of_getElem? hr
  have hrefs : rowRefs (S.rows.set i r') = rowRefs S.rows := by
    unfold rowRefs
    rw [List.map_set, hx]
    refine List.ext_getElem? fun j => ?_
    rw [List.getElem?_set]
    split
    · next e =>
      subst e
      have hlt : i < S.rows.length := by
        rcases Nat.lt_or_ge i S.rows.length with h | h
        · exact h
        · rw [List.getElem?_eq_none h] at hr; cases hr
      rw [if_pos (by simpa using hlt), List.getElem?_map, hr]
      rfl
    · rfl
  have back : ∀ q ∈ S.rows.set i r', ∃ q₀ ∈ S.rows, q.dx = q₀.dx ∧ q.l = q₀.l := fun q hq => by
    obtain ⟨j, hj⟩ := List.getElem?_of_mem hq
    obtain ⟨q₀, h1, h2⟩ := set_at hr hd hl hj
    exact ⟨q₀, List.mem_of_getElem? h1, h2⟩
  have R := I.hrow r hrm
  exact
    { I with
      hD := mem_setL_cls (mem_setL_cls I.hD cls_r) cls_r
      hdD := mem_setL_ne (mem_setL_cls I.hdD cls_dl) (Ne.symm (I.hxd r hrm))
      hqa := mem_setL_cls (mem_setL_ne I.hqa (Ne.symm (I.hxq r hrm))) cls_ld
      hra := by
        show (S.ra, listOf (rowRefs (S.rows.set i r')).toArray S.nr) ∈ _
        rw [hrefs]
        exact mem_setL_cls (mem_setL_ne I.hra (Ne.symm (I.hxr r hrm))) cls_ld
      hla := mem_setL_cls (mem_setL_ne I.hla (Ne.symm (I.hxl r hrm))) cls_ld
      hn := by rw [List.length_set]; exact I.hn
      hqn := by rw [List.length_set]; exact I.hqn
      hln := by rw [List.length_set]; exact I.hln
      hat := by rw [List.length_set]; exact I.hat
      hq1 := by rw [List.length_set]; exact I.hq1
      hrow := fun q hq => by
        rcases mem_set_cases hr hq with rfl | ⟨j, hji, hj⟩
        · refine ⟨?_, ?_, ?_, fun t ht => mem_setL_cls (mem_setL_cls (hth t ht) cls_tl) cls_td⟩
          · rw [hx, hd]; exact mem_setL_cls (mem_setL_cls R.x cls_r) cls_r
          · rw [hd]; exact mem_setL_self (mem_setL_cls R.dx cls_dl) rfl
          · rw [hl]; exact mem_setL_cls (mem_setL_self R.l rfl) cls_ld
        · have hqm := List.mem_of_getElem? hj
          exact (I.hrow q hqm).keep (fun h => mem_setL_cls (mem_setL_cls h cls_r) cls_r) (fun h => mem_setL_ne (mem_setL_cls h cls_dl) (I.hdx j i q r hj hr hji))
            (fun h => mem_setL_cls (mem_setL_ne h (I.hll j i q r hj hr hji)) cls_ld) fun _ _ _ h => mem_setL_cls (mem_setL_cls h cls_tl) cls_td
      hxd := fun q hq => by obtain ⟨q₀, h, e1, e2⟩ := back q hq; rw [e1]; exact I.hxd q₀ h
      hxl := fun q hq => by obtain ⟨q₀, h, e1, e2⟩ := back q hq; rw [e2]; exact I.hxl q₀ h
      hxq := fun q hq => by obtain ⟨q₀, h, e1, e2⟩ := back q hq; rw [e2]; exact I.hxq q₀ h
      hxr := fun q hq => by obtain ⟨q₀, h, e1, e2⟩ := back q hq; rw [e2]; exact I.hxr q₀ h
      hdx := fun j k q q' hj hk hjk => by
        obtain ⟨q₀, h, e1, e2⟩ := set_at hr hd hl hj
        obtain ⟨q₁, h', e1', e2'⟩ := set_at hr hd hl hk
        rw [e1, e1']; exact I.hdx j k _ _ h h' hjk
      hll := fun j k q q' hj hk hjk => by
        obtain ⟨q₀, h, e1, e2⟩ := set_at hr hd hl hj
        obtain ⟨q₁, h', e1', e2'⟩ := set_at hr hd hl hk
        rw [e2, e2']; exact I.hll j k _ _ h h' hjk
      ownR := fun q hq => by obtain ⟨q₀, h, e1, e2⟩ := back q hq; rw [e1, e2]; exact I.ownR q₀ h
      ownC := fun a ha => by
        rcases I.ownC a ha with h | h | ⟨q, hq, h⟩
        · exact .inl h
        · exact .inr (.inl h)
        · obtain ⟨j, hj⟩ := List.getElem?_of_mem hq
          by_cases e : j = i
          · subst e
            rw [hr] at hj
            obtain rfl := Option.some.inj hj
            refine .inr (.inr ⟨r', ?_, by rw [hd, hl]; exact h⟩)
            refine List.mem_of_getElem? (i := j) ?_
            rw [List.getElem?_set_self]
            rcases Nat.lt_or_ge j S.rows.length with h | h
            · exact h
            · rw [List.getElem?_eq_none h] at hr; cases hr
          · refine .inr (.inr ⟨q, List.mem_of_getElem? (i := j) ?_, h⟩)
            rw [List.getElem?_set_ne (Ne.symm e)]; exact hj }


theorem off26 : True := by w_top off; trivial
/-- the queue at hand is being served and its head may go -/
def Ready (S : DR) : Prop := S.b = true ∧ ∀ r t ts, S.rows[S.at_]? = some r → r.th = t :: ts → t.sz ≤ S.left.getD S.at_ 0
section
variable {w : World} {mean : ExcName → Option Value} {mg mb : Str → Option Value} {dp un : Nat} {gd : Option (List Code)} {cn : Str} {cs : Scope} {a : Addr} {ccd : Value} {cl : List (Str × Addr)} {outer : List Env} {A₀ : Around} {base h₀ : Heap} {L : Addr} {m : Str → Option Value} {led : Led}
  {s : Shared} {R : Result → Shared → Prop} {Own : Addr → Prop} {S : DR} {args : List Value} {G : Int} {sent : List Int}

theorem cl_look (H : Here w mean mg mb A₀ base h₀ outer cs L m s.heap led dp un 8) (hargs : args = [.ref S.D] ∨ args = [.ref S.D, .none]) (I : DRIn Own led S) (hne : ∀ r ∈ S.rows, r.th ≠ [])
    (hF : Fair G S.qs sent S.left S.rows.length S.at_ S.b) (hsz : ∀ r ∈ S.rows, ∀ t ∈ r.th, t.sz ≤ G)
    (hR : ∀ (i : Nat) (r : RowS) (t : Thing) (ts : List Thing) (lvs' : List Value) (left' : List Int) (tat' ti : Tok) (T : Addr) (led' : Led), S.rows[i]? = some r → r.th = t :: ts → Fair G S.qs sent left' S.rows.length i true → t.sz ≤ left'.getD i 0 → (Ready S → i = S.at_) →
      DRIn Own led' { S with at_ := i, tat := tat', b := true, lvs := lvs', left := left' } → Later Own led led' → (T, tupOf [.int (i : Int) ti, .int t.sz t.t, t.v] 0) ∈ led' → (∀ p ∈ led, p.1 < T) → Back h₀ L m s R (.ref T) led') :
    codeAny (model P w) (ktrTop dp un gd cn cs L a ccd cl outer) (.call (.ref 161) ⟨args, []⟩) R s := by
  refine ct_look (kD := S.kD) (fun left i b => Fair G S.qs sent left S.rows.length i b ∧ (Ready S → i = S.at_ ∧ b = true ∧ left = S.left)) H hargs I.hD I.hdD I.hqa I.hq I.hra I.hla I.hl I.hn I.hqn I.hln I.hat I.hrow hne I.hq1 I.hrl I.hql I.hxd I.hxl
    ⟨hF, fun rd => ⟨rfl, rd.1, rfl⟩⟩ ?_ ?_ ?_
  · rintro left i hi ⟨h1, h2⟩
    exact ⟨fair_begin h1 (I.hq1 i hi), fun rd => nomatch (h2 rd).2.1⟩
  · rintro left i r t ts hr hth ⟨h1, h2⟩ hlt
    refine ⟨fair_move h1 hlt (hsz r (List.mem_of_getElem? hr) t (by rw [hth]; exact .head _)), fun rd => ?_⟩
    obtain ⟨rfl, _, rfl⟩ := h2 rd
    exact absurd (rd.2 r t ts hr hth) (by omega)
  · rintro i r t ts lvs' left' tat' ti T hr hth ⟨h1, h2⟩ hln' hi' hle hT h' tk' F' N'
    have hilt : i < S.rows.length := by
      rcases Nat.lt_or_ge i S.rows.length with h | h
      · exact h
      · rw [List.getElem?_eq_none h] at hr; cases hr
    have I' := ((I.setD (at' := i) (tat' := tat') (b' := true) hilt).setLeft (nl' := S.nl) hi' hln').sub (led' := (T, tupOf [.int (i : Int) ti, .int t.sz t.t, t.v] 0) :: setL S.la (listOf lvs'.toArray S.nl) (setL S.dD (drD S.kD (.ref S.qa) (.ref S.ra) (.ref S.la) (.int (i : Int) tat') (.bool true)) led)) fun _ h => .tail _ h
    refine hR i r t ts lvs' left' tat' ti T _ hr hth h1 hle (fun rd => (h2 rd).1) I' ?_ (.head _) hT h' tk' F' N'
    exact ((Later.set I.ownD).trans (Later.set I.ownL)).trans Later.cons
end


theorem off28 : True := by w_top off; trivial
theorem ln28x1y1 : True := by
  (k_with "call ref" => (k_here; (with_reducible show wpAny _ _ (call (Value.ref 161) _) _ _ _); refine Stop.out ?_))
  (k_with "call ref" => (k_here; (with_reducible show wpAny _ _ (call (Value.ref 108) _) _ _ _); refine Stop.out ?_))
  trivial
section
variable {w : World} {mean : ExcName → Option Value} {mg mb : Str → Option Value} {dp un : Nat} {gd : Option (List Code)} {cn : Str} {cs : Scope} {a : Addr} {ccd : Value} {cl : List (Str × Addr)} {outer : List Env} {A₀ : Around} {base h₀ : Heap} {L : Addr} {m : Str → Option Value} {led : Led}
  {s : Shared} {R : Result → Shared → Prop} {Own : Addr → Prop} {S : DR} {G : Int} {sent : List Int}

set_option maxHeartbeats 2000000 in
theorem ct_take (H : Here w mean mg mb A₀ base h₀ outer cs L m s.heap led dp un 10) (I : DRIn Own led S) (h2 : ∀ r ∈ S.rows, 2 ≤ r.th.length)
    (hF : Fair G S.qs sent S.left S.rows.length S.at_ S.b) (hsz : ∀ r ∈ S.rows, ∀ t ∈ r.th, 1 ≤ t.sz ∧ t.sz ≤ G) (hlen : ∀ r ∈ S.rows, r.th.length < 1000)
    (hR : ∀ (i : Nat) (r r' : RowS) (t : Thing) (ts : List Thing) (lvs' : List Value) (left' : List Int) (tat' ti : Tok) (nl' : Nat) (T : Addr) (led' : Led), S.rows[i]? = some r → r.th = t :: ts → r'.th = ts → Fair G S.qs (sent.set i (sent.getD i 0 + t.sz)) left' S.rows.length i true → left'.getD i 0 ≤ S.qs.getD i 0 + G - 2 → (Ready S → i = S.at_) →
      DRIn Own led' { S with at_ := i, tat := tat', b := true, lvs := lvs', left := left', nl := nl', rows := S.rows.set i r' } → Later Own led led' → (T, tupOf [.int (i : Int) ti, .int t.sz t.t, t.v] 0) ∈ led' → (∀ p ∈ led, p.1 < T) → Back h₀ L m s R (.ref T) led') :
    codeAny (model P w) (ktrTop dp un gd cn cs L a ccd cl outer) (.call (.ref 169) ⟨[.ref S.D], []⟩) R s := by
  obtain ⟨B, F, X, N, T, hk, hdp, hun⟩ := H
  have hfill : (fun (_ : Frag) (_ : OpenLaw) => True) (lawTop.heap_39 w.params) PySem.Challenge.rw_pq1158_01 := by k_fill; trivial
  clear hfill
  have hD := I.hD
  have hdD := I.hdD
  k_dflt (refine' code_def (binds := [(Str.ofString "self", .ref S.D), (Str.ofString "allowed", .none)]) ?k1 ?k2 ?k3 ?k4 ?k5 ?kA ?kF ?kK ?k6 ?k7 ?k8 ?k9 ?kB ?_ ?c2 ?c3 ?c4 ?c5; (case kA => exact rfl); (case kF => exact rfl); (case kK => assumption); (case k1 => k_asm); (case k2 => k_asm); (case k3 => k_asm); (case k4 => k_asm); (case k5 => k_asm); (case k6 => k_is); (case k7 => k_is); (case k8 => k_extra "room"); (case k9 => exact binds_K (by k_in) rfl (by k_is) rfl rfl rfl); (case c5 => decide); (case kB => exact locs rfl); (case c2 => exact rfl); (case c3 => exact rfl); (case c4 => exact rfl); k_whole; intro g' L' h' FG' F' N' B' X' T'; (try dsimp only); (try k_lift B'); (try k_fold))
  k_steps
  unfold Stop
  refine wpAny_call ?_
  k_dflt (refine' cl_look (G := G) (sent := sent) (Here.mk ?hB ?hF ?hX ?hN ?hT ?hk ?hd ?hu) ?hargs I ?hne hF ?hsz ?_; (case hB => k_asm); (case hF => k_asm); (case hX => k_asm); (case hN => k_asm); (case hT => k_asm); (case hk => first | with_reducible assumption | exact rfl); (case hd => k_extra "room"); (case hu => k_extra "units"); (case hargs => exact .inr rfl); (case hne => (intro r hr e; have := h2 r hr; rw [e] at this; exact absurd this (by decide))); (case hsz => exact fun r hr t ht => (hsz r hr t ht).2))
  intro i r t ts lvs1 left1 tat1 ti T1 led1 hr hth hF1 hle hrd I1 hl1 hT1 hfresh h1 tk1 F1 N1
  dsimp only
  k_sweep
  have hilt : i < S.rows.length := by
    rcases Nat.lt_or_ge i S.rows.length with h | h
    · exact h
    · rw [List.getElem?_eq_none h] at hr; cases hr
  have hrm := List.mem_of_getElem? hr
  have hri : (rowRefs S.rows)[(i : Int).toNat]? = some (.ref r.x) := by simpa using rowRefs_at hr
  have hi0 : (0 : Int) ≤ (i : Int) := Int.natCast_nonneg i
  have hn := I.hn
  have hi63 : (i : Int) < 2 ^ 63 := i63 (Nat.lt_trans (lt_of_at9 hr) hn)
  have R1 := I1.hrow r hrm
  have hD1 : (S.D, instObj 177 S.dD) ∈ led1 := I1.hD
  have hdD1 : (S.dD, drD S.kD (.ref S.qa) (.ref S.ra) (.ref S.la) (.int (i : Int) tat1) (.bool true)) ∈ led1 := I1.hdD
  have hra1 : (S.ra, listOf (rowRefs S.rows).toArray S.nr) ∈ led1 := I1.hra
  have hla1 : (S.la, listOf lvs1.toArray S.nl) ∈ led1 := I1.hla
  have hil : IntsAre lvs1 left1 := I1.hl
  have hln : left1.length = S.rows.length := I1.hln
  have hi2 : (i : Int) < left1.length := by rw [hln]; exact Int.ofNat_lt.mpr (lt_of_at9 hr)
  have hx1 := R1.x
  have hdx1 := R1.dx
  obtain ⟨t2, ts2, rfl⟩ : ∃ t2 ts2, ts = t2 :: ts2 := by
    cases ts with
    | nil => have := h2 r hrm; rw [hth] at this; simp at this
    | cons t2 ts2 => exact ⟨_, _, rfl⟩
  have hl1' := R1.list_cons hth
  rw [List.map_cons] at hl1'
  have hta : (t.ta, tupOf [.int t.sz t.t, t.v] 0) ∈ led1 := R1.th t (by rw [hth]; exact .head _)
  have hne1 := I.hxd r hrm
  have hne2 := I.hxl r hrm
  have hne3 := I.hxr r hrm
  have hne4 := I.hrl
  have hlen1 : (Value.ref t.ta :: Value.ref t2.ta :: List.map (fun t => Value.ref t.ta) ts2).length ≤ sizeLine := by
    have := hlen r hrm
    rw [hth] at this
    rw [PySem.sizeLine_eq]
    simp only [List.length_cons, List.length_map] at this ⊢
    omega
  k_steps
  unfold Stop
  refine wpAny_call ?_
  k_dflt (refine' ct_rowtake (Here.mk ?hB ?hF ?hX ?hN ?hT ?hk ?hd ?hu) hx1 hdx1 hl1' hta hlen1 ?_; (case hB => k_asm); (case hF => k_asm); (case hX => k_asm); (case hN => k_asm); (case hT => k_asm); (case hk => first | with_reducible assumption | exact rfl); (case hd => k_extra "room"); (case hu => k_extra "units"))
  intro tc1 h3 tk3 F3 N3
  dsimp only
  k_sweep
  k_steps
  rename Fr h₀ L _ _ => FF
  rename News h₀ L _ _ => NN
  rename IntsAre (List.set _ _ _) _ => hI'
  simp only [Int.toNat_natCast] at hI' NN
  have I3 := (I1.setRow (r' := { r with oct := r.oct - t.sz, tc := tc1, n2 := r.n2 + 1, th := t2 :: ts2 }) hr rfl rfl rfl fun q hq => R1.th q (by rw [hth]; exact .tail _ hq)).setLeft (nl' := S.nl) hI' (by rw [List.length_set]; show left1.length = (S.rows.set i _).length; rw [List.length_set]; exact hln)
  obtain ⟨f1, f2⟩ := fair_take hF1 (hsz r hrm t (by rw [hth]; exact .head _)).1 hle
  refine hR i r _ t (t2 :: ts2) _ _ tat1 ti S.nl T1 _ hr hth rfl f1 f2 hrd I3 ?_ ?_ hfresh _ _ FF NN
  · exact ((hl1.trans (Later.set (I1.ownR r hrm).2)).trans (Later.set (I1.ownR r hrm).1)).trans (Later.set I1.ownL)
  · exact mem_setL_cls (mem_setL_cls (mem_setL_cls hT1 cls_tl) cls_td) cls_tl
end


theorem off30 : True := by w_top off; trivial
theorem ln30x1y1 : True := by
  (k_with "call ref" => (k_here; (with_reducible show wpAny _ _ (call (Value.ref 122) _) _ _ _); refine Stop.out ?_))
  (k_with "call ref" => (k_here; (with_reducible show wpAny _ _ (call (Value.ref 87) _) _ _ _); refine Stop.out ?_))
  trivial
theorem lt_of_at {α : Type} {rows : List α} {i : Nat} {r : α} (hr : rows[i]? = some r) : i < rows.length := by
  rcases Nat.lt_or_ge i rows.length with h | h
  · exact h
  · rw [List.getElem?_eq_none h] at hr; cases hr
section
variable {w : World} {mean : ExcName → Option Value} {mg mb : Str → Option Value} {dp un : Nat} {gd : Option (List Code)} {cn : Str} {cs : Scope} {a : Addr} {ccd : Value} {cl : List (Str × Addr)} {outer : List Env} {A₀ : Around} {base h₀ : Heap} {L : Addr} {m : Str → Option Value} {led : Led}
  {s : Shared} {R : Result → Shared → Prop} {Own : Addr → Prop} {S : DR}

set_option maxHeartbeats 2000000 in
theorem ct_put {i : Nat} {r : RowS} {sz : Int} {ti t : Tok} {v : Value} (H : Here w mean mg mb A₀ base h₀ outer cs L m s.heap led dp un 10) (I : DRIn Own led S) (hr : S.rows[i]? = some r) (hmost : (r.th.length : Int) < r.most) (hoct : r.oct + sz ≤ r.moct) (hlen : r.th.length < 1000)
    (hR : ∀ (ta : Addr) (t' : Tok) (led' : Led), DRIn Own led' { S with rows := S.rows.set i { r with oct := r.oct + sz, tc := t', n2 := r.n2 + 1, th := r.th ++ [⟨ta, sz, t, v⟩] } } → Later Own led led' → (∀ p ∈ led, p.1 < ta) → Back h₀ L m s R (.bool true) led') :
    codeAny (model P w) (ktrTop dp un gd cn cs L a ccd cl outer) (.call (.ref 148) ⟨[.ref S.D, .int (i : Int) ti, .int sz t, v], []⟩) R s := by
  obtain ⟨B, F, X, N, T, hk, hdp, hun⟩ := H
  have hfill : (fun (_ : Frag) (_ : OpenLaw) => True) (lawTop.heap_39 w.params) PySem.Challenge.rw_pq1158_01 := by k_fill; trivial
  clear hfill
  have hD := I.hD
  have hdD := I.hdD
  have hra := I.hra
  have hrm := List.mem_of_getElem? hr
  have hilt := lt_of_at hr
  have hri : (rowRefs S.rows)[(i : Int).toNat]? = some (.ref r.x) := by simpa using rowRefs_at hr
  have hn := I.hn
  have hrsz : (rowRefs S.rows).length ≤ sizeLine := by rw [rowRefs_len, PySem.sizeLine_eq]; omega
  have hi1 : (i : Int) < (rowRefs S.rows).length := by rw [rowRefs_len]; omega
  have R1 := I.hrow r hrm
  have hx1 := R1.x
  have hdx1 := R1.dx
  have hl1 := R1.l
  have hlsz : (List.map (fun t => Value.ref t.ta) r.th).length ≤ sizeLine := by rw [List.length_map, PySem.sizeLine_eq]; omega
  k_dflt cell_enter
  k_steps
  unfold Stop
  refine wpAny_call ?_
  k_dflt (refine' ct_rowat (Here.mk ?hB ?hF ?hX ?hN ?hT ?hk ?hd ?hu) hra (by omega) hi1 hrsz hri ?_; (case hB => k_asm); (case hF => k_asm); (case hX => k_asm); (case hN => k_asm); (case hT => k_asm); (case hk => first | with_reducible assumption | exact rfl); (case hd => k_extra "room"); (case hu => k_extra "units"))
  intro h1 tk1 F1 N1
  dsimp only
  k_sweep
  k_steps
  unfold Stop
  refine wpAny_call ?_
  k_dflt (refine' ct_rowput (Here.mk ?hB ?hF ?hX ?hN ?hT ?hk ?hd ?hu) hx1 hdx1 hl1 hlsz (by rw [List.length_map]; exact hmost) hoct ?_; (case hB => k_asm); (case hF => k_asm); (case hX => k_asm); (case hN => k_asm); (case hT => k_asm); (case hk => first | with_reducible assumption | exact rfl); (case hd => k_extra "room"); (case hu => k_extra "units"))
  intro ta t' hta h2 tk2 F2 N2
  dsimp only
  k_sweep
  k_steps
  rename Fr h₀ L _ _ => FF
  rename News h₀ L _ _ => NN
  have I2 := (I.sub (led' := (ta, tupOf [.int sz t, v] 0) :: led) fun _ h => .tail _ h).setRow (r' := { r with oct := r.oct + sz, tc := t', n2 := r.n2 + 1, th := r.th ++ [⟨ta, sz, t, v⟩] }) hr rfl rfl rfl (fun q hq => by
    rcases List.mem_append.mp hq with hq | hq
    · exact .tail _ (R1.th q hq)
    · obtain rfl := List.mem_singleton.mp hq
      exact .head _)
  have e : (List.map (fun t => Value.ref t.ta) r.th ++ [Value.ref ta]) = List.map (fun t => Value.ref t.ta) (r.th ++ [(⟨ta, sz, t, v⟩ : Thing)]) := by rw [List.map_append]; rfl
  rw [e] at NN
  refine hR ta t' _ I2 ?_ hta _ _ FF NN
  exact (Later.cons.trans (Later.set (I.ownR r hrm).2)).trans (Later.set (I.ownR r hrm).1)
end


theorem off32 : True := by w_top off; trivial
theorem ln32x1y1 : True := by
  (k_with "CompSrc" => (k_here; (with_reducible show LCg.CompSrc _ _ _ _ _ _ _ _ _ _ _ _ _ _); refine Stop.out ?_))
  (k_with "CompEnd" => (k_here; (with_reducible show LCg.CompEnd _ _ _ _ _ _ _ _ _ _ _ _ _ _); refine Stop.out ?_))
  (k_with "SrcLP" => (k_here; (with_reducible show LCp.SrcLP _ _ _ _ _ _ _ _ _ _ _ _ _ _ _); refine Stop.out ?_))
  (k_with "call builtin:sum" => (k_here; (with_reducible show wpAny _ _ (call (Value.builtin "sum") [Value.ref _]) _ _ _); k_dflt (refine' sumK (by first | (with_unfolding_all rfl) | fail) (by first | (k_asm) | fail) (by first | (k_asm) | fail) (by first | (exact News.isList (by k_asm) (by tb_rel)) | fail) (by first | (with_reducible assumption) | fail) ?_; k_whole); intro zh' ztk' zt' zF' zN'; (try k_sweep)))
  (k_with "eval ListComp" => (k_here; (with_reducible show wpAny _ _ (eval (Expr.ListComp _ [⟨Expr.Name _ _, _, [], _⟩] _ _) _) _ _ _); k_dflt (refine LCg.ListComp_U (F₀ := by k_asm) (by with_unfolding_all rfl) (by decide) (by rfl) (by decide) (by rfl) ?_)))
  (k_with "eval ListComp" => (k_here; (with_reducible show wpAny _ _ (eval (Expr.ListComp _ [⟨Expr.Tuple _ _ _, _, [], _⟩] _ _) _) _ _ _); k_dflt (refine LCp.ListComp_P (F₀ := by k_asm) (by with_unfolding_all rfl) (by decide) (by rfl) (by decide) (by rfl) (by rfl) (by decide) ?_)))
  trivial
section
variable {w : World} {mean : ExcName → Option Value} {mg mb : Str → Option Value} {dp un : Nat} {gd : Option (List Code)} {cn : Str} {cs : Scope} {a : Addr} {ccd : Value} {cl : List (Str × Addr)} {outer : List Env} {A₀ : Around} {base h₀ : Heap} {L : Addr} {m : Str → Option Value} {led : Led}
  {s : Shared} {R : Result → Shared → Prop} {Own : Addr → Prop} {S : DR}

theorem ints_snoc {vs : List Value} {ns : List Int} {k : Int} {t : Tok} (h : IntsAre vs ns) : IntsAre (vs ++ [.int k t]) (ns ++ [k]) := by
  induction h with
  | nil => exact .cons _ _ .nil
  | cons _ _ _ ih => exact .cons _ _ ih
set_option maxHeartbeats 2000000 in
theorem ct_waiting (H : Here w mean mg mb A₀ base h₀ outer cs L m s.heap led dp un 4) (I : DRIn Own led S) (hlen : ∀ r ∈ S.rows, r.th.length < 1000)
    (hR : ∀ t, Back h₀ L m s R (.int ((S.rows.map fun r => (r.th.length : Int)).sum) t) led) :
    codeAny (model P w) (ktrTop dp un gd cn cs L a ccd cl outer) (.call (.ref 174) ⟨[.ref S.D], []⟩) R s := by
  obtain ⟨B, F, X, N, T, hk, hdp, hun⟩ := H
  have hfill : (fun (_ : Frag) (_ : OpenLaw) => True) (lawTop.heap_39 w.params) PySem.Challenge.rw_pq1158_01 := by k_fill; trivial
  clear hfill
  have hD := I.hD
  have hdD := I.hdD
  have hra := I.hra
  have hn := I.hn
  k_dflt cell_enter
  k_steps
  unfold Stop
  refine LCg.CompSrc.ledger (by rfl) (by k_asm) (by k_asm) hra (by rw [List.size_toArray, rowRefs_len, PySem.sizeLine_eq]; omega) ?_
  intro g0
  rw [List.size_toArray, rowRefs_len]
  refine comp_rest (fun i ys nw => nw = led ∧ IntsAre ys ((S.rows.take i).map fun r => (r.th.length : Int))) ⟨rfl, .nil⟩ ?_ ?_
  · rintro i v ys nw I1 oI C oC D1 m₂ h tk E' hi ⟨rfl, hys⟩ hv hC hx F1 N1 off hyl
    obtain ⟨r, hr⟩ : ∃ r, S.rows[i]? = some r := ⟨S.rows[i]'hi, by simp⟩
    have hrm := List.mem_of_getElem? hr
    have hv' : v = .ref r.x := by
      have := rowRefs_at hr
      rw [List.getElem?_toArray, this] at hv
      exact (Option.some.inj hv).symm
    subst hv'
    have R1 := I.hrow r hrm
    have hx1 := R1.x
    have hdx1 := R1.dx
    have hl1 := R1.l
    have hlsz : (List.map (fun t => Value.ref t.ta) r.th).length ≤ sizeLine := by have := hlen r hrm; rw [List.length_map, PySem.sizeLine_eq]; omega
    k_steps
    unfold Stop
    refine LCg.CompEnd.intro (by k_asm) (by k_asm) _ (fun p hp => hp) off (.inr ⟨_, hra, rfl, _, rfl⟩) ⟨rfl, ?_⟩
    rw [List.take_add_one, hr, List.map_append]
    simp only [Option.toList_some, List.map_cons, List.map_nil, List.length_map]
    exact ints_snoc hys
  · rintro ys nw hyl ⟨rfl, hys⟩
    rw [List.take_of_length_le (by simp)] at hys
    unfold LCg.FinE
    intro D1 h1 tk1 F1 N1 off1
    dsimp only
    k_steps
    exact hR _ _ _ (by k_asm) (news_tail (by k_asm))
end


theorem off34 : True := by w_top off; trivial
theorem ln34x1y1 : True := by
  (k_with "call builtin:min" => (k_here; (with_reducible show wpAny _ _ (call (Value.builtin "min") [Value.ref _]) _ _ _); k_dflt (refine' kso_min (by first | (k_asm) | fail) (by first | (k_asm) | fail) (by first | (exact News.isList (by k_asm) (by tb_rel)) | fail) (by first | (with_reducible assumption) | fail) (by first | (with_reducible assumption) | fail) (by first | (with_unfolding_all rfl) | fail) ?_; k_whole); intro zh' zM' zt' zk' zF' zN' za' zb'; (have zhM9' := (by with_reducible assumption : ∀ q ∈ _, (1 : Int) ≤ q) _ za'); clear za' zb'; (try k_sweep)))
  (k_with "call type:list" => (k_here; (with_reducible show wpAny _ _ (call (Value.type "list") [Value.ref _]) _ _ _); k_dflt (refine' list_copyK (by first | (k_asm) | fail) (by first | (k_asm) | fail) (by first | (exact News.isList (by k_asm) (by tb_rel)) | fail) ?_ (by first | (with_reducible assumption) | fail); k_whole); intro zD' zc' zh' zF' zN' zl1; (try k_lt zl1); (try k_sweep)))
  (k_with "binaryOp Mult ref int" => (k_here; (with_reducible show wpAny _ _ (binaryOp Operator.Mult (Value.ref _) (Value.int _ _)) _ _ _); k_dflt (refine' KMa.mul (by first | (k_asm) | fail) (by first | (k_asm) | fail) (by first | (exact News.isList (by k_asm) (by tb_rel)) | fail) (by first | (first | with_reducible assumption | omega) | fail) (by first | (first | with_reducible assumption | omega) | fail) (by first | ((simp only [List.length_cons, List.length_nil]; first | with_reducible assumption | omega)) | fail) (by first | (exact rfl) | fail) ?_; k_whole); intro zD' zh' zF' zN' zl1; (try k_lt zl1); (try k_sweep)))
  trivial
theorem allLt_mem {d : Addr} : ∀ {l : List (Addr × Obj)}, AllLt d l → ∀ p ∈ l, p.1 < d
  | [], _, _, h => nomatch h
  | _ :: _, x, p, h => by
    rcases List.mem_cons.mp h with rfl | h
    · exact x.1
    · exact allLt_mem x.2 p h
theorem newrow_end {h₀ h' : Heap} {L I C D x d l : Addr} {m : Str → Option Value} {s₁ : Shared} {oI oC oD : Obj} {S : Led → Prop} {rest : Value → Led → Prop} {tk : Nat} {nw : Led} {e1 e2 e3 e4 e2' e1' : List DictEntry} {n1 n2 n3 n4 n2' n1' : Nat}
    {ha hb hc hd he : Int} {ta tb tc td te : Tok} {M1 M2 : Int} {t1 t2 t4 : Tok} {v5 : Value} (F : Fr h₀ L h' m)
    (N : News h₀ L h' (setL d (dictOf [⟨ha, .str (Str.ofString "most") ta, .int M1 t1⟩, ⟨hb, .str (Str.ofString "most_octets") tb, .int M2 t2⟩, ⟨hc, .str (Str.ofString "things") tc, .ref l⟩, ⟨hd, .str (Str.ofString "octets") td, .int 0 t4⟩, ⟨he, .str (Str.ofString "dropped") te, v5⟩] 5)
      (setL d (dictOf e4 n4) (setL d (dictOf e3 n3) ((l, listOf #[] 0) :: setL d (dictOf e2 n2) (setL d (dictOf e1 n1) ((x, instObj 111 d) :: (d, dictOf [] 0) :: (I, oI) :: (C, oC) :: (D, oD) :: nw)))))))
    (l1 : I < d ∧ C < d ∧ D < d ∧ AllLt d nw) (l2 : d < x) (l3 : AllLt l (setL d (dictOf e2' n2') (setL d (dictOf e1' n1') ((x, instObj 111 d) :: (d, dictOf [] 0) :: (I, oI) :: (C, oC) :: (D, oD) :: nw)))) (off : LCg.Off3 I C D nw)
    (hr : ∀ (nw' : Led) (r : RowS), RowIn nw' r → r.x = x → r.th = [] → r.oct = 0 → r.most = M1 → r.moct = M2 → (∀ p ∈ nw, p ∈ nw') → (∀ p ∈ nw, p.1 < r.dx ∧ p.1 < r.l) → S nw' ∧ rest (.ref x) nw') :
    LCg.CompEnd h₀ L m s₁ I oI C oC D oD S rest (.ref x) { s₁ with heap := h', toks := tk } := by
  have c := lt_of_setL (lt_of_setL (allLt_mem l3))
  have cx : x < l := c (x, instObj 111 d) (.head _)
  have cI : I < l := c (I, oI) (.tail _ (.tail _ (.head _)))
  have cC : C < l := c (C, oC) (.tail _ (.tail _ (.tail _ (.head _))))
  have cD : D < l := c (D, oD) (.tail _ (.tail _ (.tail _ (.tail _ (.head _)))))
  have cn : ∀ p ∈ nw, p.1 < l := fun p hp => c p (.tail _ (.tail _ (.tail _ (.tail _ (.tail _ hp)))))
  have dn := allLt_mem l1.2.2.2
  have up : ∀ p : Addr × Obj, p.1 ≠ d → p ∈ (x, instObj 111 d) :: (d, dictOf [] 0) :: (I, oI) :: (C, oC) :: (D, oD) :: nw → p ∈ setL d (dictOf [⟨ha, .str (Str.ofString "most") ta, .int M1 t1⟩, ⟨hb, .str (Str.ofString "most_octets") tb, .int M2 t2⟩, ⟨hc, .str (Str.ofString "things") tc, .ref l⟩, ⟨hd, .str (Str.ofString "octets") td, .int 0 t4⟩, ⟨he, .str (Str.ofString "dropped") te, v5⟩] 5)
      (setL d (dictOf e4 n4) (setL d (dictOf e3 n3) ((l, listOf #[] 0) :: setL d (dictOf e2 n2) (setL d (dictOf e1 n1) ((x, instObj 111 d) :: (d, dictOf [] 0) :: (I, oI) :: (C, oC) :: (D, oD) :: nw))))) := fun p hp hm =>
    mem_setL_ne (a := p.1) (o' := p.2) (mem_setL_ne (mem_setL_ne (.tail _ (mem_setL_ne (mem_setL_ne hm hp) hp)) hp) hp) hp
  obtain ⟨hS, hrest⟩ := hr ((x, instObj 111 d) :: (d, dictOf [⟨ha, .str (Str.ofString "most") ta, .int M1 t1⟩, ⟨hb, .str (Str.ofString "most_octets") tb, .int M2 t2⟩, ⟨hc, .str (Str.ofString "things") tc, .ref l⟩, ⟨hd, .str (Str.ofString "octets") td, .int 0 t4⟩, ⟨he, .str (Str.ofString "dropped") te, v5⟩] 5) :: (l, listOf #[] 0) :: nw) { x := x, dx := d, l := l, k := ⟨ha, hb, hc, hd, he, ta, tb, tc, td, te⟩, most := M1, moct := M2, oct := 0, tm := t1, to := t2, tc := t4, vd := v5, n2 := 0, th := [] }
    ⟨.head _, .tail _ (.head _), .tail _ (.tail _ (.head _)), fun _ h => nomatch h⟩ rfl rfl rfl rfl rfl (fun p hp => .tail _ (.tail _ (.tail _ hp))) fun p hp => ⟨dn p hp, cn p hp⟩
  have iI := l1.1
  have iC := l1.2.1
  have iD := l1.2.2.1
  have off' : LCg.Off3 I C D ((x, instObj 111 d) :: (d, dictOf [⟨ha, .str (Str.ofString "most") ta, .int M1 t1⟩, ⟨hb, .str (Str.ofString "most_octets") tb, .int M2 t2⟩, ⟨hc, .str (Str.ofString "things") tc, .ref l⟩, ⟨hd, .str (Str.ofString "octets") td, .int 0 t4⟩, ⟨he, .str (Str.ofString "dropped") te, v5⟩] 5) :: (l, listOf #[] 0) :: nw) :=
    And.intro ⟨Nat.ne_of_gt (Nat.lt_trans iI l2), Nat.ne_of_gt (Nat.lt_trans iC l2), Nat.ne_of_gt (Nat.lt_trans iD l2)⟩ (And.intro ⟨Nat.ne_of_gt iI, Nat.ne_of_gt iC, Nat.ne_of_gt iD⟩ (And.intro ⟨Nat.ne_of_gt cI, Nat.ne_of_gt cC, Nat.ne_of_gt cD⟩ off))
  refine LCg.CompEnd.intro F N _ (fun p hp => ?_) off' hS hrest
  · rcases List.mem_cons.mp hp with rfl | hp
    · exact up _ (Nat.ne_of_lt iI) (.tail _ (.tail _ (.head _)))
    rcases List.mem_cons.mp hp with rfl | hp
    · exact up _ (Nat.ne_of_lt iC) (.tail _ (.tail _ (.tail _ (.head _))))
    rcases List.mem_cons.mp hp with rfl | hp
    · exact up _ (Nat.ne_of_lt iD) (.tail _ (.tail _ (.tail _ (.tail _ (.head _)))))
    rcases List.mem_cons.mp hp with rfl | hp
    · exact up _ (Nat.ne_of_gt l2) (.head _)
    rcases List.mem_cons.mp hp with rfl | hp
    · exact mem_setL_self (mem_setL_self (mem_setL_self (.tail _ (mem_setL_self (mem_setL_self (o₀ := dictOf [] 0) (.tail _ (.head _)) rfl) rfl)) rfl) rfl) rfl
    rcases List.mem_cons.mp hp with rfl | hp
    · exact mem_setL_cls (mem_setL_cls (mem_setL_cls (.head _) cls_ld) cls_ld) cls_ld
    · exact up _ (Nat.ne_of_lt (dn _ hp)) (.tail _ (.tail _ (.tail _ (.tail _ (.tail _ hp)))))
theorem off1_mem {D : Addr} : ∀ {l : List (Addr × Obj)}, LCg.Off1 D l → ∀ p ∈ l, p.1 ≠ D
  | [], _, _, h => nomatch h
  | _ :: _, x, p, h => by
    rcases List.mem_cons.mp h with rfl | h
    · exact x.1
    · exact off1_mem x.2 p h
theorem ints_rep0 {t : Tok} : ∀ n : Nat, IntsAre (List.replicate n [Value.int 0 t]).flatten (List.replicate n 0)
  | 0 => .nil
  | n + 1 => by
    rw [List.replicate_succ, List.flatten_cons, List.replicate_succ]
    exact .cons _ _ (ints_rep0 n)
def MineOf (d la : Addr) (rows : List RowS) (a : Addr) : Prop := a = d ∨ a = la ∨ ∃ r ∈ rows, a = r.dx ∨ a = r.l
theorem mem_of_eq {l l' : Led} (e : l = l') {p : Addr × Obj} (h : p ∈ l) : p ∈ l' := e ▸ h
theorem newdr_in {led nw B0 : Led} {x d qa D1 la l0 : Addr} {rows : List RowS} {ys qvs : List Value} {qs : List Int} {c : Nat} {e1 e2 e3 e4 e2' e2'' : List DictEntry} {n1 n2 n3 n4 n2' n2'' : Nat} {Z : Obj}
    {ha hb hc hd he : Int} {ta tb tc td te tat t0 : Tok} {M1 M2 : Int} {xx : Int}
    {h₀ h' : Heap} {L : Addr} (N : News h₀ L h' (setL d (dictOf [⟨ha, .str (Str.ofString "quanta") ta, .ref qa⟩, ⟨hb, .str (Str.ofString "rows") tb, .ref D1⟩, ⟨hc, .str (Str.ofString "left") tc, .ref la⟩, ⟨hd, .str (Str.ofString "at") td, .int 0 tat⟩, ⟨he, .str (Str.ofString "is_begun") te, .bool false⟩] 5)
      (setL d (dictOf e4 n4) (setL d (dictOf e3 n3) ((la, listOf ((List.replicate xx.toNat [Value.int 0 t0]).flatten).toArray 0) :: (l0, Z) :: setL d (dictOf e2 n2) ((D1, LCg.lst ys) :: nw))))))
    (hxm : (x, instObj 177 d) ∈ nw) (hdm : (d, dictOf e1 n1) ∈ nw) (hdB : (d, dictOf e1 n1) ∈ B0) (hqm : (qa, listOf qvs.toArray c) ∈ nw) (hqB : (qa, listOf qvs.toArray c) ∈ B0) (hqi : IntsAre qvs qs) (h1 : rows.length = qs.length) (h2 : ys = rowRefs rows)
    (h3 : ∀ p ∈ B0, p ∈ nw) (h4 : ∀ r ∈ rows, RowIn nw r ∧ r.th = [] ∧ r.oct = 0 ∧ r.most = M1 ∧ r.moct = M2 ∧ ∀ p ∈ B0, p.1 < r.dx ∧ p.1 < r.l) (h5 : rows.Pairwise (fun r r' => r.dx ≠ r'.dx ∧ r.l ≠ r'.l))
    (hB1 : ∀ p ∈ led, p ∈ B0) (l1 : ∀ p ∈ led, p.1 < d) (off1 : LCg.Off1 D1 nw) (l2 : AllLt l0 (setL d (dictOf e2'' n2'') ((D1, LCg.lst ys) :: nw))) (l3 : l0 < la ∧ AllLt la (setL d (dictOf e2' n2') ((D1, LCg.lst ys) :: nw)))
    (hpos : 0 < qs.length) (hlt : qs.length < 100) (hq1 : ∀ x ∈ qs, 1 ≤ x) (hxx : xx = (qs.length : Int)) :
    let led' := setL d (dictOf [⟨ha, .str (Str.ofString "quanta") ta, .ref qa⟩, ⟨hb, .str (Str.ofString "rows") tb, .ref D1⟩, ⟨hc, .str (Str.ofString "left") tc, .ref la⟩, ⟨hd, .str (Str.ofString "at") td, .int 0 tat⟩, ⟨he, .str (Str.ofString "is_begun") te, .bool false⟩] 5)
      (setL d (dictOf e4 n4) (setL d (dictOf e3 n3) ((la, listOf ((List.replicate xx.toNat [Value.int 0 t0]).flatten).toArray 0) :: (l0, Z) :: setL d (dictOf e2 n2) ((D1, LCg.lst ys) :: nw))))
    DRIn (MineOf d la rows) led' { D := x, dD := d, qa := qa, ra := D1, la := la, kD := ⟨ha, hb, hc, hd, he, ta, tb, tc, td, te⟩, nq := c, nr := ys.length, nl := 0, at_ := 0, tat := tat, qvs := qvs, lvs := (List.replicate xx.toNat [Value.int 0 t0]).flatten, qs := qs, left := List.replicate qs.length 0, rows := rows, b := false } ∧
    (∀ p ∈ led, p ∈ led') ∧ (∀ a, MineOf d la rows a → ∀ p ∈ led, p.1 < a) ∧ (∀ a, MineOf d la rows a → ∃ o, (a, o) ∈ led') := by
  intro led'
  subst hxx
  have c3 := lt_of_setL (allLt_mem l3.2)
  have nla : ∀ p ∈ nw, p.1 < la := fun p hp => c3 p (.tail _ hp)
  have up : ∀ p ∈ nw, p.1 ≠ d → p ∈ led' := fun p hp hn =>
    mem_setL_ne (a := p.1) (o' := p.2) (mem_setL_ne (mem_setL_ne (.tail _ (.tail _ (mem_setL_ne (.tail _ hp) hn))) hn) hn) hn
  have upc : ∀ (a : Addr) (o : Obj), (a, o) ∈ nw → o.cls ≠ .type "dict" → (a, o) ∈ led' := fun a o hp hn =>
    mem_setL_cls (mem_setL_cls (mem_setL_cls (.tail _ (.tail _ (mem_setL_cls (.tail _ hp) hn))) hn) hn) hn
  have hla : (la, listOf ((List.replicate (qs.length : Int).toNat [Value.int 0 t0]).flatten).toArray 0) ∈ led' := mem_setL_cls (mem_setL_cls (mem_setL_cls (.head _) cls_ld) cls_ld) cls_ld
  have hd' : (d, dictOf [⟨ha, .str (Str.ofString "quanta") ta, .ref qa⟩, ⟨hb, .str (Str.ofString "rows") tb, .ref D1⟩, ⟨hc, .str (Str.ofString "left") tc, .ref la⟩, ⟨hd, .str (Str.ofString "at") td, .int 0 tat⟩, ⟨he, .str (Str.ofString "is_begun") te, .bool false⟩] 5) ∈ led' :=
    mem_setL_self (mem_setL_self (mem_setL_self (.tail _ (.tail _ (mem_setL_self (.tail _ hdm) rfl))) rfl) rfl) rfl
  have hD1 : (D1, LCg.lst ys) ∈ led' := mem_setL_cls (mem_setL_cls (mem_setL_cls (.tail _ (.tail _ (mem_setL_cls (.head _) cls_ld))) cls_ld) cls_ld) cls_ld
  have rowUp : ∀ r ∈ rows, RowIn led' r := fun r hr => by
    obtain ⟨a1, a2, a3, a4, a5, a6⟩ := h4 r hr
    refine ⟨upc _ _ a1.x cls_r, up _ a1.dx (Nat.ne_of_gt (a6 _ hdB).1), upc _ _ a1.l cls_ld, fun t ht => ?_⟩
    rw [a2] at ht; cases ht
  have pw : ∀ (i j : Nat) (r r' : RowS), rows[i]? = some r → rows[j]? = some r' → i ≠ j → r.dx ≠ r'.dx ∧ r.l ≠ r'.l := fun i j r r' hi hj hij => by
    have hi' := lt_of_at hi
    have hj' := lt_of_at hj
    have ei : rows[i] = r := by rw [List.getElem?_eq_getElem hi'] at hi; exact Option.some.inj hi
    have ej : rows[j] = r' := by rw [List.getElem?_eq_getElem hj'] at hj; exact Option.some.inj hj
    rcases Nat.lt_or_gt_of_ne hij with h | h
    · have := (List.pairwise_iff_getElem.mp h5) i j hi' hj' h
      rw [ei, ej] at this; exact this
    · have := (List.pairwise_iff_getElem.mp h5) j i hj' hi' h
      rw [ei, ej] at this; exact ⟨Ne.symm this.1, Ne.symm this.2⟩
  refine ⟨?_, fun p hp => up p (h3 p (hB1 p hp)) (Nat.ne_of_lt (l1 p hp)), fun a ha p hp => ?_, fun a ha => ?_⟩
  · exact
    { hD := upc _ _ hxm cls_r
      hdD := hd'
      hqa := upc _ _ hqm cls_ld
      hq := hqi
      hra := by rw [h2] at hD1; exact h2 ▸ hD1
      hla := hla
      hl := by rw [Int.toNat_natCast]; exact ints_rep0 _
      hn := by show rows.length < 1000; omega
      hqn := h1.symm
      hln := by show (List.replicate qs.length 0).length = rows.length; rw [List.length_replicate, h1]
      hat := by show 0 < rows.length; omega
      hrow := rowUp
      hq1 := fun i hi => hq1 _ (by
        have hi' : i < qs.length := by have : i < rows.length := hi; omega
        show qs.getD i 0 ∈ qs
        rw [List.getD_eq_getElem?_getD, List.getElem?_eq_getElem hi']
        exact List.getElem_mem hi')
      hrl := Nat.ne_of_lt (c3 (D1, LCg.lst ys) (.head _))
      hql := Nat.ne_of_lt (nla _ hqm)
      hxd := fun r hr => Nat.ne_of_gt ((h4 r hr).2.2.2.2.2 _ hdB).1
      hxl := fun r hr => Nat.ne_of_lt (nla _ (h4 r hr).1.l)
      hxq := fun r hr => Nat.ne_of_gt ((h4 r hr).2.2.2.2.2 _ hqB).2
      hxr := fun r hr => off1_mem off1 _ (h4 r hr).1.l
      hdx := fun i j r r' hi hj hij => (pw i j r r' hi hj hij).1
      hll := fun i j r r' hi hj hij => (pw i j r r' hi hj hij).2
      ownD := .inl rfl
      ownL := .inr (.inl rfl)
      ownR := fun r hr => ⟨.inr (.inr ⟨r, hr, .inl rfl⟩), .inr (.inr ⟨r, hr, .inr rfl⟩)⟩
      ownC := fun _ h => h }
  · rcases ha with rfl | rfl | ⟨r, hr, rfl | rfl⟩
    · exact l1 p hp
    · exact nla p (h3 p (hB1 p hp))
    · exact ((h4 r hr).2.2.2.2.2 p (hB1 p hp)).1
    · exact ((h4 r hr).2.2.2.2.2 p (hB1 p hp)).2
  · rcases ha with rfl | rfl | ⟨r, hr, rfl | rfl⟩
    · exact ⟨_, hd'⟩
    · exact ⟨_, hla⟩
    · exact ⟨_, (rowUp r hr).dx⟩
    · exact ⟨_, (rowUp r hr).l⟩
section
variable {w : World} {mean : ExcName → Option Value} {mg mb : Str → Option Value} {dp un : Nat} {gd : Option (List Code)} {cn : Str} {cs : Scope} {a : Addr} {ccd : Value} {cl : List (Str × Addr)} {outer : List Env} {A₀ : Around} {base h₀ : Heap} {L : Addr} {m : Str → Option Value} {led : Led}
  {s : Shared} {Q E : Value → Shared → Prop} {q lm : Addr} {qvs lms : List Value} {qs : List Int} {nq nm : Nat} {M1 M2 : Int}

set_option maxHeartbeats 2000000 in
theorem ct_newdr (H : Here w mean mg mb A₀ base h₀ outer cs L m s.heap led dp un 6) (hq : (q, listOf qvs.toArray nq) ∈ led) (hqi : IntsAre qvs qs) (hlm : (lm, listOf lms.toArray nm) ∈ led) (hlen : lms.length = qs.length) (hpos : 0 < qs.length) (hlt : qs.length < 100)
    (hq1 : ∀ x ∈ qs, 1 ≤ x) (hlms : ∀ v ∈ lms, ∃ t n t1 t2, v = .ref t ∧ (t, tupOf [.int M1 t1, .int M2 t2] n) ∈ led) (hM1 : 1 ≤ M1) (hM2 : 1 ≤ M2)
    (hQ : ∀ (S : DR) (Own : Addr → Prop) (led' : Led) (h' : Heap) (tk' : Nat), Fr h₀ L h' m → News h₀ L h' led' → DRIn Own led' S → (∀ p ∈ led, p ∈ led') → (∀ a, Own a → ∀ p ∈ led, p.1 < a) → (∀ a, Own a → ∃ o, (a, o) ∈ led') → (∀ p ∈ led, p.1 ≠ S.qa ∧ p.1 ≠ S.ra) → S.qs = qs → S.left = List.replicate qs.length 0 → S.at_ = 0 → S.b = false →
      S.rows.length = qs.length → (∀ r ∈ S.rows, r.th = [] ∧ r.oct = 0 ∧ r.most = M1 ∧ r.moct = M2) → Q (.ref S.D) { s with heap := h', toks := tk' }) :
    wpAny (model P w) (ktrTop dp un gd cn cs L a ccd cl outer) (call (.ref 177) [.ref q, .ref lm] []) Q E s := by
  obtain ⟨B, F, X, N, T, hk, hdp, hun⟩ := H
  have hfill : (fun (_ : Frag) (_ : OpenLaw) => True) (lawTop.heap_39 w.params) PySem.Challenge.rw_pq1158_01 := by k_fill; trivial
  clear hfill
  have hql : qvs.length = qs.length := hqi.length
  have hsz1 : qvs.length ≤ sizeLine := by rw [PySem.sizeLine_eq]; omega
  have hsz2 : lms.length ≤ sizeLine := by rw [PySem.sizeLine_eq]; omega
  have hsz3 : qvs.toArray.size ≤ sizeLine := by rw [List.size_toArray]; exact hsz1
  k_dflt (refine' call_cls ?k1 ?k2 ?k3 ?k4 ?k5 ?k6 ?_; (case k1 => k_asm); (case k2 => k_asm); (case k3 => k_asm); (case k4 => k_is); (case k5 => k_is); (case k6 => k_is); k_whole; intro x' d' h' F' N' l1 l2; (try k_lt l1); (try k_lt2 l2); (try k_sweep); cell_enter)
  k_steps
  all_goals (try (exfalso; omega))
  unfold Stop
  rename News _ _ _ _ => N0
  rename _ ∧ _ ∧ AllLt _ _ => lq
  generalize hB0 : setL d' _ _ = B0 at N0
  have hB1 : ∀ p ∈ led, p ∈ B0 := fun p hp => by
    rw [← hB0]
    exact mem_setL_ne (a := p.1) (o' := p.2) (.tail _ (.tail _ (.tail _ hp))) (neN (Nat.ne_of_lt (l1 p hp)))
  refine LCp.SrcLP.ledger (by rfl) (by k_asm) N0 (hB1 _ hlm) (by rw [List.size_toArray]; exact hsz2) ?_
  intro g0
  rw [List.size_toArray]
  refine comp_restP (fun i ys nw => ∃ rows : List RowS, rows.length = i ∧ ys = rowRefs rows ∧ (∀ p ∈ B0, p ∈ nw) ∧ (∀ r ∈ rows, RowIn nw r ∧ r.th = [] ∧ r.oct = 0 ∧ r.most = M1 ∧ r.moct = M2 ∧ ∀ p ∈ B0, p.1 < r.dx ∧ p.1 < r.l) ∧ rows.Pairwise (fun r r' => r.dx ≠ r'.dx ∧ r.l ≠ r'.l)) ⟨[], rfl, rfl, fun _ h => h, (fun _ h => nomatch h), .nil⟩ (fun _ v1 v2 => ∃ t1 t2, v1 = .int M1 t1 ∧ v2 = .int M2 t2) ?_ ?_ ?_
  · rintro i v ys nw hi ⟨rows, h1, h2, h3, h4, h5⟩ hv
    rw [List.getElem?_toArray] at hv
    obtain ⟨t, n, t1, t2, rfl, hm⟩ := hlms v (List.mem_of_getElem? hv)
    exact ⟨t, _, _, n, rfl, h3 _ (hB1 _ hm), t1, t2, rfl, rfl⟩
  · rintro i v1 v2 ys nw I1 oI C1 oC D1 m₂ h tk E' hi ⟨rows, h1, h2, h3, h4, h5⟩ ⟨t1, t2, rfl, rfl⟩ hC hx hx2 F1 N1 off hyl
    k_steps
    unfold Stop
    refine newrow_end (by k_asm) (by k_asm) (by with_reducible assumption) (by with_reducible assumption) (by with_reducible assumption) off ?_
    intro nw' r' b1 b2 b3 b4 b5 b6 m4 m5
    refine ⟨.inr ⟨_, m4 _ (h3 _ (hB1 _ hlm)), rfl, _, rfl⟩, rows ++ [r'], ?_, ?_, ?_, ?_, ?_⟩
    · rw [List.length_append, h1]; rfl
    · rw [h2, rowRefs, rowRefs, List.map_append, ← b2]; rfl
    · exact fun p hp => m4 p (h3 p hp)
    · intro r hr
      rcases List.mem_append.mp hr with hr | hr
      · obtain ⟨a1, a2⟩ := h4 r hr
        exact ⟨a1.keep (m4 _) (m4 _) (m4 _) fun _ _ _ => m4 _, a2⟩
      · obtain rfl := List.mem_singleton.mp hr
        exact ⟨b1, b3, b4, b5, b6, fun p hp => m5 p (h3 p hp)⟩
    · rw [List.pairwise_append]
      refine ⟨h5, List.pairwise_singleton _ _, fun r hr r' hr' => ?_⟩
      obtain rfl := List.mem_singleton.mp hr'
      obtain ⟨a1, a2⟩ := h4 r hr
      exact ⟨Nat.ne_of_lt (m5 _ a1.dx).1, Nat.ne_of_lt (m5 _ a1.l).2⟩
  · rintro ys nw hyl ⟨rows, h1, h2, h3, h4, h5⟩
    unfold LCg.FinE
    intro D1 hh1 tk1 F1 N1 off1
    dsimp only
    have hb : ∀ p ∈ B0, p ∈ nw := h3
    rw [← hB0] at hb
    have hxm := hb (x', instObj 177 d') (mem_setL_cls (.tail _ (.head _)) cls_r)
    have hdm := hb _ (mem_setL_self (.tail _ (.tail _ (.head _))) rfl)
    have hqm := hb _ (mem_setL_cls (List.Mem.head _) cls_ld)
    have hqn := h3 _ (hB1 _ hq)
    have hdB := mem_of_eq hB0 (mem_setL_self (.tail _ (.tail _ (.head _))) rfl)
    have hqB := mem_of_eq hB0 (mem_setL_cls (List.Mem.head _) cls_ld)
    k_steps
    rename News h₀ L _ _ => NN
    rename Fr h₀ L _ _ => FF
    rename AllLt _ _ => q2
    rename _ ∧ AllLt _ _ => q3
    obtain ⟨z1, z2, z3, z4⟩ := newdr_in NN hxm hdm hdB hqm hqB hqi (h1.trans hlen) h2 h3 h4 h5 hB1 l1 off1 q2 q3 hpos hlt hq1 (by rw [hql])
    exact hQ _ _ _ _ _ FF NN z1 z2 z3 z4 (fun p hp => ⟨Nat.ne_of_lt (allLt_mem lq.2.2 p hp), off1_mem off1 p (h3 p (hB1 p hp))⟩) rfl rfl rfl rfl (h1.trans hlen) fun r hr => ⟨(h4 r hr).2.1, (h4 r hr).2.2.1, (h4 r hr).2.2.2.1, (h4 r hr).2.2.2.2.1⟩
end


theorem off36 : True := by w_top off; trivial
theorem ln36x1y1 : True := by
  (k_with "binaryOp Mult int int" => (k_here; (with_reducible show wpAny _ _ (binaryOp Operator.Mult (Value.int (List.getD (List.set _ _ _) _ _) _) (Value.int (List.getD (List.set _ _ _) _ _) _)) _ _ _); refine Stop.out ?_))
  trivial
theorem fmod_bnd {a k : Int} (h : 0 < k) : 0 ≤ a.fmod k ∧ a.fmod k < k := by
  rw [Int.fmod_eq_emod_of_nonneg _ (by omega)]
  exact ⟨Int.emod_nonneg _ (by omega), Int.emod_lt_of_pos _ h⟩
theorem fdiv_nn {a k : Int} (ha : 0 ≤ a) (h : 0 < k) : 0 ≤ a.fdiv k := by
  rw [Int.fdiv_eq_ediv_of_nonneg _ (by omega)]
  exact Int.ediv_nonneg ha (by omega)
section
variable {w : World} {mean : ExcName → Option Value} {mg mb : Str → Option Value} {dp un : Nat} {gd : Option (List Code)} {cn : Str} {cs : Scope} {a : Addr} {ccd : Value} {cl : List (Str × Addr)} {outer : List Env} {A₀ : Around} {base h₀ : Heap} {L : Addr} {m : Str → Option Value} {led : Led}
  {s : Shared} {R : Result → Shared → Prop} {src : Addr} {x y top : Int} {tx ty tt : Tok} {n : Nat}

set_option maxHeartbeats 2000000 in
theorem ct_ltake (H : Here w mean mg mb A₀ base h₀ outer cs L m s.heap led dp un 2) (hs : (src, listOf [.int x tx, .int y ty].toArray n) ∈ led) (hx : 0 ≤ x) (hy : 0 ≤ y) (hy2 : y < 2147483647) (htop : 1 ≤ top) (htop2 : top < 1000)
    (hR : ∀ (r x' y' : Int) (t tx' ty' : Tok), 0 ≤ r → r < top → 0 ≤ x' → 0 ≤ y' → y' < 2147483647 → Back h₀ L m s R (.int r t) (setL src (listOf [.int x' tx', .int y' ty'].toArray n) led)) :
    codeAny (model P w) (ktrTop dp un gd cn cs L a ccd cl outer) (.call (.ref 195) ⟨[.ref src, .int top tt], []⟩) R s := by
  obtain ⟨B, F, X, N, T, hk, hdp, hun⟩ := H
  have hfill : (fun (_ : Frag) (_ : OpenLaw) => True) (lawTop.heap_39 w.params) PySem.Challenge.rw_pq1158_01 := by k_fill; trivial
  clear hfill
  have hints : IntsAre [.int x tx, .int y ty] [x, y] := .cons _ _ (.cons _ _ .nil)
  have hl0 : (0 : Int) < ([x, y] : List Int).length := by simp
  have hl1 : (1 : Int) < ([x, y] : List Int).length := by simp
  k_dflt cell_enter
  k_steps
  · rename News h₀ L _ _ => NN
    exact hR _ (x.fdiv top) y _ _ ty (fmod_bnd (by omega)).1 (fmod_bnd (by omega)).2 (fdiv_nn hx (by omega)) hy hy2 _ _ (by k_asm) NN
  · unfold Stop
    have hb := fmod_bnd (a := ([x, y] : List Int).getD (Int.toNat 1) 0 * 39373 + 7) (k := 2147483647) (by omega)
    have e : (([x, y] : List Int).set (Int.toNat 1) ((([x, y] : List Int).getD (Int.toNat 1) 0 * 39373 + 7).fmod 2147483647)).getD (Int.toNat 1) 0 = (([x, y] : List Int).getD (Int.toNat 1) 0 * 39373 + 7).fmod 2147483647 := rfl
    rw [e]
    generalize (([x, y] : List Int).getD (Int.toNat 1) 0 * 39373 + 7).fmod 2147483647 = y1 at *
    refine mul_int ?_ (IntMulOk.of_left (intBits_le_64 (by omega) (by omega)))
    k_steps
    rename News h₀ L _ _ => NN
    exact hR _ x y1 _ tx _ (fmod_bnd (by omega)).1 (fmod_bnd (by omega)).2 hx hb.1 hb.2 _ _ (by k_asm) NN
end


theorem off38 : True := by w_top off; trivial
theorem ln38x1y1 : True := by
  (k_with "call ref" => (k_here; (with_reducible show wpAny _ _ (call (Value.ref 195) _) _ _ _); k_dflt (refine wpAny_call ?_; refine' ct_ltake (Here.mk (by first | (k_asm) | fail) (by first | (k_asm) | fail) (by first | (k_asm) | fail) (by first | (k_asm) | fail) (by first | (k_asm) | fail) (by first | (first | with_reducible assumption | exact rfl) | fail) (by first | (k_extra "room") | fail) (by first | (k_extra "units") | fail)) (by first | (tb_rel) | fail) (by first | (with_reducible assumption) | fail) (by first | (with_reducible assumption) | fail) (by first | (with_reducible assumption) | fail) (by first | (first | with_reducible assumption | omega) | fail) (by first | (first | with_reducible assumption | omega) | fail) ?_; k_whole); intro zr' zx' zy' zt' ztx' zty' zhr0' zhr1' zhx' zhy' zhy2' zh' ztk' zF' zN'; (try dsimp only); (try k_sweep)))
  trivial
section
variable {w : World} {mean : ExcName → Option Value} {mg mb : Str → Option Value} {dp un : Nat} {gd : Option (List Code)} {cn : Str} {cs : Scope} {a : Addr} {ccd : Value} {cl : List (Str × Addr)} {outer : List Env} {A₀ : Around} {base h₀ : Heap} {L : Addr} {m : Str → Option Value} {led : Led}
  {s : Shared} {R : Result → Shared → Prop} {src th : Addr} {x y : Int} {tx ty : Tok} {n nt : Nat} {tvs : List Value} {tns : List Int}

set_option maxHeartbeats 2000000 in
theorem ct_lone (H : Here w mean mg mb A₀ base h₀ outer cs L m s.heap led dp un 4) (hs : (src, listOf [.int x tx, .int y ty].toArray n) ∈ led) (hx : 0 ≤ x) (hy : 0 ≤ y) (hy2 : y < 2147483647)
    (ht : (th, listOf tvs.toArray nt) ∈ led) (hi : IntsAre tvs tns) (hne : th ≠ src) (hpos : 0 < tns.length) (hlt : tns.length < 1000)
    (hR : ∀ (i x' y' : Int) (t tx' ty' : Tok), 0 ≤ i → i < tns.length → 0 ≤ x' → 0 ≤ y' → y' < 2147483647 → Back h₀ L m s R (.int (tns.getD i.toNat 0) t) (setL src (listOf [.int x' tx', .int y' ty'].toArray n) led)) :
    codeAny (model P w) (ktrTop dp un gd cn cs L a ccd cl outer) (.call (.ref 202) ⟨[.ref src, .ref th], []⟩) R s := by
  obtain ⟨B, F, X, N, T, hk, hdp, hun⟩ := H
  have hfill : (fun (_ : Frag) (_ : OpenLaw) => True) (lawTop.heap_39 w.params) PySem.Challenge.rw_pq1158_01 := by k_fill; trivial
  clear hfill
  have hl := hi.length
  have hsz : tvs.length ≤ sizeLine := by rw [PySem.sizeLine_eq]; omega
  k_dflt cell_enter
  k_steps
  rename News h₀ L _ _ => NN
  exact hR _ _ _ _ _ _ (by with_reducible assumption) (by omega) (by with_reducible assumption) (by with_reducible assumption) (by with_reducible assumption) _ _ (by k_asm) NN
end


theorem off40 : True := by w_top off; trivial
local macro_rules | `(tactic| walk_at "pyIter ref") => `(tactic| (k_here; (with_reducible show wpAny _ _ (pyIter (Value.ref _)) _ _ _); refine Stop.out ?_))
theorem apart_absurd {g q1 q2 p G : Int} (hg : (g.natAbs : Int) ≤ p + (G - 1) * max q1 q2) (h : (p + (G - 1) * if q2 > q1 then q2 else q1) < if g < 0 then -g else g) : False := by
  have e : (if q2 > q1 then q2 else q1) = max q1 q2 := by split <;> omega
  rw [e] at h
  generalize (G - 1) * max q1 q2 = z at *
  split at h <;> omega
section
variable {w : World} {mean : ExcName → Option Value} {mg mb : Str → Option Value} {dp un : Nat} {gd : Option (List Code)} {cn : Str} {cs : Scope} {a : Addr} {ccd : Value} {cl : List (Str × Addr)} {outer : List Env} {A₀ : Around} {base h₀ : Heap} {L : Addr} {m : Str → Option Value} {led : Led}
  {s : Shared} {R : Result → Shared → Prop} {sa qa : Addr} {G : Int} {tG : Tok} {n1 n2 : Nat} {svs qvs : List Value} {sns qs : List Int}

set_option maxHeartbeats 4000000 in
theorem ct_apart (H : Here w mean mg mb A₀ base h₀ outer cs L m s.heap led dp un 2) (hs : (sa, listOf svs.toArray n1) ∈ led) (hsi : IntsAre svs sns) (hq : (qa, listOf qvs.toArray n2) ∈ led) (hqi : IntsAre qvs qs)
    (hlen : sns.length = qs.length) (hlt : qs.length < 100) (hq1 : ∀ i : Nat, i < qs.length → 1 ≤ qs.getD i 0 ∧ qs.getD i 0 ≤ 12) (hG : 1 ≤ G) (hG6 : G ≤ 6)
    (hgap : ∀ i j : Nat, i < qs.length → j < qs.length → ((sns.getD i 0 * qs.getD j 0 - sns.getD j 0 * qs.getD i 0).natAbs : Int) ≤ qs.getD i 0 * qs.getD j 0 + (G - 1) * max (qs.getD i 0) (qs.getD j 0))
    (hR : Back h₀ L m s R (.bool false) led) :
    codeAny (model P w) (ktrTop dp un gd cn cs L a ccd cl outer) (.call (.ref 209) ⟨[.ref sa, .ref qa, .int G tG], []⟩) R s := by
  obtain ⟨B, F, X, N, T, hk, hdp, hun⟩ := H
  have hfill : (fun (_ : Frag) (_ : OpenLaw) => True) (lawTop.heap_39 w.params) PySem.Challenge.rw_pq1158_01 := by k_fill; trivial
  clear hfill
  have hl1 := hsi.length
  have hl2 := hqi.length
  have hq9 : qs.length ≤ 1000 := Nat.le_of_lt (Nat.lt_trans hlt (by decide))
  have hsz : qvs.length ≤ sizeLine := le_line (hl2 ▸ hq9)
  k_dflt cell_enter
  try k_unmd
  try k_fold
  k_steps
  unfold Stop
  rename IsRange _ _ _ _ _ _ _ _ => RG
  refine iter_rangeUnr (n := qs.length) rfl RG (small_to hq9) rsize_to (by k_asm) (by k_asm) fun I hI => range_rest [(Str.ofString "sent", .ref sa), (Str.ofString "great", .int G tG), (Str.ofString "quanta", .ref qa)] (fun _ nw => ∀ p ∈ led, p ∈ nw) (fun _ h => h) ⟨rfl, rfl, rfl, trivial⟩ ?_ ?_
  · intro i t h tk u nw hi hJ F1 N1
    have hs1 := hJ _ hs
    have hq1' := hJ _ hq
    try k_unmd
    try k_fold
    k_steps
    unfold Stop
    rename IsRange _ _ _ _ _ _ _ _ => RG2
    refine iter_rangeUnr (n := i) rfl RG2 (small_to0 (Nat.le_trans (Nat.le_of_lt hi) hq9)) rsize_to0 (by k_asm) (by k_asm) fun I2 hI2 => range_rest [(Str.ofString "sent", .ref sa), (Str.ofString "great", .int G tG), (Str.ofString "quanta", .ref qa), (Str.ofString "one", .int (0 + (i : Int)) t)]
      (fun _ nw2 => ∀ p ∈ ((I, itR (0 + ((i + 1 : Nat) : Int)) ((qs.length : Int) - ((i + 1 : Nat) : Int))) : Addr × Obj) :: nw, p ∈ nw2) (fun _ h => h) ⟨rfl, rfl, rfl, rfl, trivial⟩ ?_ ?_
    · intro j t2 h2 tk2 u2 nw2 hj hJ2 F2 N2
      have hs2 := hJ2 _ (.tail _ hs1)
      have hq2 := hJ2 _ (.tail _ hq1')
      have hjq : j < qs.length := Nat.lt_trans hj hi
      have ei : (0 + (i : Int)).toNat = i := z_nat
      have ej : (0 + (j : Int)).toNat = j := z_nat
      have hi0 : (0 : Int) ≤ 0 + (i : Int) := z_nn
      have hj0 : (0 : Int) ≤ 0 + (j : Int) := z_nn
      have hi1 : 0 + (i : Int) < (sns.length : Int) := z_lt (hlen ▸ hi)
      have hj1 : 0 + (j : Int) < (sns.length : Int) := z_lt (hlen ▸ hjq)
      have hi2 : 0 + (i : Int) < (qs.length : Int) := z_lt hi
      have hj2 : 0 + (j : Int) < (qs.length : Int) := z_lt hjq
      have hi3 : 0 + (i : Int) < 2 ^ 63 := z63 (Nat.lt_of_lt_of_le hi hq9)
      have hj3 : 0 + (j : Int) < 2 ^ 63 := z63 (Nat.lt_of_lt_of_le hjq hq9)
      obtain ⟨bi1, bi2⟩ : 1 ≤ qs.getD (0 + (i : Int)).toNat 0 ∧ qs.getD (0 + (i : Int)).toNat 0 ≤ 12 := by rw [ei]; exact hq1 i hi
      obtain ⟨bj1, bj2⟩ : 1 ≤ qs.getD (0 + (j : Int)).toNat 0 ∧ qs.getD (0 + (j : Int)).toNat 0 ≤ 12 := by rw [ej]; exact hq1 j hjq
      have hg := hgap i j hi hjq
      rw [← ei, ← ej] at hg
      try k_unmd
      try k_fold
      k_steps
      · exact (apart_absurd hg (by with_reducible assumption)).elim
      · exact unrEnd_fin (by k_asm) (by k_asm) (.head _) ⟨⟨rfl, rfl, rfl, rfl, trivial⟩, fun p hp => mem_offI (a := p.1) (o := p.2) (.tail _ (hJ2 p hp)) (Nat.ne_of_lt (hI2 p hp))⟩
    · intro h2 tk2 u2 nw2 hJ2 F2 N2
      try k_unmd
      try k_fold
      k_steps
      exact unrEnd_fin (by k_asm) (by k_asm) (hJ2 _ (.head _)) ⟨⟨rfl, rfl, rfl, trivial⟩, fun p hp => mem_offI (a := p.1) (o := p.2) (hJ2 _ (.tail _ (hJ p hp))) (Nat.ne_of_lt (hI p hp))⟩
  · intro h tk u nw hJ F1 N1
    try k_unmd
    try k_fold
    k_steps
    exact hR _ _ (by k_asm) (news_sub (by k_asm) hJ)
end


theorem off42 : True := by w_top off; trivial
def off3L (I C D : Addr) (l : Led) : Led := l.filter fun p => decide (p.1 ≠ I ∧ p.1 ≠ C ∧ p.1 ≠ D)
theorem mem_off3 {I C D a : Addr} {o : Obj} {l : Led} (h : (a, o) ∈ l) (hn : a ≠ I ∧ a ≠ C ∧ a ≠ D) : (a, o) ∈ off3L I C D l := List.mem_filter.mpr ⟨h, decide_eq_true hn⟩
theorem compEnd_fin {h₀ h' : Heap} {L I C D : Addr} {m : Str → Option Value} {s₁ : Shared} {oI oC oD : Obj} {S : Led → Prop} {rest : Value → Led → Prop} {y : Value} {tk : Nat} {all : Led} (F : Fr h₀ L h' m) (N : News h₀ L h' all)
    (hI : (I, oI) ∈ all) (hC : (C, oC) ∈ all) (hD : (D, oD) ∈ all) (hS : S (off3L I C D all)) (r : rest y (off3L I C D all)) : LCg.CompEnd h₀ L m s₁ I oI C oC D oD S rest y { s₁ with heap := h', toks := tk } :=
  LCg.CompEnd.intro F N (off3L I C D all) (fun p hp => by
    rcases List.mem_cons.mp hp with rfl | hp
    · exact hI
    rcases List.mem_cons.mp hp with rfl | hp
    · exact hC
    rcases List.mem_cons.mp hp with rfl | hp
    · exact hD
    · exact (List.mem_filter.mp hp).1) (LCg.Off3.of fun p hp => of_decide_eq_true (List.mem_filter.mp hp).2) hS r
/-- no object of the program's own: an iterator -/
structure IsIt (o : Obj) : Prop where
  d : o.cls ≠ .type "dict"
  l : o.cls ≠ .type "list"
  t : o.cls ≠ .type "tuple"
  r : ∀ a, o.cls ≠ .ref a
theorem isIt_range {x y : Int} : IsIt (itR x y) := ⟨by show Value.type "range_iterator" ≠ Value.type "dict"; decide, by show Value.type "range_iterator" ≠ Value.type "list"; decide, by show Value.type "range_iterator" ≠ Value.type "tuple"; decide, fun _ h => nomatch h⟩
theorem isIt_enum {o : Obj} (h : o.cls = .type "enumerate") : IsIt o := ⟨by rw [h]; decide, by rw [h]; decide, by rw [h]; decide, fun _ e => by rw [h] at e; cases e⟩
theorem isIt_list {o : Obj} (h : o.cls = .type "list_iterator") : IsIt o := ⟨by rw [h]; decide, by rw [h]; decide, by rw [h]; decide, fun _ e => by rw [h] at e; cases e⟩
theorem mem_offI_l {h₀ h : Heap} {L I a : Addr} {it : Obj} {l : Led} {its : Array Value} {n : Nat} (hi : IsIt it) (N : News h₀ L h l) (hI : (I, it) ∈ l) (hm : (a, listOf its n) ∈ l) : (a, listOf its n) ∈ offI I l := mem_offI_cls N hI hm fun e => hi.l e.symm
theorem mem_offI_t {h₀ h : Heap} {L I a : Addr} {it : Obj} {l : Led} {its : List Value} {n : Nat} (hi : IsIt it) (N : News h₀ L h l) (hI : (I, it) ∈ l) (hm : (a, tupOf its n) ∈ l) : (a, tupOf its n) ∈ offI I l := mem_offI_cls N hI hm fun e => hi.t e.symm
theorem DRIn.off {Own : Addr → Prop} {h₀ h : Heap} {L I : Addr} {it : Obj} {led : Led} {S : DR} (hi : IsIt it) (N : News h₀ L h led) (hI : (I, it) ∈ led) (x : DRIn Own led S) : DRIn Own (offI I led) S :=
  { x with
    hD := mem_offI_cls N hI x.hD fun e => hi.r _ e.symm
    hdD := mem_offI_cls N hI x.hdD fun e => hi.d e.symm
    hqa := mem_offI_l hi N hI x.hqa
    hra := mem_offI_l hi N hI x.hra
    hla := mem_offI_l hi N hI x.hla
    hrow := fun r hr => (x.hrow r hr).keep (fun h => mem_offI_cls N hI h fun e => hi.r _ e.symm) (fun h => mem_offI_cls N hI h fun e => hi.d e.symm) (fun h => mem_offI_l hi N hI h) fun _ _ _ h => mem_offI_t hi N hI h }
theorem DRIn.later {Own O2 : Addr → Prop} {led led' : Led} {S : DR} (x : DRIn Own led S) (h : Later O2 led led') (hn : ∀ p ∈ led, (p.1 = S.D ∨ p.1 = S.dD ∨ p.1 = S.qa ∨ p.1 = S.ra ∨ p.1 = S.la ∨ ∃ r ∈ S.rows, p.1 = r.x ∨ p.1 = r.dx ∨ p.1 = r.l ∨ ∃ t ∈ r.th, p.1 = t.ta) → ¬ O2 p.1) : DRIn Own led' S :=
  { x with
    hD := mem_later h x.hD (hn _ x.hD (.inl rfl))
    hdD := mem_later h x.hdD (hn _ x.hdD (.inr (.inl rfl)))
    hqa := mem_later h x.hqa (hn _ x.hqa (.inr (.inr (.inl rfl))))
    hra := mem_later h x.hra (hn _ x.hra (.inr (.inr (.inr (.inl rfl)))))
    hla := mem_later h x.hla (hn _ x.hla (.inr (.inr (.inr (.inr (.inl rfl))))))
    hrow := fun r hr => ⟨mem_later h (x.hrow r hr).x (hn _ (x.hrow r hr).x (.inr (.inr (.inr (.inr (.inr ⟨r, hr, .inl rfl⟩)))))), mem_later h (x.hrow r hr).dx (hn _ (x.hrow r hr).dx (.inr (.inr (.inr (.inr (.inr ⟨r, hr, .inr (.inl rfl)⟩)))))),
      mem_later h (x.hrow r hr).l (hn _ (x.hrow r hr).l (.inr (.inr (.inr (.inr (.inr ⟨r, hr, .inr (.inr (.inl rfl))⟩)))))), fun t ht => mem_later h ((x.hrow r hr).th t ht) (hn _ ((x.hrow r hr).th t ht) (.inr (.inr (.inr (.inr (.inr ⟨r, hr, .inr (.inr (.inr ⟨t, ht, rfl⟩))⟩))))))⟩ }
section
variable {prog : Program} {w : World} {A : Around} {E : Value → Shared → Prop} {s : Shared} {h₀ : Heap} {L : Addr} {m : Str → Option Value} {led : Led} {cn : Str} {cs : Scope} {a c : Addr} {ccd : Value} {cl : List (Str × Addr)} {x : Str} {v : Value} {v₀ : Option Value} {o : Obj}
theorem storeC_S {Q : Unit → Shared → Prop} (F : Fr h₀ L s.heap m) (N : News h₀ L s.heap led) (hc : cl.lookup x = some c) (hm : (c, o) ∈ led) (hd : o.data = .cell v₀)
    (h : ∀ h' o', Fr h₀ L h' m → News h₀ L h' ((c, o') :: offI c led) → o'.data = .cell (some v) → Q () { s with heap := h' })
    (hk : cs.kind = .function := by rfl) (hx : (envX cn cs L a ccd cl).kindOf x = some .cell := by rfl) : wpAny (model prog w) A (storeName (envX cn cs L a ccd cl) x v) Q E s := by
  have hmem := N (c, o) hm
  refine wpAny_storeName_cell hk hx hc ⟨o, hmem.1, hd⟩ fun h' hv hs => ?_
  obtain ⟨o', ho', hd'⟩ := hv
  refine h h' o' ⟨F.ns.sameBut hs (Ne.symm hmem.2.1), fun b ob e => (hs.2 b (fun q => ?_)).trans (F.keep b ob e), F.above⟩ (fun p hp => ?_) hd'
  · rw [q, hmem.2.2] at e; cases e
  · rcases List.mem_cons.mp hp with rfl | hp
    · exact ⟨ho', hmem.2⟩
    · have z := N p (offI_sub p hp)
      exact ⟨(hs.2 p.1 (offI_ne p hp)).trans z.1, z.2⟩
end
theorem ne_mem {d a : Addr} {o : Obj} {l : Led} (h : ∀ p ∈ l, p.1 < d) (hm : (a, o) ∈ l) : d ≠ a := Nat.ne_of_gt (h _ hm)
theorem natOf {r k : Int} (c : Int) (h1 : r < k) (h0 : 0 ≤ r) (hc : 0 ≤ c) : ∃ M : Nat, c + r = (M : Int) ∧ c ≤ (M : Int) ∧ (M : Int) < c + k := ⟨(c + r).toNat, by omega, by omega, by omega⟩
theorem g3Of {i : Int} (h1 : i < (([1, 3, 6] : List Int).length : Int)) (h0 : 0 ≤ i) : ∃ G : Int, ([1, 3, 6] : List Int).getD i.toNat 0 = G ∧ 1 ≤ G ∧ G ≤ 6 := by
  simp only [List.length_cons, List.length_nil] at h1
  rcases (show i = 0 ∨ i = 1 ∨ i = 2 by omega) with rfl | rfl | rfl
  · exact ⟨1, rfl, by omega, by omega⟩
  · exact ⟨3, rfl, by omega, by omega⟩
  · exact ⟨6, rfl, by omega, by omega⟩
theorem g5Of {i : Int} (h1 : i < (([1, 2, 3, 5, 12] : List Int).length : Int)) (h0 : 0 ≤ i) : 1 ≤ ([1, 2, 3, 5, 12] : List Int).getD i.toNat 0 ∧ ([1, 2, 3, 5, 12] : List Int).getD i.toNat 0 ≤ 12 := by
  simp only [List.length_cons, List.length_nil] at h1
  rcases (show i = 0 ∨ i = 1 ∨ i = 2 ∨ i = 3 ∨ i = 4 by omega) with rfl | rfl | rfl | rfl | rfl <;> decide
theorem news_sub3 {h₀ h : Heap} {L : Addr} {l : Led} {a b c : Addr × Obj} (N : News h₀ L h l) (ha : a ∈ l) (hb : b ∈ l) (hc : c ∈ l) : News h₀ L h [a, b, c] := fun p hp => by
  rcases List.mem_cons.mp hp with rfl | hp
  · exact N _ ha
  rcases List.mem_cons.mp hp with rfl | hp
  · exact N _ hb
  · obtain rfl := List.mem_singleton.mp hp; exact N _ hc
theorem rep_len {v : Value} : ∀ n : Nat, (List.replicate n [v]).flatten.length = n
  | 0 => rfl
  | n + 1 => by rw [List.replicate_succ, List.flatten_cons, List.length_append, rep_len n, List.length_singleton]; omega
theorem rep_mem {v u : Value} : ∀ n : Nat, u ∈ (List.replicate n [v]).flatten → u = v
  | 0, h => nomatch h
  | n + 1, h => by
    rw [List.replicate_succ, List.flatten_cons, List.mem_append] at h
    rcases h with h | h
    · exact List.mem_singleton.mp h
    · exact rep_mem n h
section
variable {prog : Program} {w : World} {A : Around} {E : Value → Shared → Prop} {s : Shared} {h₀ : Heap} {L : Addr} {m : Str → Option Value} {led : Led}
theorem range1_S {Q : Value → Shared → Prop} {n : Int} {t : Tok} (F : Fr h₀ L s.heap m) (N : News h₀ L s.heap led)
    (h : ∀ r h' tk t₁ u₁ v₁, IsRange h' r 0 n 1 t₁ u₁ v₁ → Fr h₀ L h' m → News h₀ L h' led → Q (.ref r) { s with heap := h', toks := tk }) :
    wpAny (model prog w) A (call (.type "range") [.int n t]) Q E s := range1_rows F N fun h' tk t₁ u₁ v₁ R F' N' _ => h _ h' tk t₁ u₁ v₁ R F' N'
end


theorem off44 : True := by w_top off; trivial
/-- a list of sizes -/
structure QZ where
  l : Addr
  n : Nat
  vs : List Value
  ns : List Int
abbrev QZ.obj (z : QZ) : Obj := listOf z.vs.toArray z.n
/-- the thing k of the queue j -/
def ThingOk (Own : Addr → Prop) (nw : Led) (j k : Nat) (z : QZ) (t : Thing) : Prop :=
  z.ns[k]? = some t.sz ∧ ∃ (tp : Addr) (n : Nat) (t1 t2 : Tok), t.v = .ref tp ∧ (tp, tupOf [.int (j : Int) t1, .int (k : Int) t2] n) ∈ nw ∧ ¬ Own tp
theorem ThingOk.keep {Own : Addr → Prop} {nw nw' : Led} {j k : Nat} {z : QZ} {t : Thing} (h : ThingOk Own nw j k z t) (f : ∀ a its n, (a, tupOf its n) ∈ nw → ¬ Own a → (a, tupOf its n) ∈ nw') : ThingOk Own nw' j k z t := by
  obtain ⟨h1, tp, n, t1, t2, e, hm, ho⟩ := h
  exact ⟨h1, tp, n, t1, t2, e, f _ _ _ hm ho, ho⟩
def cnt (K i k j : Nat) : Nat := if j < i then K + 1 else if j = i then k else 0
structure RowFill (Own : Addr → Prop) (nw : Led) (zs : List QZ) (K i k j : Nat) (r : RowS) : Prop where
  most : r.most = 40
  moct : r.moct = 999
  len : r.th.length = cnt K i k j
  oct : r.oct ≤ 6 * (cnt K i k j : Int)
  th : ∀ q t, r.th[q]? = some t → ∃ z, zs[j]? = some z ∧ ThingOk Own nw j q z t
theorem RowFill.keep {Own : Addr → Prop} {nw nw' : Led} {zs zs' : List QZ} {K i k i' k' j : Nat} {r : RowS} (h : RowFill Own nw zs K i k j r) (f : ∀ a its n, (a, tupOf its n) ∈ nw → ¬ Own a → (a, tupOf its n) ∈ nw') (hz : ∀ z, zs[j]? = some z → zs'[j]? = some z) (hc : cnt K i' k' j = cnt K i k j) : RowFill Own nw' zs' K i' k' j r :=
  ⟨h.most, h.moct, by rw [hc]; exact h.len, by rw [hc]; exact h.oct, fun q t ht => by obtain ⟨z, e, x⟩ := h.th q t ht; exact ⟨z, hz z e, x.keep f⟩⟩
theorem RowFill.put {Own : Addr → Prop} {nw nw' : Led} {zs : List QZ} {K i k : Nat} {r : RowS} {z : QZ} {sz : Int} {ta tp : Addr} {t t' t1 t2 : Tok} {n : Nat} (h : RowFill Own nw zs K i k i r) (f : ∀ a its n, (a, tupOf its n) ∈ nw → ¬ Own a → (a, tupOf its n) ∈ nw')
    (hz : zs[i]? = some z) (hs : z.ns[k]? = some sz) (h6 : sz ≤ 6) (hm : (tp, tupOf [.int (i : Int) t1, .int (k : Int) t2] n) ∈ nw') (ho : ¬ Own tp) :
    RowFill Own nw' zs K i (k + 1) i { r with oct := r.oct + sz, tc := t', n2 := r.n2 + 1, th := r.th ++ [⟨ta, sz, t, .ref tp⟩] } := by
  have c1 : cnt K i k i = k := by simp [cnt]
  have c2 : cnt K i (k + 1) i = k + 1 := by simp [cnt]
  have hl := h.len
  have ho' := h.oct
  rw [c1] at hl ho'
  refine ⟨h.most, h.moct, ?_, ?_, fun q u hu => ?_⟩
  · rw [c2, List.length_append, hl]; rfl
  · rw [c2]; show r.oct + sz ≤ _; omega
  · rcases Nat.lt_or_ge q r.th.length with hq | hq
    · rw [List.getElem?_append_left hq] at hu
      obtain ⟨z', e, x⟩ := h.th q u hu
      exact ⟨z', e, x.keep f⟩
    · rw [List.getElem?_append_right hq, hl] at hu
      have hqk : q = k := by
        rcases Nat.lt_or_ge (q - k) 1 with h1 | h1
        · omega
        · rw [List.getElem?_eq_none (by simpa using h1)] at hu; cases hu
      subst hqk
      rw [Nat.sub_self] at hu
      obtain rfl := Option.some.inj hu
      exact ⟨z, hz, hs, tp, n, t1, t2, rfl, hm, ho⟩
/-- what stands while the queues are filled -/
structure FillSt (Own : Addr → Prop) (nw : Led) (src za : Addr) (S0 : DR) (n K M : Nat) (G : Int) (qs : List Int) (i k lz : Nat) (S : DR) (zs : List QZ) (zn : Nat) (x y : Int) (tx ty : Tok) : Prop where
  hx : 0 ≤ x
  hy : 0 ≤ y
  hy2 : y < 2147483647
  hs : (src, listOf [.int x tx, .int y ty].toArray n) ∈ nw
  I : DRIn Own nw S
  hD : S.D = S0.D
  hqa : S.qa = S0.qa
  hra : S.ra = S0.ra
  hq : S.qs = qs
  hl : S.left = List.replicate M 0
  ha : S.at_ = 0
  hb : S.b = false
  hn : S.rows.length = M
  hz : (za, listOf (zs.map fun z => Value.ref z.l).toArray zn) ∈ nw
  hzl : zs.length = lz
  hzs : ∀ z ∈ zs, (z.l, z.obj) ∈ nw ∧ IntsAre z.vs z.ns ∧ z.ns.length = K + 1 ∧ (∀ c ∈ z.ns, 1 ≤ c ∧ c ≤ G) ∧ ¬ Own z.l ∧ z.l ≠ za ∧ z.l ≠ src
  hr : ∀ j r, S.rows[j]? = some r → RowFill Own nw zs K i k j r
theorem FillSt.next {Own : Addr → Prop} {nw : Led} {src za : Addr} {S0 : DR} {n K M : Nat} {G : Int} {qs : List Int} {i : Nat} {S : DR} {zs : List QZ} {zn : Nat} {x y : Int} {tx ty : Tok} (h : FillSt Own nw src za S0 n K M G qs i (K + 1) (i + 1) S zs zn x y tx ty) :
    FillSt Own nw src za S0 n K M G qs (i + 1) 0 (i + 1) S zs zn x y tx ty :=
  { h with hr := fun j r hj => (h.hr j r hj).keep (fun _ _ _ h _ => h) (fun _ h => h) (by
      unfold cnt
      split <;> split <;> (try split) <;> (try split) <;> omega) }
/-- what a change of the list at d leaves -/
def LaterL (d : Addr) (l l' : Led) : Prop := ∀ p ∈ l, (p.1 ≠ d ∨ p.2.cls ≠ .type "list") → p ∈ l'
theorem LaterL.refl {d : Addr} {l : Led} : LaterL d l l := fun _ h _ => h
theorem LaterL.trans {d : Addr} {a b c : Led} (h : LaterL d a b) (h' : LaterL d b c) : LaterL d a c := fun p hp hn => h' p (h p hp hn) hn
theorem LaterL.set {d : Addr} {l : Led} {its : Array Value} {n : Nat} : LaterL d l (setL d (listOf its n) l) := fun p hp hn => by
  rcases hn with hn | hn
  · exact mem_setL_ne (a := p.1) (o' := p.2) hp hn
  · exact mem_setL_cls (a := p.1) (o' := p.2) hp hn
theorem DRIn.laterL {Own : Addr → Prop} {l l' : Led} {S : DR} {d : Addr} (I : DRIn Own l S) (h : LaterL d l l') (ho : ¬ Own d) (hq : S.qa ≠ d) (hr : S.ra ≠ d) : DRIn Own l' S :=
  { I with
    hD := h _ I.hD (.inr cls_r)
    hdD := h _ I.hdD (.inr cls_dl)
    hqa := h _ I.hqa (.inl hq)
    hra := h _ I.hra (.inl hr)
    hla := h _ I.hla (.inl fun e => ho (e ▸ I.ownL))
    hrow := fun r hr => (I.hrow r hr).keep (fun q => h _ q (.inr cls_r)) (fun q => h _ q (.inr cls_dl)) (fun q => h _ q (.inl fun e => ho (e ▸ (I.ownR r hr).2))) fun _ _ _ q => h _ q (.inr cls_tl) }
theorem LaterL.tup {d : Addr} {l l' : Led} (h : LaterL d l l') {a : Addr} {its : List Value} {n : Nat} (hm : (a, tupOf its n) ∈ l) : (a, tupOf its n) ∈ l' := h _ hm (.inr cls_tl)
theorem LaterL.ne {d : Addr} {l l' : Led} (h : LaterL d l l') {a : Addr} {o : Obj} (hm : (a, o) ∈ l) (hn : a ≠ d) : (a, o) ∈ l' := h _ hm (.inl hn)
theorem same_obj {h₀ h : Heap} {L a b : Addr} {o o' : Obj} {l : Led} (N : News h₀ L h l) (h1 : (a, o) ∈ l) (h2 : (b, o') ∈ l) (e : a = b) : o = o' := by
  subst e
  have := (N _ h1).1
  rw [(N _ h2).1] at this
  exact (Option.some.inj this).symm
theorem DRIn.notOwnCls {Own : Addr → Prop} {led : Led} {S : DR} {h₀ h : Heap} {L b : Addr} {o : Obj} (I : DRIn Own led S) (N : News h₀ L h led) (hm : (b, o) ∈ led) (h1 : o.cls ≠ .type "dict") (h2 : o.cls ≠ .type "list") : ¬ Own b := fun hb => by
  rcases I.ownC b hb with rfl | rfl | ⟨r, hr, rfl | rfl⟩
  · exact h1 (congrArg Obj.cls (same_obj N hm I.hdD rfl))
  · exact h2 (congrArg Obj.cls (same_obj N hm I.hla rfl))
  · exact h1 (congrArg Obj.cls (same_obj N hm (I.hrow r hr).dx rfl))
  · exact h2 (congrArg Obj.cls (same_obj N hm (I.hrow r hr).l rfl))
theorem mem_off2 {h₀ h : Heap} {L a a1 a2 : Addr} {o o1 o2 : Obj} {l : Led} (N : News h₀ L h l) (i1 : IsIt o1) (i2 : IsIt o2) (h1 : (a1, o1) ∈ l) (h2 : (a2, o2) ∈ l) (hm : (a, o) ∈ l) (hc : o.cls = .type "list" ∨ o.cls = .type "tuple") : (a, o) ∈ offI a1 (offI a2 l) := by
  refine mem_offI (mem_offI hm fun e => ?_) fun e => ?_
  · have q := congrArg Obj.cls (same_obj N hm h2 e)
    rcases hc with hc | hc
    · exact i2.l (q.symm.trans hc)
    · exact i2.t (q.symm.trans hc)
  · have q := congrArg Obj.cls (same_obj N hm h1 e)
    rcases hc with hc | hc
    · exact i1.l (q.symm.trans hc)
    · exact i1.t (q.symm.trans hc)
theorem FillSt.put {Own : Addr → Prop} {nw nw' : Led} {src za : Addr} {S0 : DR} {n K M : Nat} {G : Int} {qs : List Int} {i k : Nat} {S : DR} {zs : List QZ} {zn : Nat} {x y c : Int} {tx ty t t' t1 t2 : Tok} {r : RowS} {z : QZ} {ta tp : Addr} {n2 : Nat}
    (Z : FillSt Own nw src za S0 n K M G qs i k (i + 1) S zs zn x y tx ty) (hr : S.rows[i]? = some r) (hz : zs[i]? = some z) (hk : z.ns[k]? = some c) (h6 : G ≤ 6)
    (up : ∀ a o, (a, o) ∈ nw → ¬ Own a → (o.cls = .type "list" ∨ o.cls = .type "tuple") → (a, o) ∈ nw')
    (I' : DRIn Own nw' { S with rows := S.rows.set i { r with oct := r.oct + c, tc := t', n2 := r.n2 + 1, th := r.th ++ [⟨ta, c, t, .ref tp⟩] } })
    (hm : (tp, tupOf [.int (i : Int) t1, .int (k : Int) t2] n2) ∈ nw') (ho : ¬ Own tp) (hosrc : ¬ Own src) (hoza : ¬ Own za) :
    FillSt Own nw' src za S0 n K M G qs i (k + 1) (i + 1) { S with rows := S.rows.set i { r with oct := r.oct + c, tc := t', n2 := r.n2 + 1, th := r.th ++ [⟨ta, c, t, .ref tp⟩] } } zs zn x y tx ty :=
  { Z with
    hs := up _ _ Z.hs hosrc (.inl rfl)
    I := I'
    hn := by rw [List.length_set]; exact Z.hn
    hz := up _ _ Z.hz hoza (.inl rfl)
    hzs := fun w hw => by
      obtain ⟨b1, b2, b3, b4, b5, b6⟩ := Z.hzs w hw
      exact ⟨up _ _ b1 b5 (.inl rfl), b2, b3, b4, b5, b6⟩
    hr := fun j q hj => by
      by_cases e : j = i
      · subst e
        rw [List.getElem?_set_self (lt_of_at hr)] at hj
        obtain rfl := Option.some.inj hj
        have hzm := List.mem_of_getElem? hz
        have hcm := (Z.hzs z hzm).2.2.2.1 c (List.mem_of_getElem? hk)
        exact (Z.hr j r hr).put (fun a its n h hn => up _ _ h hn (.inr rfl)) hz hk (by omega) hm ho
      · rw [List.getElem?_set_ne (Ne.symm e)] at hj
        refine (Z.hr j q hj).keep (fun a its n h hn => up _ _ h hn (.inr rfl)) (fun _ h => h) ?_
        unfold cnt
        split <;> (try split) <;> omega }


theorem off46 : True := by w_top off; trivial
section
variable {w : World} {mean : ExcName → Option Value} {mg mb : Str → Option Value} {dp un : Nat} {gd : Option (List Code)} {cn : Str} {cs : Scope} {a : Addr} {ccd : Value} {cl : List (Str × Addr)} {outer : List Env} {A₀ : Around} {base h₀ : Heap} {L : Addr} {m : Str → Option Value} {led : Led}
  {s : Shared} {R : Result → Shared → Prop} {Own : Addr → Prop} {S : DR} {G : Int} {sent : List Int} {D : Addr} {args : List Value}
theorem ct_putD {i : Nat} {r : RowS} {sz : Int} {ti t : Tok} {v : Value} (H : Here w mean mg mb A₀ base h₀ outer cs L m s.heap led dp un 10) (I : DRIn Own led S) (hD : S.D = D) (hr : S.rows[i]? = some r) (hmost : (r.th.length : Int) < r.most) (hoct : r.oct + sz ≤ r.moct) (hlen : r.th.length < 1000)
    (hR : ∀ (ta : Addr) (t' : Tok) (led' : Led), DRIn Own led' { S with rows := S.rows.set i { r with oct := r.oct + sz, tc := t', n2 := r.n2 + 1, th := r.th ++ [⟨ta, sz, t, v⟩] } } → Later Own led led' → (∀ p ∈ led, p.1 < ta) → Back h₀ L m s R (.bool true) led') :
    codeAny (model P w) (ktrTop dp un gd cn cs L a ccd cl outer) (.call (.ref 148) ⟨[.ref D, .int (i : Int) ti, .int sz t, v], []⟩) R s := by
  subst hD
  exact ct_put H I hr hmost hoct hlen hR
theorem ct_takeD (H : Here w mean mg mb A₀ base h₀ outer cs L m s.heap led dp un 10) (I : DRIn Own led S) (hD : S.D = D) (h2 : ∀ r ∈ S.rows, 2 ≤ r.th.length)
    (hF : Fair G S.qs sent S.left S.rows.length S.at_ S.b) (hsz : ∀ r ∈ S.rows, ∀ t ∈ r.th, 1 ≤ t.sz ∧ t.sz ≤ G) (hlen : ∀ r ∈ S.rows, r.th.length < 1000)
    (hR : ∀ (i : Nat) (r r' : RowS) (t : Thing) (ts : List Thing) (lvs' : List Value) (left' : List Int) (tat' ti : Tok) (nl' : Nat) (T : Addr) (led' : Led), S.rows[i]? = some r → r.th = t :: ts → r'.th = ts → Fair G S.qs (sent.set i (sent.getD i 0 + t.sz)) left' S.rows.length i true → left'.getD i 0 ≤ S.qs.getD i 0 + G - 2 → (Ready S → i = S.at_) →
      DRIn Own led' { S with at_ := i, tat := tat', b := true, lvs := lvs', left := left', nl := nl', rows := S.rows.set i r' } → Later Own led led' → (T, tupOf [.int (i : Int) ti, .int t.sz t.t, t.v] 0) ∈ led' → (∀ p ∈ led, p.1 < T) → Back h₀ L m s R (.ref T) led') :
    codeAny (model P w) (ktrTop dp un gd cn cs L a ccd cl outer) (.call (.ref 169) ⟨[.ref D], []⟩) R s := by
  subst hD
  exact ct_take H I h2 hF hsz hlen hR
theorem cl_lookD (H : Here w mean mg mb A₀ base h₀ outer cs L m s.heap led dp un 8) (hD : S.D = D) (I : DRIn Own led S) (hne : ∀ r ∈ S.rows, r.th ≠ [])
    (hF : Fair G S.qs sent S.left S.rows.length S.at_ S.b) (hsz : ∀ r ∈ S.rows, ∀ t ∈ r.th, t.sz ≤ G)
    (hR : ∀ (i : Nat) (r : RowS) (t : Thing) (ts : List Thing) (lvs' : List Value) (left' : List Int) (tat' ti : Tok) (T : Addr) (led' : Led), S.rows[i]? = some r → r.th = t :: ts → Fair G S.qs sent left' S.rows.length i true → t.sz ≤ left'.getD i 0 → (Ready S → i = S.at_) →
      DRIn Own led' { S with at_ := i, tat := tat', b := true, lvs := lvs', left := left' } → Later Own led led' → (T, tupOf [.int (i : Int) ti, .int t.sz t.t, t.v] 0) ∈ led' → (∀ p ∈ led, p.1 < T) → Back h₀ L m s R (.ref T) led') :
    codeAny (model P w) (ktrTop dp un gd cn cs L a ccd cl outer) (.call (.ref 161) ⟨[.ref D], []⟩) R s := by
  subst hD
  exact cl_look H (.inl rfl) I hne hF hsz hR
theorem ct_waitingD (H : Here w mean mg mb A₀ base h₀ outer cs L m s.heap led dp un 4) (I : DRIn Own led S) (hD : S.D = D) (hlen : ∀ r ∈ S.rows, r.th.length < 1000)
    (hR : ∀ t, Back h₀ L m s R (.int ((S.rows.map fun r => (r.th.length : Int)).sum) t) led) :
    codeAny (model P w) (ktrTop dp un gd cn cs L a ccd cl outer) (.call (.ref 174) ⟨[.ref D], []⟩) R s := by
  subst hD
  exact ct_waiting H I hlen hR
end
theorem FillSt.off {Own : Addr → Prop} {nw : Led} {src za : Addr} {S0 : DR} {n K M : Nat} {G : Int} {qs : List Int} {i k lz : Nat} {S : DR} {zs : List QZ} {zn : Nat} {x y : Int} {tx ty : Tok} {h₀ h : Heap} {L I : Addr} {it : Obj} (hi : IsIt it) (N : News h₀ L h nw) (hI : (I, it) ∈ nw)
    (Z : FillSt Own nw src za S0 n K M G qs i k lz S zs zn x y tx ty) : FillSt Own (offI I nw) src za S0 n K M G qs i k lz S zs zn x y tx ty :=
  { Z with
    hs := mem_offI_l hi N hI Z.hs
    I := Z.I.off hi N hI
    hz := mem_offI_l hi N hI Z.hz
    hzs := fun w hw => by
      obtain ⟨b1, b2⟩ := Z.hzs w hw
      exact ⟨mem_offI_l hi N hI b1, b2⟩
    hr := fun j q hj => (Z.hr j q hj).keep (fun _ _ _ h _ => mem_offI_t hi N hI h) (fun _ h => h) rfl }


theorem off48 : True := by w_top off; trivial
/-- what stands while the queues are gone round -/
structure TakeSt (Own : Addr → Prop) (nw : Led) (src za : Addr) (S0 : DR) (n K M : Nat) (G : Int) (qs : List Int) (zs : List QZ) (zn : Nat) (sa pa : Addr) (nT : Nat) (S : DR) (x y : Int) (tx ty : Tok) (svs pvs : List Value) (sns : List Int) (ps : List Nat) (n1 n2 : Nat) : Prop where
  hx : 0 ≤ x
  hy : 0 ≤ y
  hy2 : y < 2147483647
  hs : (src, listOf [.int x tx, .int y ty].toArray n) ∈ nw
  I : DRIn Own nw S
  hD : S.D = S0.D
  hqa : S.qa = S0.qa
  hra : S.ra = S0.ra
  hq : S.qs = qs
  hn : S.rows.length = M
  fair : Fair G qs sns S.left M S.at_ S.b
  hz : (za, listOf (zs.map fun z => Value.ref z.l).toArray zn) ∈ nw
  hzl : zs.length = M
  hzs : ∀ z ∈ zs, (z.l, z.obj) ∈ nw ∧ IntsAre z.vs z.ns ∧ z.ns.length = K + 1 ∧ (∀ c ∈ z.ns, 1 ≤ c ∧ c ≤ G) ∧ ¬ Own z.l ∧ z.l ≠ src ∧ z.l ≠ sa ∧ z.l ≠ pa
  hsm : (sa, listOf svs.toArray n1) ∈ nw
  hsi : IntsAre svs sns
  hpm : (pa, listOf pvs.toArray n2) ∈ nw
  hpi : IntsAre pvs (ps.map fun p : Nat => (p : Int))
  hpl : ps.length = M
  sum : ps.sum = nT
  hr : ∀ j r z p, S.rows[j]? = some r → zs[j]? = some z → ps[j]? = some p → r.th.length + p = K + 1 ∧ ∀ q t, r.th[q]? = some t → ThingOk Own nw j (p + q) z t
theorem ints_repN {t : Tok} (n : Nat) : IntsAre (List.replicate n [Value.int 0 t]).flatten ((List.replicate n 0).map fun p : Nat => (p : Int)) := by
  rw [List.map_replicate]; exact ints_rep0 n
theorem sum_rep0 : ∀ n : Nat, (List.replicate n 0).sum = 0
  | 0 => rfl
  | n + 1 => by rw [List.replicate_succ, List.sum_cons, sum_rep0 n]
theorem le_sum : ∀ {ps : List Nat} {j p : Nat}, ps[j]? = some p → p ≤ ps.sum
  | [], _, _, h => by simp at h
  | a :: r, 0, p, h => by
    simp only [List.getElem?_cons_zero, Option.some.injEq] at h
    rw [List.sum_cons]; omega
  | a :: r, j + 1, p, h => by
    simp only [List.getElem?_cons_succ] at h
    have := le_sum h
    rw [List.sum_cons]; omega
theorem sum_set : ∀ {ps : List Nat} {j p : Nat}, ps[j]? = some p → (ps.set j (p + 1)).sum = ps.sum + 1
  | [], _, _, h => by simp at h
  | a :: r, 0, p, h => by
    simp only [List.getElem?_cons_zero, Option.some.injEq] at h
    rw [List.set_cons_zero, List.sum_cons, List.sum_cons]; omega
  | a :: r, j + 1, p, h => by
    simp only [List.getElem?_cons_succ] at h
    rw [List.set_cons_succ, List.sum_cons, List.sum_cons, sum_set h]; omega
/-- where the taking starts -/
theorem TakeSt.start {Own : Addr → Prop} {nw nw' : Led} {src za sa pa : Addr} {S0 : DR} {n K M : Nat} {G : Int} {qs : List Int} {S : DR} {zs : List QZ} {zn : Nat} {x y : Int} {tx ty t1 t2 : Tok}
    (Z : FillSt Own nw src za S0 n K M G qs M 0 M S zs zn x y tx ty) (up : ∀ p ∈ nw, p ∈ nw') (hs : (sa, listOf ((List.replicate M [Value.int 0 t1]).flatten).toArray 0) ∈ nw') (hp : (pa, listOf ((List.replicate M [Value.int 0 t2]).flatten).toArray 0) ∈ nw')
    (h1 : ∀ p ∈ nw, p.1 ≠ sa) (h2 : ∀ p ∈ nw, p.1 ≠ pa) (hM : 0 < M) (hG : 1 ≤ G) :
    TakeSt Own nw' src za S0 n K M G qs zs zn sa pa 0 S x y tx ty (List.replicate M [Value.int 0 t1]).flatten (List.replicate M [Value.int 0 t2]).flatten (List.replicate M 0) (List.replicate M 0) 0 0 where
  hx := Z.hx
  hy := Z.hy
  hy2 := Z.hy2
  hs := up _ Z.hs
  I := Z.I.sub up
  hD := Z.hD
  hqa := Z.hqa
  hra := Z.hra
  hq := Z.hq
  hn := Z.hn
  fair := by rw [Z.hl, Z.ha, Z.hb]; exact fair_start hM hG
  hz := up _ Z.hz
  hzl := Z.hzl
  hzs := fun z hz => by
    obtain ⟨b1, b2, b3, b4, b5, b6, b7⟩ := Z.hzs z hz
    exact ⟨up _ b1, b2, b3, b4, b5, b7, h1 _ b1, h2 _ b1⟩
  hsm := hs
  hsi := ints_rep0 M
  hpm := hp
  hpi := ints_repN M
  hpl := List.length_replicate
  sum := sum_rep0 M
  hr := fun j r z p hj hz hp => by
    have R := Z.hr j r hj
    have hjM : j < M := by have := lt_of_at hj; rw [Z.hn] at this; exact this
    have hp0 : p = 0 := by
      have := List.mem_of_getElem? hp
      exact (List.mem_replicate.mp this).2
    subst hp0
    have hc : cnt K M 0 j = K + 1 := by unfold cnt; rw [if_pos hjM]
    refine ⟨by rw [R.len, hc], fun q t ht => ?_⟩
    obtain ⟨z', e, x⟩ := R.th q t ht
    rw [hz] at e
    obtain rfl := Option.some.inj e
    rw [Nat.zero_add]
    exact x.keep fun _ _ _ h _ => up _ h
theorem TakeSt.off {Own : Addr → Prop} {nw : Led} {src za sa pa : Addr} {S0 : DR} {n K M : Nat} {G : Int} {qs : List Int} {zs : List QZ} {zn nT : Nat} {S : DR} {x y : Int} {tx ty : Tok} {svs pvs : List Value} {sns : List Int} {ps : List Nat} {n1 n2 : Nat} {h₀ h : Heap} {L I : Addr} {it : Obj} (hi : IsIt it) (N : News h₀ L h nw) (hI : (I, it) ∈ nw)
    (Z : TakeSt Own nw src za S0 n K M G qs zs zn sa pa nT S x y tx ty svs pvs sns ps n1 n2) : TakeSt Own (offI I nw) src za S0 n K M G qs zs zn sa pa nT S x y tx ty svs pvs sns ps n1 n2 :=
  { Z with
    hs := mem_offI_l hi N hI Z.hs
    I := Z.I.off hi N hI
    hz := mem_offI_l hi N hI Z.hz
    hzs := fun w hw => by
      obtain ⟨b1, b2⟩ := Z.hzs w hw
      exact ⟨mem_offI_l hi N hI b1, b2⟩
    hsm := mem_offI_l hi N hI Z.hsm
    hpm := mem_offI_l hi N hI Z.hpm
    hr := fun j r z p hj hz hp => by
      obtain ⟨a, b⟩ := Z.hr j r z p hj hz hp
      exact ⟨a, fun q t ht => (b q t ht).keep fun _ _ _ h _ => mem_offI_t hi N hI h⟩ }


theorem off49 : True := by w_top off; trivial
/-- behind the look, ahead of the taking -/
structure MidSt (Own : Addr → Prop) (led nwI : Led) (src : Addr) (n : Nat) (G : Int) (qs sns : List Int) (M : Nat) (S2 S3 : DR) (told : Value) (x y : Int) (tx ty : Tok) : Prop where
  hx : 0 ≤ x
  hy : 0 ≤ y
  hy2 : y < 2147483647
  hs : (src, listOf [.int x tx, .int y ty].toArray n) ∈ led
  up : ∀ a o, (a, o) ∈ nwI → ¬ Own a → a ≠ src → (a, o) ∈ led
  I : DRIn Own led S3
  hD : S3.D = S2.D
  hqa : S3.qa = S2.qa
  hra : S3.ra = S2.ra
  hq : S3.qs = S2.qs
  hrows : S3.rows = S2.rows
  fair : Fair G qs sns S3.left M S3.at_ S3.b
  told : told = .none ∨ ∃ (T : Addr) (i : Nat) (r : RowS) (t : Thing) (ts : List Thing) (ti : Tok), told = .ref T ∧ S2.rows[i]? = some r ∧ r.th = t :: ts ∧ (T, tupOf [.int (i : Int) ti, .int t.sz t.t, t.v] 0) ∈ led ∧ ¬ Own T ∧ Ready S3 ∧ S3.at_ = i
theorem TakeSt.two {Own : Addr → Prop} {nw : Led} {src za sa pa : Addr} {S0 : DR} {n K M : Nat} {G : Int} {qs : List Int} {zs : List QZ} {zn nT : Nat} {S : DR} {x y : Int} {tx ty : Tok} {svs pvs : List Value} {sns : List Int} {ps : List Nat} {n1 n2 : Nat}
    (Y : TakeSt Own nw src za S0 n K M G qs zs zn sa pa nT S x y tx ty svs pvs sns ps n1 n2) (hT : nT < K) (hK : K < 100) : ∀ r ∈ S.rows, 2 ≤ r.th.length ∧ r.th.length < 1000 ∧ ∀ t ∈ r.th, 1 ≤ t.sz ∧ t.sz ≤ G := fun r hr => by
  obtain ⟨j, hj⟩ := List.getElem?_of_mem hr
  have hjM := lt_of_at hj
  rw [Y.hn] at hjM
  obtain ⟨z, hz⟩ : ∃ z, zs[j]? = some z := ⟨zs[j]'(by rw [Y.hzl]; exact hjM), by simp⟩
  obtain ⟨p, hp⟩ : ∃ p, ps[j]? = some p := ⟨ps[j]'(by rw [Y.hpl]; exact hjM), by simp⟩
  obtain ⟨h1, h2⟩ := Y.hr j r z p hj hz hp
  have h3 := le_sum hp
  rw [Y.sum] at h3
  refine ⟨by omega, by omega, fun t ht => ?_⟩
  obtain ⟨q, hq⟩ := List.getElem?_of_mem ht
  exact (Y.hzs z (List.mem_of_getElem? hz)).2.2.2.1 _ (List.mem_of_getElem? (h2 q t hq).1)
theorem wait_sum {c : Nat} : ∀ {rows : List RowS} {ps : List Nat}, rows.length = ps.length → (∀ (j : Nat) (r : RowS) (p : Nat), rows[j]? = some r → ps[j]? = some p → r.th.length + p = c) → (rows.map fun r => (r.th.length : Int)).sum + (ps.sum : Int) = (rows.length : Int) * c
  | [], [], _, _ => by simp
  | [], _ :: _, h, _ => by simp at h
  | _ :: _, [], h, _ => by simp at h
  | r :: rs, p :: ps, h, hj => by
    have ih := wait_sum (rows := rs) (ps := ps) (by simpa using h) (fun j r p a b => hj (j + 1) r p (by simpa using a) (by simpa using b))
    have h0 := hj 0 r p rfl rfl
    rw [List.map_cons, List.sum_cons, List.sum_cons, List.length_cons]
    have e : ((rs.length + 1 : Nat) : Int) * (c : Int) = (rs.length : Int) * c + c := by rw [Int.natCast_add, Int.add_mul]; simp
    rw [e, ← ih]
    omega
theorem TakeSt.waits {Own : Addr → Prop} {nw : Led} {src za sa pa : Addr} {S0 : DR} {n K M : Nat} {G : Int} {qs : List Int} {zs : List QZ} {zn nT : Nat} {S : DR} {x y : Int} {tx ty : Tok} {svs pvs : List Value} {sns : List Int} {ps : List Nat} {n1 n2 : Nat}
    (Y : TakeSt Own nw src za S0 n K M G qs zs zn sa pa nT S x y tx ty svs pvs sns ps n1 n2) : (S.rows.map fun r => (r.th.length : Int)).sum = (M : Int) * ((K : Int) + 1) - (nT : Int) := by
  have := wait_sum (c := K + 1) (rows := S.rows) (ps := ps) (by rw [Y.hn, Y.hpl]) fun j r p hj hp => by
    have hjM := lt_of_at hj
    rw [Y.hn] at hjM
    obtain ⟨z, hz⟩ : ∃ z, zs[j]? = some z := ⟨zs[j]'(by rw [Y.hzl]; exact hjM), by simp⟩
    exact (Y.hr j r z p hj hz hp).1
  rw [Y.sum, Y.hn] at this
  have e : ((K + 1 : Nat) : Int) = (K : Int) + 1 := by omega
  rw [e] at this
  omega
theorem MidSt.plain {Own : Addr → Prop} {nwI : Led} {src : Addr} {n : Nat} {G : Int} {qs sns : List Int} {M : Nat} {S2 : DR} {x y : Int} {tx ty : Tok} {h₀ h : Heap} {L : Addr} {its : Array Value} {n0 : Nat} (_N : News h₀ L h (setL src (listOf [.int x tx, .int y ty].toArray n) nwI))
    (hx : 0 ≤ x) (hy : 0 ≤ y) (hy2 : y < 2147483647) (hs : (src, listOf its n0) ∈ nwI) (YI : DRIn Own nwI S2) (ho : ¬ Own src) (hq : S2.qa ≠ src) (hr : S2.ra ≠ src) (hF : Fair G qs sns S2.left M S2.at_ S2.b) :
    MidSt Own (setL src (listOf [.int x tx, .int y ty].toArray n) nwI) nwI src n G qs sns M S2 S2 .none x y tx ty where
  hx := hx
  hy := hy
  hy2 := hy2
  hs := mem_setL_self hs rfl
  up := fun a o h hn hne => LaterL.set _ h (.inl hne)
  I := YI.laterL LaterL.set ho hq hr
  hD := rfl
  hqa := rfl
  hra := rfl
  hq := rfl
  hrows := rfl
  fair := hF
  told := .inl rfl
section
variable {prog : Program} {w : World} {A : Around} {E : Value → Shared → Prop} {s : Shared} {h₀ : Heap} {L : Addr} {led : Led}
theorem reads_t2 {a : Addr} {i j : Int} {t1 t2 : Tok} {n : Nat} (N : News h₀ L s.heap led) (hm : (a, tupOf [.int i t1, .int j t2] n) ∈ led) : Reads s.heap (.ref a) (.tuple [.int i, .int j]) [] :=
  .tuple (N _ hm).1 rfl rfl (.cons (.int _ _) (.cons (.int _ _) .nil))
theorem reads_t3 {a tp : Addr} {i z j k : Int} {t1 t2 t3 t4 : Tok} {n n2 : Nat} (N : News h₀ L s.heap led) (hm : (a, tupOf [.int i t1, .int z t2, .ref tp] n) ∈ led) (hp : (tp, tupOf [.int j t3, .int k t4] n2) ∈ led) : Reads s.heap (.ref a) (.tuple [.int i, .int z, .tuple [.int j, .int k]]) [] :=
  .tuple (N _ hm).1 rfl rfl (.cons (.int _ _) (.cons (.int _ _) (.cons (reads_t2 N hp) .nil)))
theorem neT_S {a b : Addr} {i j : Int} {t1 t2 t3 t4 : Tok} {n n2 : Nat} {Q : Value → Shared → Prop} (N : News h₀ L s.heap led) (ha : (a, tupOf [.int i t1, .int j t2] n) ∈ led) (hb : (b, tupOf [.int i t3, .int j t4] n2) ∈ led) (hu : A.units + 64 < cLine) (h : Q (.bool false) s) :
    wpAny (model prog w) A (compareOp .NotEq (.ref a) (.ref b)) Q E s := by
  refine ne_dataH (reads_t2 N ha) (reads_t2 N hb) rfl rfl hu ?_
  simp only [PyData.eqv, PyData.eqvAll, beq_self_eq_true, Bool.and_true, Bool.not_true, decide_true]
  exact h
theorem notin_S {l T tp : Addr} {told : Value} {i z j k : Int} {t1 t2 t3 t4 : Tok} {n n2 nl : Nat} {Q : Value → Shared → Prop} (N : News h₀ L s.heap led) (hl : (l, listOf [.none, .ref T].toArray nl) ∈ led) (hT : (T, tupOf [.int i t1, .int z t2, .ref tp] n) ∈ led) (hp : (tp, tupOf [.int j t3, .int k t4] n2) ∈ led)
    (ht : told = .none ∨ ∃ (T1 : Addr) (t1' t2' : Tok) (n' : Nat), told = .ref T1 ∧ (T1, tupOf [.int i t1', .int z t2', .ref tp] n') ∈ led) (hu : A.units + 64 < cLine) (h : Q (.bool false) s) :
    wpAny (model prog w) A (compareOp .NotIn told (.ref l)) Q E s := by
  have RL : Reads s.heap (.ref l) (.list [.none, .tuple [.int i, .int z, .tuple [.int j, .int k]]]) _ := .list (N _ hl).1 rfl rfl (.cons .none (.cons (reads_t3 N hT hp) .nil))
  rcases ht with rfl | ⟨T1, t1', t2', n', rfl, hT1⟩
  · refine SeqAt.notIn_list_reads RL .none rfl rfl ?_ ?_
    · have : (PyData.none).depth ≤ 10 := by decide
      have := Nat.min_le_right (PyData.depthAll [PyData.none, .tuple [.int i, .int z, .tuple [.int j, .int k]]]) (PyData.none).depth
      omega
    · simp only [List.any_cons, PyData.eqv, Bool.true_or, Bool.not_true]
      exact h
  · refine SeqAt.notIn_list_reads RL (reads_t3 N hT1 hp) rfl rfl ?_ ?_
    · have : (PyData.tuple [.int i, .int z, .tuple [.int j, .int k]]).depth ≤ 10 := by simp [PyData.depth, PyData.depthAll]
      have := Nat.min_le_right (PyData.depthAll [PyData.none, .tuple [.int i, .int z, .tuple [.int j, .int k]]]) (PyData.tuple [.int i, .int z, .tuple [.int j, .int k]]).depth
      omega
    · simp only [List.any_cons, List.any_nil, PyData.eqv, PyData.eqvAll, beq_self_eq_true, Bool.and_true, Bool.or_true, Bool.true_or, Bool.or_false, Bool.not_true, decide_true]
      exact h
end
theorem MidSt.toldOk {Own : Addr → Prop} {led nwI led2 : Led} {src : Addr} {n : Nat} {G : Int} {qs sns : List Int} {M j : Nat} {S2 S3 : DR} {told : Value} {x y : Int} {tx ty : Tok} {r : RowS} {t2 : Thing} {ts : List Thing} {tp : Addr} (Mid : MidSt Own led nwI src n G qs sns M S2 S3 told x y tx ty)
    (hr : S2.rows[j]? = some r) (hth : r.th = t2 :: ts) (htv : t2.v = .ref tp) (hrd : Ready S3 → j = S3.at_) (hl : Later Own led led2) :
    told = .none ∨ ∃ (T1 : Addr) (t1' t2' : Tok) (n' : Nat), told = .ref T1 ∧ (T1, tupOf [.int (j : Int) t1', .int t2.sz t2', .ref tp] n') ∈ led2 := by
  rcases Mid.told with h | ⟨T, i, r0, t0, ts0, ti, e, hr0, hth0, hm, hn, hrdy, hat⟩
  · exact .inl h
  · have hij : j = i := (hrd hrdy).trans hat
    subst hij
    rw [hr] at hr0
    obtain rfl := Option.some.inj hr0
    rw [hth] at hth0
    obtain ⟨rfl, -⟩ := List.cons.inj hth0
    rw [htv] at hm
    exact .inr ⟨T, ti, t2.t, 0, e, hl _ hm hn⟩
theorem TakeSt.next {Own : Addr → Prop} {nw led5 : Led} {src za sa pa : Addr} {S0 : DR} {n K M : Nat} {G : Int} {qs : List Int} {zs : List QZ} {zn nT j p : Nat} {S S4 : DR} {x y x3 y3 : Int} {tx ty tx3 ty3 : Tok} {svs pvs svs' pvs' : List Value} {sns sns' : List Int} {ps : List Nat} {n1 n2 : Nat} {r r' : RowS} {t2 : Thing} {ts : List Thing} {h₀ h : Heap} {L : Addr}
    (_N : News h₀ L h led5) (Y : TakeSt Own nw src za S0 n K M G qs zs zn sa pa nT S x y tx ty svs pvs sns ps n1 n2) (hr : S.rows[j]? = some r) (hth : r.th = t2 :: ts) (hth' : r'.th = ts) (hp0 : ps[j]? = some p)
    (hx : 0 ≤ x3) (hy : 0 ≤ y3) (hy2 : y3 < 2147483647) (hs : (src, listOf [.int x3 tx3, .int y3 ty3].toArray n) ∈ led5) (I : DRIn Own led5 S4) (e1 : S4.D = S.D) (e2 : S4.qa = S.qa) (e3 : S4.ra = S.ra) (e4 : S4.qs = S.qs) (e5 : S4.rows = S.rows.set j r')
    (hF : Fair G qs sns' S4.left M S4.at_ S4.b) (up : ∀ a o, (a, o) ∈ nw → ¬ Own a → a ≠ src → a ≠ sa → a ≠ pa → (a, o) ∈ led5) (upT : ∀ a its n, (a, tupOf its n) ∈ nw → ¬ Own a → (a, tupOf its n) ∈ led5)
    (hsm : (sa, listOf svs'.toArray n1) ∈ led5) (hsi : IntsAre svs' sns') (hpm : (pa, listOf pvs'.toArray n2) ∈ led5) (hpi : IntsAre pvs' ((ps.set j (p + 1)).map fun q : Nat => (q : Int))) (oz : ¬ Own za) (z1 : za ≠ src) (z2 : za ≠ sa) (z3 : za ≠ pa) :
    TakeSt Own led5 src za S0 n K M G qs zs zn sa pa (nT + 1) S4 x3 y3 tx3 ty3 svs' pvs' sns' (ps.set j (p + 1)) n1 n2 where
  hx := hx
  hy := hy
  hy2 := hy2
  hs := hs
  I := I
  hD := e1.trans Y.hD
  hqa := e2.trans Y.hqa
  hra := e3.trans Y.hra
  hq := e4.trans Y.hq
  hn := by rw [e5, List.length_set]; exact Y.hn
  fair := hF
  hz := up _ _ Y.hz oz z1 z2 z3
  hzl := Y.hzl
  hzs := fun z hz => by
    obtain ⟨b1, b2, b3, b4, b5, b6, b7, b8⟩ := Y.hzs z hz
    exact ⟨up _ _ b1 b5 b6 b7 b8, b2, b3, b4, b5, b6, b7, b8⟩
  hsm := hsm
  hsi := hsi
  hpm := hpm
  hpi := hpi
  hpl := by rw [List.length_set]; exact Y.hpl
  sum := by rw [sum_set hp0, Y.sum]
  hr := fun k q z u hk hz hu => by
    rw [e5] at hk
    by_cases e : k = j
    · subst e
      rw [List.getElem?_set_self (lt_of_at hr)] at hk
      obtain rfl := Option.some.inj hk
      rw [List.getElem?_set_self (lt_of_at hp0)] at hu
      obtain rfl := Option.some.inj hu
      obtain ⟨a, b⟩ := Y.hr k r z p hr hz hp0
      rw [hth] at a b
      rw [hth']
      refine ⟨by rw [List.length_cons] at a; omega, fun c t ht => ?_⟩
      have := (b (c + 1) t (by simpa using ht)).keep upT
      rw [show p + 1 + c = p + (c + 1) by omega]
      exact this
    · rw [List.getElem?_set_ne (Ne.symm e)] at hk hu
      obtain ⟨a, b⟩ := Y.hr k q z u hk hz hu
      exact ⟨a, fun c t ht => (b c t ht).keep upT⟩
theorem DRIn.two {Own : Addr → Prop} {l l' : Led} {S : DR} {d1 d2 : Addr} (I : DRIn Own l S) (h : ∀ p ∈ l, (p.1 ≠ d1 ∨ p.2.cls ≠ .type "list") → (p.1 ≠ d2 ∨ p.2.cls ≠ .type "list") → p ∈ l') (o1 : ¬ Own d1) (o2 : ¬ Own d2) (q1 : S.qa ≠ d1) (r1 : S.ra ≠ d1) (q2 : S.qa ≠ d2) (r2 : S.ra ≠ d2) : DRIn Own l' S :=
  { I with
    hD := h _ I.hD (.inr cls_r) (.inr cls_r)
    hdD := h _ I.hdD (.inr cls_dl) (.inr cls_dl)
    hqa := h _ I.hqa (.inl q1) (.inl q2)
    hra := h _ I.hra (.inl r1) (.inl r2)
    hla := h _ I.hla (.inl fun e => o1 (e ▸ I.ownL)) (.inl fun e => o2 (e ▸ I.ownL))
    hrow := fun r hr => (I.hrow r hr).keep (fun q => h _ q (.inr cls_r) (.inr cls_r)) (fun q => h _ q (.inr cls_dl) (.inr cls_dl)) (fun q => h _ q (.inl fun e => o1 (e ▸ (I.ownR r hr).2)) (.inl fun e => o2 (e ▸ (I.ownR r hr).2))) fun _ _ _ q => h _ q (.inr cls_tl) (.inr cls_tl) }
theorem cls_ril {x y : Int} : (itR x y).cls ≠ .type "list" := isIt_range.l


theorem off50 : True := by w_top off; trivial
theorem ln50x1y1 : True := by
  (k_with "call ref" => (k_here; (with_reducible show wpAny _ _ (call (Value.ref 202) _) _ _ _); k_dflt (refine wpAny_call ?_; refine' ct_lone (Here.mk (by first | (k_asm) | fail) (by first | (k_asm) | fail) (by first | (k_asm) | fail) (by first | (k_asm) | fail) (by first | (k_asm) | fail) (by first | (first | with_reducible assumption | exact rfl) | fail) (by first | (k_extra "room") | fail) (by first | (k_extra "units") | fail)) (by first | (tb_rel) | fail) (by first | (with_reducible assumption) | fail) (by first | (with_reducible assumption) | fail) (by first | (with_reducible assumption) | fail) (by first | (tb_rel) | fail) (by first | (first | exact .cons _ _ (.cons _ _ (.cons _ _ .nil)) | exact .cons _ _ (.cons _ _ (.cons _ _ (.cons _ _ (.cons _ _ .nil))))) | fail) (by first | (first | exact ne_mem (by with_reducible assumption) (by tb_rel) | exact Nat.ne_of_gt (allLt_mem (by with_reducible assumption) (_, _) (by tb_rel)) | exact Nat.ne_of_gt (allLt_mem (And.right (And.right (And.right (by with_reducible assumption)))) (_, _) (by tb_rel))) | fail) (by first | (decide) | fail) (by first | (decide) | fail) ?_; k_whole); intro zi' zx' zy' zt' ztx' zty' zhi0' zhi1' zhx' zhy' zhy2' zh' ztk' zF' zN'; (try dsimp only); (try k_sweep)))
  (k_with "storeName" => (k_here; k_dflt (refine' storeC_S (by first | (k_asm) | fail) (by first | (k_asm) | fail) (by first | (rfl) | fail) (by first | (tb_rel) | fail) (by first | (with_reducible assumption) | fail) ?_ (by first | (rfl) | fail) (by first | (rfl) | fail); k_whole); intro zh' zo' zF' zN' zd'; (try k_sweep)))
  (k_with "call ref" => (k_here; (with_reducible show wpAny _ _ (call (Value.ref 177) _ _) _ _ _); refine Stop.out ?_))
  (k_with "call type:range" => (k_here; (with_reducible show wpAny _ _ (call (Value.type "range") [Value.int _ _]) _ _ _); k_dflt (refine' range1_S (by first | (k_asm) | fail) (by first | (k_asm) | fail) ?_; k_whole); intro zr' zh' ztk' zt1' zu1' zv1' zR' zF' zN'; (try dsimp only); (try k_sweep)))
  (k_with "call type:enumerate" => (k_here; (with_reducible show wpAny _ _ (call (Value.type _) [Value.ref _]) _ _ _); refine Stop.out ?_))
  (k_with "exec For Tuple Call" => (k_here; (rename Fr _ _ _ _ => zlF'); (with_unfolding_all refine' For_turns zlF' ?_; k_whole)))
  (k_with "call ref" => (k_here; (with_reducible show wpAny _ _ (call (Value.ref 148) _ _) _ _ _); refine Stop.out ?_))
  (k_with "call ref" => (k_here; (with_reducible show wpAny _ _ (call (Value.ref 169) _ _) _ _ _); refine Stop.out ?_))
  (k_with "call ref" => (k_here; (with_reducible show wpAny _ _ (call (Value.ref 174) _ _) _ _ _); refine Stop.out ?_))
  (k_with "compareOp NotIn ref" => (k_here; (with_reducible show wpAny _ _ (compareOp CmpOp.NotIn _ (Value.ref _)) _ _ _); refine Stop.out ?_))
  (k_with "compareOp NotEq ref ref" => (k_here; (with_reducible show wpAny _ _ (compareOp CmpOp.NotEq (Value.ref _) (Value.ref _)) _ _ _); k_dflt (refine' neT_S (by first | (k_asm) | fail) (by first | (tb_rel) | fail) (by first | (tb_rel) | fail) (by first | (k_extra "units") | fail) ?_; k_whole)))
  (k_with "call ref" => (k_here; (with_reducible show wpAny _ _ (call (Value.ref 209) _ _) _ _ _); refine Stop.out ?_))
  (k_with "exec Assign" => (k_here; goal_lacks ToldAt; (with_reducible show wpAny _ _ (exec (Stmt.Assign _ (Expr.IfExp _ _ _ _) _) _) _ _ _); refine Stop.out ?_))
  trivial
/-- behind the store of the name told: one state, whether a look has told it or none -/
def ToldAt (h₀ : Heap) (L : Addr) (m : Str → Option Value) (s : Shared) (P : Led → DR → Value → Int → Int → Tok → Tok → Prop) (fl : Flow) (s' : Shared) : Prop :=
  fl = .next ∧ ∃ (h : Heap) (tk : Nat) (led : Led) (S1 : DR) (told : Value) (x y : Int) (tx ty : Tok), s' = { s with heap := h, toks := tk } ∧ Fr h₀ L h (fun z => if z = Str.ofString "told" then some told else m z) ∧ News h₀ L h led ∧ P led S1 told x y tx ty
theorem told_cut {M : Model} {A : Around} {E : Value → Shared → Prop} {s s₁ : Shared} {t : Sem Flow} {Q : Flow → Shared → Prop} {h₀ h₁ : Heap} {L : Addr} {m : Str → Option Value} (_ : Fr h₀ L h₁ m) (P : Led → DR → Value → Int → Int → Tok → Tok → Prop)
    (h : wpAny M A t (ToldAt h₀ L m s P) E s₁)
    (k : ∀ (h : Heap) (tk : Nat) (led : Led) (S1 : DR) (told : Value) (x y : Int) (tx ty : Tok), Fr h₀ L h (fun z => if z = Str.ofString "told" then some told else m z) → News h₀ L h led → P led S1 told x y tx ty → Q .next { s with heap := h, toks := tk }) :
    wpAny M A t Q E s₁ :=
  wpAny_mono h (fun _ _ ⟨e, h, tk, led, S1, told, x, y, tx, ty, es, F, N, p⟩ => by subst e; subst es; exact k h tk led S1 told x y tx ty F N p) fun _ _ e => e
section
variable {w : World} {mean : ExcName → Option Value} {mg mb : Str → Option Value} {dp un : Nat} {gd : Option (List Code)} {cn : Str} {cs : Scope} {a : Addr} {ccd : Value} {cl : List (Str × Addr)} {outer : List Env} {A₀ : Around} {base h₀ : Heap} {L : Addr} {m : Str → Option Value} {led : Led}
  {s : Shared} {R : Result → Shared → Prop} {src : Addr} {x y : Int} {tx ty : Tok} {n : Nat}

set_option maxHeartbeats 4000000 in
theorem ct_right (H : Here w mean mg mb A₀ base h₀ outer cs L m s.heap led dp un 20) (hs : (src, listOf [.int x tx, .int y ty].toArray n) ∈ led) (hx : 0 ≤ x) (hy : 0 ≤ y) (hy2 : y < 2147483647)
    (hR : ∀ h' tk', Fr h₀ L h' m → News h₀ L h' [] → R (.ok (.ret (.bool true))) { s with heap := h', toks := tk' }) :
    codeAny (model P w) (ktrTop dp un gd cn cs L a ccd cl outer) (.call (.ref 214) ⟨[.ref src], []⟩) R s := by
  obtain ⟨B, F, X, N, T, hk, hdp, hun⟩ := H
  have hfill : (fun (_ : Frag) (_ : OpenLaw) => True) (lawTop.heap_39 w.params) PySem.Challenge.rw_pq1158_01 := by k_fill; trivial
  clear hfill
  k_dflt (refine' code_defC ?k1 ?k2 ?k3 ?k4 ?k5 ?kA ?kF ?kK ?k6 ?k7 ?k8 ?k9 ?kB ?kD ?_ ?c2 ?c3 ?c4; (case kA => exact rfl); (case kF => exact rfl); (case kK => with_reducible assumption); (case k1 => k_asm); (case k2 => k_asm); (case k3 => k_asm); (case k4 => k_asm); (case k5 => k_asm); (case k6 => k_is); (case k7 => k_is); (case k8 => k_extra "room"); (case k9 => exact BindsTo.of_eq rfl); (case kB => exact rfl); (case kD => decide +kernel); (case c2 => exact rfl); (case c3 => exact rfl); (case c4 => exact rfl); k_whole; intro g' L' h' tk' cells' FG' F' N' Y' B' X' T' l1)
  obtain ⟨o1, o2, hE', d1', d2'⟩ := CellsAre.two Y'
  subst hE'
  clear Y'
  simp only [List.cons_append, List.nil_append] at N'
  have hs0 : @LT.lt Nat _ src L' := l1 (src, _) hs
  have hc1 : L' + 1 + 1 ≠ src := neN (by omega)
  have hc2 : L' + 1 ≠ src := neN (by omega)
  have hc3 : L' + 1 + 1 ≠ L' + 1 := neN (by omega)
  clear hs0
  try dsimp only
  try k_unmd
  k_fold
  try k_unmd
  try k_fold
  k_steps
  unfold Stop
  rename IsRange _ _ _ _ _ _ _ _ => RG
  with_reducible rename _ < (3 : Int) => hr1
  with_reducible rename _ < (17 : Int) => hr2
  with_reducible rename _ < ((List.length _ : Nat) : Int) => hg1
  obtain ⟨M, hM, hM2, hM4⟩ := natOf 2 hr1 (by with_reducible assumption) (by omega)
  obtain ⟨K, hK, hK8, hK24⟩ := natOf 8 hr2 (by with_reducible assumption) (by omega)
  obtain ⟨G, hG, hG1, hG6⟩ := g3Of hg1 (by with_reducible assumption)
  have hM100 : M ≤ 100 := by omega
  have hM9 : M ≤ 1000 := Nat.le_trans hM100 (by decide)
  have hM0 : 0 < M := by omega
  have hM4N : M ≤ 4 := by omega
  have hK30 : K < 30 := by omega
  have hK100 : K < 100 := Nat.lt_trans hK30 (by decide)
  have hK9 : K + 1 ≤ 1000 := Nat.le_trans hK30 (by decide)
  have hK9' : K ≤ 1000 := Nat.le_of_lt hK9
  have hM63 : (M : Int) < 2 ^ 63 := i63 (Nat.lt_of_le_of_lt hM100 (by decide))
  have hM63' : -2 ^ 63 ≤ (M : Int) := i63m
  have hM256 : (0 + 1) * (M : Int).toNat ≤ 256 := mul256 hM100
  rename Obj.data _ = Data.cell (some (Value.int (List.getD _ _ _) _)) => dG
  rename News _ _ _ _ => N1
  rename Fr _ _ _ _ => F1
  simp only [hM, hK, hG] at RG dG F1 ⊢
  rename Obj => og
  have d2 : o2.data = .cell (some (.ref src)) := d2'
  have N2 := news_sub3 (a := (L' + 1 + 1, og)) (b := (L' + 1, o2)) (c := (src, _)) N1 (.head _) (by tb_rel) (by tb_rel)
  clear N1 hs l1
  refine LCg.CompSrc.range rfl F1 N2 RG (small_to hM9) rsize_to (le_line hM9) ?_
  intro g0
  refine comp_rest (fun i ys nw => ∃ (x y : Int) (tx ty : Tok) (qs : List Int), 0 ≤ x ∧ 0 ≤ y ∧ y < 2147483647 ∧ (src, listOf [.int x tx, .int y ty].toArray n) ∈ nw ∧ (L' + 1, o2) ∈ nw ∧ (L' + 1 + 1, og) ∈ nw ∧ IntsAre ys qs ∧ ∀ q ∈ qs, 1 ≤ q ∧ q ≤ 12)
    ⟨_, _, _, _, [], by with_reducible assumption, by with_reducible assumption, by with_reducible assumption, .tail _ (.tail _ (.head _)), .tail _ (.head _), .head _, .nil, fun _ h => nomatch h⟩ ?_ ?_
  · rintro i v ys nw I1 oI C oC D1 m₂ h tk E' hi ⟨x, y, tx, ty, qs, hx, hy, hy2, hs, hs2, hs3, hys, hqs⟩ hv hC hxv F1 N1 off hyl
    try k_unmd
    try k_fold
    k_steps
    unfold Stop
    have off' := off.mem
    have hne := off' _ hs
    with_reducible rename _ < ((List.length _ : Nat) : Int) => hg5
    have hg := g5Of hg5 (by with_reducible assumption)
    refine compEnd_fin (by k_asm) (by k_asm) (mem_setL_ne (.tail _ (.head _)) (Ne.symm hne.1)) (mem_setL_ne (.tail _ (.tail _ (.head _))) (Ne.symm hne.2.1)) (mem_setL_ne (.tail _ (.tail _ (.tail _ (.head _)))) (Ne.symm hne.2.2)) trivial
      ⟨_, _, _, _, qs ++ [_], ?_, ?_, ?_, mem_off3 (by tb_rel) hne, mem_off3 (by tb_rel) (off' _ hs2), mem_off3 (by tb_rel) (off' _ hs3), ints_snoc hys, ?_⟩
    · with_reducible assumption
    · with_reducible assumption
    · with_reducible assumption
    · intro q hq
      rcases List.mem_append.mp hq with hq | hq
      · exact hqs q hq
      · obtain rfl := List.mem_singleton.mp hq; exact hg
  · rintro ys nw hyl ⟨x, y, tx, ty, qs, hx, hy, hy2, hs, hs2, hs3, hys, hqs⟩
    unfold LCg.FinA
    intro D1 h1 tk1 F1 N1 off1
    dsimp only
    have hql := hys.length
    try k_unmd
    try k_fold
    k_steps
    unfold Stop
    k_dflt (refine' ct_newdr (M1 := 40) (M2 := 999) (Here.mk ?hB ?hF ?hX ?hN ?hT ?hk ?hd ?hu) ?hq hys ?hlm ?hlen ?hpos ?hlt ?hq1 ?hlms ?hM1 ?hM2 ?_; (case hB => k_asm); (case hF => k_asm); (case hX => k_asm); (case hN => k_asm); (case hT => k_asm); (case hk => first | with_reducible assumption | exact rfl); (case hd => k_extra "room"); (case hu => k_extra "units"))
    case hq => tb_rel
    case hlm => tb_rel
    case hlen => rw [rep_len, Int.toNat_natCast]; exact hyl.symm.trans hql
    case hpos => exact (hyl.symm.trans hql) ▸ hM0
    case hlt => exact (hyl.symm.trans hql) ▸ Nat.lt_of_le_of_lt (hM4N) (by decide)
    case hq1 => exact fun q hq => (hqs q hq).1
    case hlms => intro v hv; obtain rfl := rep_mem _ hv; exact ⟨_, _, _, _, rfl, by tb_rel⟩
    case hM1 => decide
    case hM2 => decide
    intro S Own led' h' tk' F2 N2 I2 hsub hfr hin hqr hSq hSl hSat hSb hSn hSr
    dsimp only
    have hsL := hsub (src, _) (by tb_rel)
    have hs2L := hsub (L' + 1, o2) (by tb_rel)
    have hs3L := hsub (L' + 1 + 1, og) (by tb_rel)
    have hqaL := hsub (D1, LCg.lst ys) (by tb_rel)
    have ho1 : ¬ Own src := fun h => Nat.lt_irrefl _ (hfr _ h (src, _) (by tb_rel))
    have ho2 : ¬ Own (L' + 1) := fun h => Nat.lt_irrefl _ (hfr _ h (L' + 1, o2) (by tb_rel))
    have ho3 : ¬ Own (L' + 1 + 1) := fun h => Nat.lt_irrefl _ (hfr _ h (L' + 1 + 1, og) (by tb_rel))
    have ho4 : ¬ Own D1 := fun h => Nat.lt_irrefl _ (hfr _ h (D1, LCg.lst ys) (by tb_rel))
    have hqS : S.qa ≠ src ∧ S.ra ≠ src := ⟨Ne.symm (hqr (src, _) (by tb_rel)).1, Ne.symm (hqr (src, _) (by tb_rel)).2⟩
    clear hsub hfr hqr
    k_sweep
    try k_unmd
    try k_fold
    k_steps
    unfold Stop
    with_reducible rename ∀ p : Addr × Obj, p ∈ led' → _ => hza
    obtain ⟨za, rfl, hza'⟩ : ∃ za : Addr, za = _ ∧ ∀ p ∈ led', p.1 < za := ⟨_, rfl, hza⟩
    clear hza
    rename News _ _ _ _ => N3
    rename Fr _ _ _ _ => F3
    rename IsRange _ _ _ _ _ _ _ _ => RG
    have hoz : ¬ Own za := fun h => by obtain ⟨o, ho⟩ := hin _ h; exact Nat.lt_irrefl _ (hza' _ ho)
    have hzs : za ≠ src := Nat.ne_of_gt (hza' _ hsL)
    have hza1 : za ≠ L' + 1 := Nat.ne_of_gt (hza' _ hs2L)
    have hza2 : za ≠ L' + 1 + 1 := Nat.ne_of_gt (hza' _ hs3L)
    have hza3 : za ≠ D1 := Nat.ne_of_gt (hza' _ hqaL)
    have hqZ : S.qa ≠ za ∧ S.ra ≠ za := ⟨Nat.ne_of_lt (hza' _ I2.hqa), Nat.ne_of_lt (hza' _ I2.hra)⟩
    have hqs' := off1_mem off1
    have hsd : src ≠ D1 := hqs' _ hs
    refine iter_rangeUnr (n := M) rfl RG (small_to hM9) rsize_to F3 (news_sub N3 (l' := (za, listOf [].toArray 0) :: led') fun _ h => .tail _ h) fun I hI => range_rest [(Str.ofString "many", .int (M : Int) _), (Str.ofString "takes", .int (K : Int) _), (Str.ofString "quanta", .ref D1), (Str.ofString "queues", .ref S.D), (Str.ofString "sizes", .ref za)]
      (fun i nw => ∃ S' zs zn x y tx ty, FillSt Own nw src za S n K M G qs i 0 i S' zs zn x y tx ty ∧ (L' + 1, o2) ∈ nw ∧ (L' + 1 + 1, og) ∈ nw ∧ (D1, LCg.lst ys) ∈ nw) ?_ ⟨rfl, rfl, rfl, rfl, rfl, trivial⟩ ?_ ?_
    · refine ⟨S, [], 0, x, y, tx, ty, ⟨hx, hy, hy2, .tail _ hsL, I2.sub fun _ h => .tail _ h, rfl, rfl, rfl, hSq, hSl.trans (by rw [← hql, hyl]), hSat, hSb, hSn.trans (by rw [← hql, hyl]), .head _, rfl, (fun _ h => nomatch h), fun j r hr => ?_⟩, .tail _ hs2L, .tail _ hs3L, .tail _ hqaL⟩
      obtain ⟨a1, a2, a3, a4⟩ := hSr r (List.mem_of_getElem? hr)
      have hc : cnt K 0 0 j = 0 := by unfold cnt; split <;> (try split) <;> omega
      exact ⟨a3, a4, by rw [a1, hc]; rfl, by rw [a2, hc]; simp, fun q t ht => by rw [a1] at ht; cases ht⟩
    · rintro i t h tk u nw hi ⟨S1, zs, zn, x, y, tx, ty, Z, hs2, hs3, hqa⟩ F4 N4
      simp only [Int.zero_add] at F4
      have hs := Z.hs
      have hx := Z.hx
      have hy := Z.hy
      have hy2 := Z.hy2
      have hz := Z.hz
      try k_unmd
      try k_fold
      k_steps
      unfold Stop
      rename IsRange _ _ _ _ _ _ _ _ => RG2
      generalize hnw1 : ((I, itR (0 + ((i + 1 : Nat) : Int)) ((M : Int) - ((i + 1 : Nat) : Int))) : Addr × Obj) :: nw = nw1 at *
      have h01 : ∀ p ∈ nw, p ∈ nw1 := fun p hp => hnw1 ▸ .tail _ hp
      have hI1 : (I, itR (0 + ((i + 1 : Nat) : Int)) ((M : Int) - ((i + 1 : Nat) : Int))) ∈ nw1 := hnw1 ▸ .head _
      refine LCg.CompSrc.range rfl (by k_asm) (by k_asm) RG2 (small_to1 hK9) rsize_to1 (le_line hK9) ?_
      intro g1
      refine comp_rest (fun q cs nw2 => ∃ (x y : Int) (tx ty : Tok) (ns : List Int), 0 ≤ x ∧ 0 ≤ y ∧ y < 2147483647 ∧ (src, listOf [.int x tx, .int y ty].toArray n) ∈ nw2 ∧ LaterL src nw1 nw2 ∧ IntsAre cs ns ∧ ∀ c ∈ ns, 1 ≤ c ∧ c ≤ G)
        ⟨x, y, tx, ty, [], hx, hy, hy2, h01 _ hs, LaterL.refl, .nil, fun _ h => nomatch h⟩ ?_ ?_
      · rintro q v cs nw2 I1 oI C oC D1' m₂ h tk E' hi2 ⟨x, y, tx, ty, ns, hx, hy, hy2, hs, hL, hcs, hns⟩ hv hC hxv F1 N1 off hyl
        have hs2 := hL.ne (h01 _ hs2) hc2
        have hs3 := hL.ne (h01 _ hs3) hc1
        try k_unmd
        try k_fold
        k_steps
        unfold Stop
        have off' := off.mem
        have hne := off' _ hs
        with_reducible rename _ < G => hg5
        refine compEnd_fin (by k_asm) (by k_asm) (mem_setL_ne (.head _) (Ne.symm hne.1)) (mem_setL_ne (.tail _ (.head _)) (Ne.symm hne.2.1)) (mem_setL_ne (.tail _ (.tail _ (.head _))) (Ne.symm hne.2.2)) trivial
          ⟨_, _, _, _, ns ++ [_], ?_, ?_, ?_, mem_off3 (by tb_rel) hne, ?_, ints_snoc hcs, ?_⟩
        · with_reducible assumption
        · with_reducible assumption
        · with_reducible assumption
        · intro p hp hn
          have hp2 := hL p hp hn
          exact mem_off3 (a := p.1) (o := p.2) (LaterL.set _ (.tail _ (.tail _ (.tail _ hp2))) hn) (off' p hp2)
        · intro c hc
          rcases List.mem_append.mp hc with hc | hc
          · exact hns c hc
          · obtain rfl := List.mem_singleton.mp hc; omega
      · rintro cs nw2 hcl ⟨x, y, tx, ty, ns, hx, hy, hy2, hs, hL, hcs, hns⟩
        unfold LCg.FinE
        intro D2 h2 tk2 F2 N2 off2
        dsimp only
        have hs2' := hL.ne (h01 _ hs2) hc2
        have hs3' := hL.ne (h01 _ hs3) hc1
        have hqa' := hL.ne (h01 _ hqa) (Ne.symm hsd)
        have hz' := hL.ne (h01 _ hz) hzs
        have hzl := Z.hzl
        have hzsz : (List.map (fun z : QZ => Value.ref z.l) zs).length ≤ sizeLine := le_line (by rw [List.length_map, hzl]; exact Nat.le_trans (Nat.le_of_lt hi) hM9)
        have hget : (List.map (fun z : QZ => Value.ref z.l) zs ++ [Value.ref D2])[(i : Int).toNat]? = some (.ref D2) := by
          rw [Int.toNat_natCast, List.getElem?_append_right (by rw [List.length_map, hzl]; exact Nat.le_refl _), List.length_map, hzl, Nat.sub_self]; rfl
        have off2' := off1_mem off2
        have hzD : za ≠ D2 := off2' _ hz'
        have hsD : src ≠ D2 := off2' _ hs
        have hI2 := hL.ne hI1 (Nat.ne_of_gt (hI _ (.tail _ hsL)))
        have Z1 : DRIn Own nw2 S1 := (Z.I.sub h01).laterL hL ho1 (by rw [Z.hqa]; exact hqS.1) (by rw [Z.hra]; exact hqS.2)
        have hoD2 : ¬ Own D2 := Z1.notOwn off2'
        try k_unmd
        try k_fold
        k_steps
        unfold Stop
        have hup : LaterL za nw2 (setL za (listOf (List.map (fun z : QZ => Value.ref z.l) zs ++ [Value.ref D2]).toArray (zn + 1)) ((D2, LCg.lst cs) :: nw2)) := fun p hp hn => LaterL.set p (.tail _ hp) hn
        refine ktu_enum rfl (by k_asm) (by k_asm) (lo := LCg.lst cs) (mem_setL_ne (.head _) (Ne.symm hzD)) rfl rfl rfl (fun J1 hJ1 => enum_rest [(Str.ofString "many", .int (M : Int) _), (Str.ofString "takes", .int (K : Int) _), (Str.ofString "quanta", .ref D1), (Str.ofString "queues", .ref S.D), (Str.ofString "sizes", .ref za), (Str.ofString "queue", .int (i : Int) t)]
          (fun k nw3 => ∃ S' x y tx ty, FillSt Own nw3 src za S n K M G qs i k (i + 1) S' (zs ++ [⟨D2, cs.length, cs, ns⟩]) (zn + 1) x y tx ty ∧ (L' + 1, o2) ∈ nw3 ∧ (L' + 1 + 1, og) ∈ nw3 ∧ (D1, LCg.lst ys) ∈ nw3 ∧ (I, itR (0 + ((i + 1 : Nat) : Int)) ((M : Int) - ((i + 1 : Nat) : Int))) ∈ nw3) ?_ ⟨rfl, rfl, rfl, rfl, rfl, rfl, trivial⟩ ?_ ?_)
        · have htup : ∀ a its n, (a, tupOf its n) ∈ nw → ¬ Own a → (a, tupOf its n) ∈ (setL za (listOf (List.map (fun z : QZ => Value.ref z.l) zs ++ [Value.ref D2]).toArray (zn + 1)) ((D2, LCg.lst cs) :: nw2)) := fun a its n hm _ => hup.tup (hL.tup (h01 _ hm))
          refine ⟨S1, x, y, tx, ty, ⟨hx, hy, hy2, hup.ne hs (Ne.symm hzs), Z1.laterL hup hoz (by rw [Z.hqa]; exact hqZ.1) (by rw [Z.hra]; exact hqZ.2), Z.hD, Z.hqa, Z.hra, Z.hq, Z.hl, Z.ha, Z.hb, Z.hn, ?_, by rw [List.length_append, hzl]; rfl, ?_, ?_⟩, hup.ne hs2' (Ne.symm hza1), hup.ne hs3' (Ne.symm hza2), hup.ne hqa' (Ne.symm hza3), hup.ne hI2 (Nat.ne_of_gt (hI _ (.head _)))⟩
          · rw [List.map_append]
            exact mem_setL_self (.tail _ hz') rfl
          · intro z hzm
            rcases List.mem_append.mp hzm with hzm | hzm
            · obtain ⟨b1, b2, b3, b4, b5, b6, b7⟩ := Z.hzs z hzm
              exact ⟨hup.ne (hL.ne (h01 _ b1) b7) b6, b2, b3, b4, b5, b6, b7⟩
            · obtain rfl := List.mem_singleton.mp hzm
              exact ⟨mem_setL_ne (.head _) (Ne.symm hzD), hcs, (hcs.length).symm.trans hcl, hns, hoD2, Ne.symm hzD, Ne.symm hsD⟩
          · intro j r hj
            exact (Z.hr j r hj).keep htup (fun z hz => by
              have := lt_of_at hz
              rw [List.getElem?_append_left this]; exact hz) rfl
        · rintro k v T tT h5 tk5 u5 nw3 oe oi hv ⟨S2, x, y, tx, ty, Z2, e1, e2, e3, e4⟩ hT F5 c1 c2 N5
          have I5 := Z2.I.sub (led' := (J1 + 1, oe) :: (J1, oi) :: nw3) fun _ h => .tail _ (.tail _ h)
          have ho5 : ¬ Own (J1 + 1) := I5.notOwnCls N5 (.head _) (isIt_enum c1).d (isIt_enum c1).l
          have ho6 : ¬ Own J1 := I5.notOwnCls N5 (.tail _ (.head _)) (isIt_list c2).d (isIt_list c2).l
          have ho7 : ¬ Own I := Z2.I.notOwnCls (news_sub N5 fun _ h => .tail _ (.tail _ h)) e4 isIt_range.d isIt_range.l
          obtain ⟨c, tc, rfl, hc⟩ := hcs.at k v hv
          have hJ2 := hJ1 _ (hup.ne hs2' (Ne.symm hza1))
          have hJ3 := hJ1 _ (hup.ne hs3' (Ne.symm hza2))
          have hJ4 := hJ1 _ (hup.ne hqa' (Ne.symm hza3))
          have hJ5 := hJ1 _ (hup.ne hI2 (Nat.ne_of_gt (hI _ (.head _))))
          have hkK : k < K + 1 := hcl ▸ lt_of_at hv
          have hk40 : k < 40 := Nat.lt_of_lt_of_le hkK (Nat.le_trans hK30 (by decide))
          have hi0 : (0 : Int) ≤ (i : Int) := Int.natCast_nonneg i
          have hi63 : (i : Int) < 2 ^ 63 := i63 (Nat.lt_of_lt_of_le hi hM9)
          have hDm : (S.D, instObj 177 S2.dD) ∈ nw3 := Z2.hD ▸ Z2.I.hD
          have hdDm := Z2.I.hdD
          have hiM : i < S2.rows.length := by rw [Z2.hn]; exact hi
          obtain ⟨r, hr⟩ : ∃ r, S2.rows[i]? = some r := ⟨S2.rows[i], by simp⟩
          have Rf := Z2.hr i r hr
          have hcn : cnt K i k i = k := by simp [cnt]
          have hcm := hns c (List.mem_of_getElem? hc)
          have hz5 : (zs ++ [(⟨D2, cs.length, cs, ns⟩ : QZ)])[i]? = some ⟨D2, cs.length, cs, ns⟩ := by rw [List.getElem?_append_right (Nat.le_of_eq hzl), hzl, Nat.sub_self]; rfl
          have l1 := Rf.len
          have l2 := Rf.oct
          have l3 := Rf.most
          have l4 := Rf.moct
          rw [hcn] at l1 l2
          try k_unmd
          try k_fold
          k_steps
          unfold Stop
          rename News _ _ _ _ => N7
          have hoT := (Z2.I.sub fun p hp => .tail _ (.tail _ (.tail _ hp))).notOwnCls N7 (.head _) cls_td cls_tl
          refine wpAny_call ?_
          k_dflt (refine' ct_putD (S := S2) (Own := Own) (Here.mk ?hB ?hF ?hX ?hN ?hT ?hk ?hd ?hu) (Z2.I.sub ?hsub) Z2.hD hr ?h1 ?h2 ?h3 ?_; (case hB => k_asm); (case hF => k_asm); (case hX => k_asm); (case hN => k_asm); (case hT => k_asm); (case hk => first | with_reducible assumption | exact rfl); (case hd => k_extra "room"); (case hu => k_extra "units"); (case h1 => rw [l1, l3]; exact lt40 hk40); (case h2 => rw [l4]; exact oct_le l2 hk40 (Int.le_trans hcm.2 hG6)); (case h3 => rw [l1]; exact Nat.lt_trans hk40 (by decide)))
          · exact fun p hp => .tail _ (.tail _ (.tail _ hp))
          intro ta t' led4 I4 hl4 hta h6 tk6 F6 N6
          dsimp only
          k_sweep
          try k_unmd
          try k_fold
          k_steps
          have m1 := hl4 (J1 + 1, oe) (.tail _ (.head _)) ho5
          have m2 := hl4 (J1, oi) (.tail _ (.tail _ (.head _))) ho6
          have mT := hl4 _ (.head _) hoT
          have Z3 := Z2.put hr hz5 hc hG6 (fun a o h hn hcl => mem_off2 N6 (isIt_enum c1) (isIt_list c2) m1 m2 (hl4 (a, o) (.tail _ (.tail _ (.tail _ h))) hn) hcl)
            ((I4.off (isIt_list c2) N6 m2).off (isIt_enum c1) (news_sub N6 offI_sub) (mem_offI m1 (Nat.succ_ne_self _))) (mem_off2 N6 (isIt_enum c1) (isIt_list c2) m1 m2 mT (.inr rfl)) hoT ho1 hoz
          have up : ∀ (b : Addr) (o : Obj), (b, o) ∈ nw3 → ¬ Own b → b < J1 → (b, o) ∈ offI (J1 + 1) (offI J1 led4) := fun b o h hn hlt => mem_offI (mem_offI (hl4 (b, o) (.tail _ (.tail _ (.tail _ h))) hn) (Nat.ne_of_lt hlt)) (Nat.ne_of_lt (Nat.lt_succ_of_lt hlt))
          refine unrEndW_fin (a := (J1 + 1, oe)) (b := (J1, oi)) (by k_asm) N6 m1 m2 ⟨⟨?_, trivial⟩, ⟨rfl, rfl, rfl, rfl, rfl, rfl, trivial⟩, _, x, y, tx, ty, Z3, up _ _ e1 ho2 hJ2, up _ _ e2 ho3 hJ3, up _ _ e3 ho4 hJ4, up _ _ e4 ho7 hJ5⟩
          exact (Z3.hzs ⟨D2, cs.length, cs, ns⟩ (List.mem_append_right _ (List.mem_singleton.mpr rfl))).1
        · rintro h5 tk5 u5 nw3 ⟨S2, x, y, tx, ty, Z2, e1, e2, e3, e4⟩ F5 N5
          try k_unmd
          try k_fold
          k_steps
          rw [hcl] at Z2
          refine unrEnd_fin (by k_asm) N5 e4 ⟨⟨rfl, rfl, rfl, rfl, rfl, trivial⟩, S2, _, _, x, y, tx, ty, Z2.next.off isIt_range N5 e4, mem_offI e1 (Nat.ne_of_lt (hI _ (.tail _ hs2L))), mem_offI e2 (Nat.ne_of_lt (hI _ (.tail _ hs3L))), mem_offI e3 (Nat.ne_of_lt (hI _ (.tail _ hqaL)))⟩
    · rintro h tk u nw ⟨S1, zs, zn, x, y, tx, ty, Z, hs2, hs3, hqa⟩ F4 N4
      try k_unmd
      try k_fold
      k_steps
      unfold Stop
      with_reducible rename _ ∧ AllLt _ nw => hq1
      with_reducible rename _ ∧ _ ∧ _ ∧ AllLt _ nw => hq3
      obtain ⟨sa, rfl, hsa⟩ : ∃ sa : Addr, sa = _ ∧ AllLt sa nw := ⟨_, rfl, hq1.2⟩
      obtain ⟨pa, rfl, hpa, hsp⟩ : ∃ pa : Addr, pa = _ ∧ AllLt pa nw ∧ @LT.lt Nat _ sa pa := ⟨_, rfl, hq3.2.2.2, hq3.2.1⟩
      rename News _ _ _ _ => N5
      rename Fr _ _ _ _ => F5
      rename IsRange _ _ _ _ _ _ _ _ => RG3
      simp only [Int.toNat_natCast] at N5
      have hsa' : ∀ p ∈ nw, p.1 ≠ sa := fun p hp => Nat.ne_of_lt (allLt_mem hsa p hp)
      have hpa' : ∀ p ∈ nw, p.1 ≠ pa := fun p hp => Nat.ne_of_lt (allLt_mem hpa p hp)
      have hspn : sa ≠ pa := Nat.ne_of_lt hsp
      have hos : ¬ Own sa := Z.I.notOwn hsa'
      have hop : ¬ Own pa := Z.I.notOwn hpa'
      have hs_s := hsa' _ Z.hs
      have hs_p := hpa' _ Z.hs
      have hz_s := hsa' _ Z.hz
      have hz_p := hpa' _ Z.hz
      have hc1s := hsa' _ hs3
      have hc1p := hpa' _ hs3
      have hc2s := hsa' _ hs2
      have hc2p := hpa' _ hs2
      have hD1s := hsa' _ hqa
      have hD1p := hpa' _ hqa
      have hqS2 : S.qa ≠ sa ∧ S.ra ≠ sa := ⟨by rw [← Z.hqa]; exact hsa' _ Z.I.hqa, by rw [← Z.hra]; exact hsa' _ Z.I.hra⟩
      have hqP2 : S.qa ≠ pa ∧ S.ra ≠ pa := ⟨by rw [← Z.hqa]; exact hpa' _ Z.I.hqa, by rw [← Z.hra]; exact hpa' _ Z.I.hra⟩
      clear hq1 hq3
      have hs2N := hs2
      have hs3N := hs3
      have hqaN := hqa
      refine iter_rangeUnr (n := K) rfl RG3 (small_to hK9') rsize_to F5 N5 fun I hI => range_rest [(Str.ofString "many", .int (M : Int) _), (Str.ofString "takes", .int (K : Int) _), (Str.ofString "quanta", .ref D1), (Str.ofString "queues", .ref S.D), (Str.ofString "sizes", .ref za), (Str.ofString "sent", .ref sa), (Str.ofString "places", .ref pa)]
        (fun i nw2 => ∃ S2 x y tx ty svs pvs sns ps n1 n2, TakeSt Own nw2 src za S n K M G qs zs zn sa pa i S2 x y tx ty svs pvs sns ps n1 n2 ∧ (L' + 1, o2) ∈ nw2 ∧ (L' + 1 + 1, og) ∈ nw2 ∧ (D1, LCg.lst ys) ∈ nw2) ?_ ⟨rfl, rfl, rfl, rfl, rfl, rfl, rfl, trivial⟩ ?_ ?_
      · exact ⟨S1, x, y, tx, ty, _, _, _, _, 0, 0, TakeSt.start Z (fun p hp => .tail _ (.tail _ (.tail _ (.tail _ (.tail _ hp))))) (.tail _ (.tail _ (.tail _ (.head _)))) (.tail _ (.head _)) hsa' hpa' hM0 hG1, .tail _ (.tail _ (.tail _ (.tail _ (.tail _ hs2)))), .tail _ (.tail _ (.tail _ (.tail _ (.tail _ hs3)))), .tail _ (.tail _ (.tail _ (.tail _ (.tail _ hqa))))⟩
      · rintro i t h tk u nw2 hi ⟨S2, x, y, tx, ty, svs, pvs, sns, ps, n1, n2, Y, hs2, hs3, hqa⟩ F6 N6
        simp only [Int.zero_add] at F6
        have hs := Y.hs
        have hx := Y.hx
        have hy := Y.hy
        have hy2 := Y.hy2
        have hz := Y.hz
        have hsm := Y.hsm
        have hpm := Y.hpm
        have hDm : (S.D, instObj 177 S2.dD) ∈ nw2 := Y.hD ▸ Y.I.hD
        have hdDm := Y.I.hdD
        have htwo := Y.two hi hK100
        generalize hnwI : ((I, itR (0 + ((i + 1 : Nat) : Int)) ((K : Int) - ((i + 1 : Nat) : Int))) : Addr × Obj) :: nw2 = nwI at N6
        have h02 : ∀ p ∈ nw2, p ∈ nwI := fun p hp => hnwI ▸ .tail _ hp
        have hII : (I, itR (0 + ((i + 1 : Nat) : Int)) ((K : Int) - ((i + 1 : Nat) : Int))) ∈ nwI := hnwI ▸ .head _
        have YI : DRIn Own nwI S2 := Y.I.sub h02
        have hoI : ¬ Own I := YI.notOwnCls N6 hII isIt_range.d isIt_range.l
        have hs := h02 _ hs
        have hs2 := h02 _ hs2
        have hs3 := h02 _ hs3
        have hz := h02 _ hz
        have hsm := h02 _ hsm
        have hpm := h02 _ hpm
        have hqa := h02 _ hqa
        have hDm := h02 _ hDm
        have hdDm := h02 _ hdDm
        try k_unmd
        try k_fold
        k_steps
        unfold Stop
        have FB := F6
        refine told_cut (s := s) (L := L') FB (fun led1 S1 told x y tx ty => MidSt Own led1 nwI src n G qs sns M S2 S1 told x y tx ty) ?_ ?_
        · clear FB
          k_steps
          · unfold Stop
            rename News _ _ _ _ => N7
            refine wpAny_call ?_
            k_dflt (refine' cl_lookD (S := S2) (Own := Own) (G := G) (sent := sns) (Here.mk ?hB ?hF ?hX ?hN ?hT ?hk ?hd ?hu) Y.hD (YI.laterL LaterL.set ho1 (by rw [Y.hqa]; exact hqS.1) (by rw [Y.hra]; exact hqS.2)) ?h1 ?h2 ?h3 ?_; (case hB => k_asm); (case hF => k_asm); (case hX => k_asm); (case hN => k_asm); (case hT => k_asm); (case hk => first | with_reducible assumption | exact rfl); (case hd => k_extra "room"); (case hu => k_extra "units"); (case h1 => exact fun r hr e => by have := (htwo r hr).1; rw [e] at this; exact absurd this (by simp)); (case h2 => rw [Y.hq, Y.hn]; exact Y.fair); (case h3 => exact fun r hr t ht => ((htwo r hr).2.2 t ht).2))
            intro i1 r1 t1 ts1 lvs1 left1 tat1 ti1 T1 led1 hr1 hth1 hF1 hle1 hrd1 I1 hl1 hT1 hf1 h7 tk7 F7 N7
            dsimp only
            k_sweep
            have Mid : MidSt Own led1 nwI src n G qs sns M S2 { S2 with at_ := i1, tat := tat1, b := true, lvs := lvs1, left := left1 } (.ref T1) _ _ _ _ :=
              { hx := by with_reducible assumption
                hy := by with_reducible assumption
                hy2 := by with_reducible assumption
                hs := hl1 (src, _) (mem_setL_self hs rfl) ho1
                up := fun a o h hn hne => hl1 (a, o) (LaterL.set _ h (.inl hne)) hn
                I := I1
                hD := rfl
                hqa := rfl
                hra := rfl
                hq := rfl
                hrows := rfl
                fair := by rw [Y.hq, Y.hn] at hF1; exact hF1
                told := .inr ⟨T1, i1, r1, t1, ts1, ti1, rfl, hr1, hth1, hT1, I1.notOwnCls N7 hT1 cls_td cls_tl, ⟨rfl, fun r t ts hr hth => by
                  have hr' : S2.rows[i1]? = some r := hr
                  rw [hr1] at hr'
                  obtain rfl := Option.some.inj hr'
                  rw [hth1] at hth
                  obtain rfl := (List.cons.inj hth).1
                  exact hle1⟩, rfl⟩ }
            clear hl1 hf1 hrd1 hF1 hle1
            k_steps
            rename News _ _ _ _ => N8
            rename Fr _ _ _ _ => F8
            exact ⟨rfl, _, _, _, _, _, _, _, _, _, rfl, F8, N8, Mid⟩
          · rename News _ _ _ _ => N7
            rename Fr _ _ _ _ => F7
            exact ⟨rfl, _, _, _, _, _, _, _, _, _, rfl, F7, N7, MidSt.plain (G := G) N7 (by with_reducible assumption) (by with_reducible assumption) (by with_reducible assumption) hs YI ho1 (by rw [Y.hqa]; exact hqS.1) (by rw [Y.hra]; exact hqS.2) Y.fair⟩
        intro h7 tk7 led1 S1 told x y tx ty F7 N7 Mid
        clear FB
        have hDm : (S.D, instObj 177 S1.dD) ∈ led1 := (Mid.hD.trans Y.hD) ▸ Mid.I.hD
        have hdDm := Mid.I.hdD
        dsimp only
        try k_unmd
        try k_fold
        k_steps
        unfold Stop
        focus
          refine wpAny_call ?_
          k_dflt (refine' ct_takeD (G := G) (sent := sns) (Own := Own) (Here.mk ?hB ?hF ?hX ?hN ?hT ?hk ?hd ?hu) Mid.I (Mid.hD.trans Y.hD) ?h1 ?h2 ?h3 ?h4 ?_; (case hB => k_asm); (case hF => k_asm); (case hX => k_asm); (case hN => k_asm); (case hT => k_asm); (case hk => first | with_reducible assumption | exact rfl); (case hd => k_extra "room"); (case hu => k_extra "units"); (case h1 => rw [Mid.hrows]; exact fun r hr => (htwo r hr).1); (case h2 => rw [Mid.hq, Mid.hrows, Y.hq, Y.hn]; exact Mid.fair); (case h3 => rw [Mid.hrows]; exact fun r hr t ht => (htwo r hr).2.2 t ht); (case h4 => rw [Mid.hrows]; exact fun r hr => (htwo r hr).2.1))
          rw [Mid.hrows, Mid.hq]
          intro j r r' t2 ts lvs2 left2 tat2 ti2 nl2 T2 led2 hr hth hth' hF2 hle2 hrd2 I2 hl2 hT2 hf2 h8 tk8 F8 N8
          have hjM : j < M := by have := lt_of_at hr; rw [Y.hn] at this; exact this
          obtain ⟨z, hz0⟩ : ∃ z, zs[j]? = some z := ⟨zs[j]'(by rw [Y.hzl]; exact hjM), by simp⟩
          obtain ⟨p, hp0⟩ : ∃ p, ps[j]? = some p := ⟨ps[j]'(by rw [Y.hpl]; exact hjM), by simp⟩
          obtain ⟨hlen0, hth0⟩ := Y.hr j r z p hr hz0 hp0
          obtain ⟨hsz0, tp, ntp, tk1', tk2', htv, htm, hto⟩ := hth0 0 t2 (by rw [hth]; rfl)
          rw [Nat.add_zero] at hsz0 htm
          have hgp : (ps.map fun q : Nat => (q : Int)).getD (j : Int).toNat 0 = (p : Int) := by rw [Int.toNat_natCast, List.getD_eq_getElem?_getD, List.getElem?_map, hp0]; rfl
          obtain ⟨zm1, zm2, zm3, zm4, zm5, zm6, zm7, zm8⟩ := Y.hzs z (List.mem_of_getElem? hz0)
          have hpK : p < K + 1 := by have := lt_of_at hsz0; omega
          have hgs : z.ns.getD ((ps.map fun q : Nat => (q : Int)).getD (j : Int).toNat 0).toNat 0 = t2.sz := by rw [hgp, Int.toNat_natCast, List.getD_eq_getElem?_getD, hsz0]; rfl
          have hzj : (List.map (fun z : QZ => Value.ref z.l) zs)[(j : Int).toNat]? = some (.ref z.l) := by rw [Int.toNat_natCast, List.getElem?_map, hz0]; rfl
          rw [htv] at hT2
          rw [← hgp] at htm
          have up2 : ∀ a o, (a, o) ∈ nwI → ¬ Own a → a ≠ src → (a, o) ∈ led2 := fun a o h hn hne => hl2 (a, o) (Mid.up a o h hn hne) hn
          have htn : ∀ a its n', (a, tupOf its n') ∈ nwI → a ≠ src := fun a its n' hm e => cls_tl (congrArg Obj.cls (same_obj N6 hm hs e))
          have htpn : tp ≠ src := htn _ _ _ (h02 _ htm)
          have upT : ∀ a its n', (a, tupOf its n') ∈ nw2 → ¬ Own a → (a, tupOf its n') ∈ led2 := fun a its n' hm hn => up2 _ _ (h02 _ hm) hn (htn _ _ _ (h02 _ hm))
          have hs := hl2 (src, _) Mid.hs ho1
          have hs2 := up2 _ _ hs2 ho2 hc2
          have hs3 := up2 _ _ hs3 ho3 hc1
          have hz := up2 _ _ hz hoz hzs
          have hsm := up2 _ _ hsm hos (Ne.symm hs_s)
          have hpm := up2 _ _ hpm hop (Ne.symm hs_p)
          have hqa := up2 _ _ hqa ho4 (Ne.symm hsd)
          have htm := up2 _ _ (h02 _ htm) hto htpn
          have hzm := up2 _ _ (h02 _ zm1) zm5 zm6
          have hIm := up2 _ _ hII hoI (Nat.ne_of_gt (hI _ (.tail _ (.tail _ (.tail _ (.tail _ (.tail _ Z.hs)))))))
          have hsi := Y.hsi
          have hpi := Y.hpi
          have hsl : sns.length = M := by obtain ⟨_, q⟩ := Y.fair; exact q.hs
          have hpl : (ps.map fun q : Nat => (q : Int)).length = M := by rw [List.length_map, Y.hpl]
          have hj0 : (0 : Int) ≤ (j : Int) := Int.natCast_nonneg j
          have hj1 : (j : Int) < (sns.length : Int) := by rw [hsl]; exact Int.ofNat_lt.mpr hjM
          have hj2 : (j : Int) < ((ps.map fun q : Nat => (q : Int)).length : Int) := by rw [hpl]; exact Int.ofNat_lt.mpr hjM
          have hj3 : (j : Int) < 2 ^ 63 := i63 (Nat.lt_of_lt_of_le hjM hM9)
          have hg0 : 0 ≤ (ps.map fun q : Nat => (q : Int)).getD (j : Int).toNat 0 := by rw [hgp]; exact Int.natCast_nonneg p
          have hg1 : (ps.map fun q : Nat => (q : Int)).getD (j : Int).toNat 0 < (z.ns.length : Int) := by rw [hgp]; exact Int.ofNat_lt.mpr (lt_of_at hsz0)
          have hg2 : (ps.map fun q : Nat => (q : Int)).getD (j : Int).toNat 0 < 2 ^ 63 := by rw [hgp]; exact i63 (Nat.lt_of_lt_of_le hpK hK9)
          have htold := Mid.toldOk hr hth htv hrd2 hl2
          dsimp only
          k_sweep
          try k_unmd
          try k_fold
          k_steps
          unfold Stop
          k_dflt (refine' notin_S ?nz1 ?nz2 ?nz3 ?nz4 ?nz5 ?nz6 ?_; (case nz1 => k_asm); (case nz2 => tb_rel); (case nz3 => tb_rel); (case nz4 => tb_rel); (case nz5 => exact htold.imp id fun ⟨T, a, b, c, e, hm⟩ => ⟨T, a, b, c, e, .tail _ hm⟩); (case nz6 => k_extra "units"))
          try k_unmd
          try k_fold
          k_steps
          · exact absurd hgs.symm (by with_reducible assumption)
          · unfold Stop
            rename IntsAre (List.set svs _ _) _ => hsi2
            rename IntsAre (List.set pvs _ _) _ => hpi2
            have hMq : M = qs.length := by rw [← hql, hyl]
            have hF3 : Fair G qs (sns.set (j : Int).toNat (sns.getD (j : Int).toNat 0 + t2.sz)) left2 M j true := by
              rw [Y.hq, Y.hn] at hF2
              rw [Int.toNat_natCast]; exact hF2
            have hqq : ∀ i : Nat, i < qs.length → 1 ≤ qs.getD i 0 ∧ qs.getD i 0 ≤ 12 := fun i hi => hqs _ (by rw [List.getD_eq_getElem?_getD, List.getElem?_eq_getElem hi]; exact List.getElem_mem hi)
            refine wpAny_call ?_
            k_dflt (refine' ct_apart (Here.mk ?hB ?hF ?hX ?hN ?hT ?hk ?hd ?hu) ?nz1 hsi2 ?nz2 hys ?nz3 ?nz4 hqq hG1 hG6 ?nz5 ?_; (case hB => k_asm); (case hF => k_asm); (case hX => k_asm); (case hN => k_asm); (case hT => k_asm); (case hk => first | with_reducible assumption | exact rfl); (case hd => k_extra "room"); (case hu => k_extra "units"); (case nz1 => tb_rel); (case nz2 => tb_rel); (case nz3 => rw [List.length_set, hsl, hMq]); (case nz4 => rw [← hMq]; exact Nat.lt_of_le_of_lt hM4N (by decide)); (case nz5 => exact fun i j hi hj => fair_gap hF3 hG1 (by rw [hMq]; exact hi) (by rw [hMq]; exact hj) (hqq i hi).1 (hqq j hj).1))
            intro h9 tk9 F9 N9
            dsimp only
            k_sweep
            try k_unmd
            try k_fold
            k_steps
            have e : ((ps.set j (p + 1)).map fun q : Nat => (q : Int)) = (ps.map fun q : Nat => (q : Int)).set (j : Int).toNat ((ps.map fun q : Nat => (q : Int)).getD (j : Int).toNat 0 + 1) := by
              rw [hgp, Int.toNat_natCast, List.map_set]; rfl
            rw [← e] at hpi2
            generalize hL5 : setL pa _ _ = led5 at N9
            have up5 : ∀ p ∈ led2, (p.1 ≠ sa ∨ p.2.cls ≠ .type "list") → (p.1 ≠ pa ∨ p.2.cls ≠ .type "list") → p ∈ led5 := fun p h q2 q3 => mem_of_eq hL5 (LaterL.set p (LaterL.set p (.tail _ (.tail _ (.tail _ h))) q2) q3)
            have hsm5 := mem_of_eq hL5 (mem_setL_ne (mem_setL_self (.tail _ (.tail _ (.tail _ hsm))) rfl) hspn)
            have hpm5 := mem_of_eq hL5 (mem_setL_self (mem_setL_ne (.tail _ (.tail _ (.tail _ hpm))) (Ne.symm hspn)) rfl)
            clear hL5
            have hs5 := up5 _ hs (.inl hs_s) (.inl hs_p)
            have hI5 := up5 _ hIm (.inr cls_ril) (.inr cls_ril)
            have g1 : S1.qa ≠ sa := by rw [Mid.hqa, Y.hqa]; exact hqS2.1
            have g2 : S1.ra ≠ sa := by rw [Mid.hra, Y.hra]; exact hqS2.2
            have g3 : S1.qa ≠ pa := by rw [Mid.hqa, Y.hqa]; exact hqP2.1
            have g4 : S1.ra ≠ pa := by rw [Mid.hra, Y.hra]; exact hqP2.2
            have I5 := I2.two up5 hos hop g1 g2 g3 g4
            have Y5 := Y.next N9 hr hth hth' hp0 Mid.hx Mid.hy Mid.hy2 hs5 I5 Mid.hD Mid.hqa Mid.hra rfl rfl hF3 (fun a o h q0 q1 q2 q3 => up5 (a, o) (up2 a o (h02 _ h) q0 q1) (.inl q2) (.inl q3)) (fun a its n h q0 => up5 (a, _) (upT a its n h q0) (.inr cls_tl) (.inr cls_tl)) hsm5 hsi2 hpm5 hpi2 hoz hzs hz_s hz_p
            exact unrEnd_fin (by k_asm) N9 hI5 ⟨⟨rfl, rfl, rfl, rfl, rfl, rfl, rfl, trivial⟩, _, _, _, _, _, _, _, _, _, _, _, Y5.off isIt_range N9 hI5, mem_offI (up5 _ hs2 (.inl hc2s) (.inl hc2p)) (Nat.ne_of_lt (hI _ (.tail _ (.tail _ (.tail _ (.tail _ (.tail _ hs2N))))))), mem_offI (up5 _ hs3 (.inl hc1s) (.inl hc1p)) (Nat.ne_of_lt (hI _ (.tail _ (.tail _ (.tail _ (.tail _ (.tail _ hs3N))))))), mem_offI (up5 _ hqa (.inl hD1s) (.inl hD1p)) (Nat.ne_of_lt (hI _ (.tail _ (.tail _ (.tail _ (.tail _ (.tail _ hqaN)))))))⟩
      · rintro h tk u nw2 ⟨S2, x, y, tx, ty, svs, pvs, sns, ps, n1, n2, Y, hs2, hs3, hqa⟩ F6 N6
        have hDm : (S.D, instObj 177 S2.dD) ∈ nw2 := Y.hD ▸ Y.I.hD
        have hdDm := Y.I.hdD
        have hw := Y.waits
        try k_unmd
        try k_fold
        k_steps
        unfold Stop
        refine wpAny_call ?_
        k_dflt (refine' ct_waitingD (S := S2) (Own := Own) (Here.mk ?hB ?hF ?hX ?hN ?hT ?hk ?hd ?hu) Y.I Y.hD ?h1 ?_; (case hB => k_asm); (case hF => k_asm); (case hX => k_asm); (case hN => k_asm); (case hT => k_asm); (case hk => first | with_reducible assumption | exact rfl); (case hd => k_extra "room"); (case hu => k_extra "units"))
        · intro r hr
          obtain ⟨j, hj⟩ := List.getElem?_of_mem hr
          have hjM := lt_of_at hj
          rw [Y.hn] at hjM
          obtain ⟨z, hz⟩ : ∃ z, zs[j]? = some z := ⟨zs[j]'(by rw [Y.hzl]; exact hjM), by simp⟩
          obtain ⟨p, hp⟩ : ∃ p, ps[j]? = some p := ⟨ps[j]'(by rw [Y.hpl]; exact hjM), by simp⟩
          have := (Y.hr j r z p hj hz hp).1
          omega
        intro tw h7 tk7 F7 N7
        dsimp only
        rw [hw]
        k_sweep
        try k_unmd
        try k_fold
        k_steps
        rw [show ((M : Int) * ((K : Int) + 1) - (K : Int) == (M : Int) * ((K : Int) + 1) - (K : Int)) = true by simp]
        exact hR _ _ (by k_asm) fun _ h => nomatch h
end


theorem off58 : True := by w_top off; trivial
/-- what stands while the two queues of the first part are filled: c j things in the queue j -/
structure PutSt (Own : Addr → Prop) (nw : Led) (D sa : Addr) (n1 : Nat) (c : Nat → Nat) (S : DR) (svs : List Value) (sns : List Int) : Prop where
  I : DRIn Own nw S
  hD : S.D = D
  hq : S.qs = [1, 4]
  hn : S.rows.length = 2
  fair : Fair 1 [1, 4] sns S.left 2 S.at_ S.b
  hr : ∀ j r, S.rows[j]? = some r → r.most = 20 ∧ r.moct = 20 ∧ r.th.length = c j ∧ (∀ t ∈ r.th, t.sz = 1)
  hsm : (sa, listOf svs.toArray n1) ∈ nw
  hsi : IntsAre svs sns
  hsl : sns.length = 2
theorem PutSt.off {Own : Addr → Prop} {nw : Led} {D sa : Addr} {n1 : Nat} {c : Nat → Nat} {S : DR} {svs : List Value} {sns : List Int} {h₀ h : Heap} {L I : Addr} {it : Obj} (hi : IsIt it) (N : News h₀ L h nw) (hI : (I, it) ∈ nw) (Z : PutSt Own nw D sa n1 c S svs sns) : PutSt Own (offI I nw) D sa n1 c S svs sns :=
  { Z with I := Z.I.off hi N hI, hsm := mem_offI_l hi N hI Z.hsm }
theorem fmod2 (i : Nat) : Int.fmod (i : Int) 2 = ((i % 2 : Nat) : Int) := by
  rw [Int.fmod_eq_emod_of_nonneg _ (by omega)]; omega
theorem PutSt.start {Own : Addr → Prop} {led' : Led} {sa : Addr} {n1 : Nat} {S : DR} {t1 t2 : Tok} {h₀ h : Heap} {L : Addr} {T : Addr × Obj} (_N : News h₀ L h (T :: (sa, listOf [.int 0 t1, .int 0 t2].toArray n1) :: led')) (I2 : DRIn Own led' S) (hSq : S.qs = [1, 4]) (hSl : S.left = List.replicate ([1, 4] : List Int).length 0) (hSat : S.at_ = 0) (hSb : S.b = false)
    (hSn : S.rows.length = ([1, 4] : List Int).length) (hSr : ∀ r ∈ S.rows, r.th = [] ∧ r.oct = 0 ∧ r.most = 20 ∧ r.moct = 20) : PutSt Own ((sa, listOf [.int 0 t1, .int 0 t2].toArray n1) :: led') S.D sa n1 (fun j => (0 + 1 - j) / 2) S [.int 0 t1, .int 0 t2] [0, 0] where
  I := I2.sub fun _ h => .tail _ h
  hD := rfl
  hq := hSq
  hn := hSn
  fair := by rw [hSl, hSat, hSb]; exact fair_start (n := 2) (by omega) (by omega)
  hr := fun j r hj => by
    obtain ⟨a1, a2, a3, a4⟩ := hSr r (List.mem_of_getElem? hj)
    refine ⟨a3, a4, ?_, fun t ht => by rw [a1] at ht; cases ht⟩
    rw [a1]
    show 0 = (0 + 1 - j) / 2
    omega
  hsm := .head _
  hsi := .cons _ _ (.cons _ _ .nil)
  hsl := rfl
def OctOk (S : DR) : Prop := ∀ (j : Nat) (r : RowS), S.rows[j]? = some r → r.oct = (r.th.length : Int)
/-- one more thing -/
theorem PutSt.put {Own : Addr → Prop} {nw nw' : Led} {D sa : Addr} {n1 i : Nat} {S : DR} {svs : List Value} {sns : List Int} {r : RowS} {ta : Addr} {t t' : Tok} {v : Value} (Z : PutSt Own nw D sa n1 (fun j => (i + 1 - j) / 2) S svs sns) (hr : S.rows[i % 2]? = some r)
    (I' : DRIn Own nw' { S with rows := S.rows.set (i % 2) { r with oct := r.oct + 1, tc := t', n2 := r.n2 + 1, th := r.th ++ [⟨ta, 1, t, v⟩] } }) (hsm : (sa, listOf svs.toArray n1) ∈ nw') :
    PutSt Own nw' D sa n1 (fun j => (i + 1 + 1 - j) / 2) { S with rows := S.rows.set (i % 2) { r with oct := r.oct + 1, tc := t', n2 := r.n2 + 1, th := r.th ++ [⟨ta, 1, t, v⟩] } } svs sns :=
  { Z with
    I := I'
    hn := by rw [List.length_set]; exact Z.hn
    hsm := hsm
    hr := fun j q hj => by
      have hj2 : j < 2 := by have := lt_of_at hj; rw [List.length_set, Z.hn] at this; exact this
      by_cases e : j = i % 2
      · subst e
        rw [List.getElem?_set_self (lt_of_at hr)] at hj
        obtain rfl := Option.some.inj hj
        obtain ⟨a1, a2, a3, a4⟩ := Z.hr _ r hr
        refine ⟨a1, a2, ?_, fun u hu => ?_⟩
        · rw [List.length_append, a3]
          show (i + 1 - i % 2) / 2 + 1 = (i + 1 + 1 - i % 2) / 2
          omega
        · rcases List.mem_append.mp hu with hu | hu
          · exact a4 u hu
          · obtain rfl := List.mem_singleton.mp hu; rfl
      · rw [List.getElem?_set_ne (Ne.symm e)] at hj
        obtain ⟨a1, a2, a3, a4⟩ := Z.hr j q hj
        refine ⟨a1, a2, ?_, a4⟩
        rw [a3]
        show (i + 1 - j) / 2 = (i + 1 + 1 - j) / 2
        omega }
theorem octOk_put {S : DR} {i : Nat} {r : RowS} {ta : Addr} {t t' : Tok} {v : Value} (Z : OctOk S) (hr : S.rows[i]? = some r) : OctOk { S with rows := S.rows.set i { r with oct := r.oct + 1, tc := t', n2 := r.n2 + 1, th := r.th ++ [⟨ta, 1, t, v⟩] } } := fun j q hj => by
  by_cases e : j = i
  · subst e
    have hj' : (S.rows.set j _)[j]? = some q := hj
    rw [List.getElem?_set_self (lt_of_at hr)] at hj'
    obtain rfl := Option.some.inj hj'
    have := Z j r hr
    show r.oct + 1 = _
    rw [List.length_append, this, List.length_singleton]; omega
  · have hj' : (S.rows.set i _)[j]? = some q := hj
    rw [List.getElem?_set_ne (Ne.symm e)] at hj'
    exact Z j q hj'
/-- what stands while the two queues of the first part are gone round -/
structure TkSt (Own : Addr → Prop) (nw : Led) (D sa : Addr) (n1 i : Nat) (S : DR) (svs : List Value) (sns : List Int) : Prop where
  I : DRIn Own nw S
  hD : S.D = D
  hq : S.qs = [1, 4]
  hn : S.rows.length = 2
  fair : Fair 1 [1, 4] sns S.left 2 S.at_ S.b
  hr : ∀ j r, S.rows[j]? = some r → (r.th.length : Int) + sns.getD j 0 = 16 ∧ (∀ t ∈ r.th, t.sz = 1)
  hsm : (sa, listOf svs.toArray n1) ∈ nw
  hsi : IntsAre svs sns
  hsl : sns.length = 2
  nn : 0 ≤ sns.getD 0 0 ∧ 0 ≤ sns.getD 1 0
  sum : sns.getD 0 0 + sns.getD 1 0 = i
  last : i = 0 ∨ (S.b = true ∧ S.left.getD S.at_ 0 ≤ ([1, 4] : List Int).getD S.at_ 0 + 1 - 2)
theorem TkSt.start {Own : Addr → Prop} {nw : Led} {D sa : Addr} {n1 : Nat} {S : DR} {svs : List Value} (Z : PutSt Own nw D sa n1 (fun j => (32 + 1 - j) / 2) S svs [0, 0]) : TkSt Own nw D sa n1 0 S svs [0, 0] :=
  { I := Z.I, hD := Z.hD, hq := Z.hq, hn := Z.hn, fair := Z.fair
    hr := fun j r hj => by
      have hj2 := lt_of_at hj
      rw [Z.hn] at hj2
      obtain ⟨-, -, a3, a4⟩ := Z.hr j r hj
      have a3' : r.th.length = (32 + 1 - j) / 2 := a3
      refine ⟨?_, a4⟩
      rcases (show j = 0 ∨ j = 1 by omega) with rfl | rfl
      · rw [a3']; rfl
      · rw [a3']; rfl
    hsm := Z.hsm, hsi := Z.hsi, hsl := Z.hsl, nn := ⟨by decide, by decide⟩, sum := rfl, last := .inl rfl }
theorem TkSt.off {Own : Addr → Prop} {nw : Led} {D sa : Addr} {n1 i : Nat} {S : DR} {svs : List Value} {sns : List Int} {h₀ h : Heap} {L I : Addr} {it : Obj} (hi : IsIt it) (N : News h₀ L h nw) (hI : (I, it) ∈ nw) (Z : TkSt Own nw D sa n1 i S svs sns) : TkSt Own (offI I nw) D sa n1 i S svs sns :=
  { Z with I := Z.I.off hi N hI, hsm := mem_offI_l hi N hI Z.hsm }
theorem TkSt.two {Own : Addr → Prop} {nw : Led} {D sa : Addr} {n1 i : Nat} {S : DR} {svs : List Value} {sns : List Int} (Z : TkSt Own nw D sa n1 i S svs sns) (hi : i < 15) : ∀ r ∈ S.rows, 2 ≤ r.th.length ∧ r.th.length < 1000 ∧ ∀ t ∈ r.th, 1 ≤ t.sz ∧ t.sz ≤ 1 := fun r hr => by
  obtain ⟨j, hj⟩ := List.getElem?_of_mem hr
  have hj2 := lt_of_at hj
  rw [Z.hn] at hj2
  obtain ⟨a1, a2⟩ := Z.hr j r hj
  have n1 := Z.nn
  have n2 := Z.sum
  refine ⟨?_, ?_, fun t ht => by rw [a2 t ht]; omega⟩
  · rcases (show j = 0 ∨ j = 1 by omega) with rfl | rfl <;> omega
  · rcases (show j = 0 ∨ j = 1 by omega) with rfl | rfl <;> omega
theorem TkSt.take {Own : Addr → Prop} {nw nw' : Led} {D sa : Addr} {n1 i j : Nat} {S S4 : DR} {svs svs' : List Value} {sns : List Int} {r r' : RowS} {t : Thing} {ts : List Thing} {h₀ h : Heap} {L : Addr} (_N : News h₀ L h nw') (Z : TkSt Own nw D sa n1 i S svs sns) (hr : S.rows[j]? = some r) (hth : r.th = t :: ts) (hth' : r'.th = ts)
    (I : DRIn Own nw' S4) (e1 : S4.D = S.D) (e2 : S4.qs = S.qs) (e3 : S4.rows = S.rows.set j r') (e4 : S4.at_ = j) (e5 : S4.b = true) (hF : Fair 1 [1, 4] (sns.set j (sns.getD j 0 + t.sz)) S4.left 2 S4.at_ S4.b) (hle : S4.left.getD S4.at_ 0 ≤ ([1, 4] : List Int).getD S4.at_ 0 + 1 - 2)
    (hsm : (sa, listOf svs'.toArray n1) ∈ nw') (hsi : IntsAre svs' (sns.set j (sns.getD j 0 + t.sz))) : TkSt Own nw' D sa n1 (i + 1) S4 svs' (sns.set j (sns.getD j 0 + t.sz)) := by
  have hj2 := lt_of_at hr
  rw [Z.hn] at hj2
  have hsl := Z.hsl
  have hsz : t.sz = 1 := (Z.hr j r hr).2 t (by rw [hth]; exact .head _)
  have g1 : (sns.set j (sns.getD j 0 + t.sz)).getD j 0 = sns.getD j 0 + t.sz := getD_set_eq (by omega)
  have n1 := Z.nn
  have n2 := Z.sum
  refine { I := I, hD := e1.trans Z.hD, hq := e2.trans Z.hq, hn := by rw [e3, List.length_set]; exact Z.hn, fair := hF, hr := fun k q hk => ?_, hsm := hsm, hsi := hsi, hsl := by rw [List.length_set]; exact hsl, nn := ?_, sum := ?_, last := .inr ⟨e5, hle⟩ }
  · rw [e3] at hk
    by_cases e : k = j
    · subst e
      rw [List.getElem?_set_self (lt_of_at hr)] at hk
      obtain rfl := Option.some.inj hk
      obtain ⟨a1, a2⟩ := Z.hr k r hr
      rw [hth, List.length_cons] at a1
      rw [g1, hth', hsz]
      exact ⟨by omega, fun u hu => a2 u (by rw [hth]; exact .tail _ hu)⟩
    · rw [List.getElem?_set_ne (Ne.symm e)] at hk
      rw [getD_set_ne e]
      exact Z.hr k q hk
  · rcases (show j = 0 ∨ j = 1 by omega) with rfl | rfl
    · rw [g1, getD_set_ne (by omega)]; omega
    · rw [g1, getD_set_ne (by omega)]; omega
  · rcases (show j = 0 ∨ j = 1 by omega) with rfl | rfl
    · rw [g1, getD_set_ne (by omega), hsz]; omega
    · rw [g1, getD_set_ne (by omega), hsz]; omega
theorem TkSt.done {Own : Addr → Prop} {nw : Led} {D sa : Addr} {n1 : Nat} {S : DR} {svs : List Value} {sns : List Int} (Z : TkSt Own nw D sa n1 15 S svs sns) : sns = [3, 12] := by
  rcases Z.last with h | ⟨hb, hle⟩
  · exact absurd h (by decide)
  · have hF := Z.fair
    rw [hb] at hF
    exact fair_15 hF hle Z.sum


theorem off60 : True := by w_top off; trivial
theorem ln60x1y1 : True := by
  (k_with "call ref" => (k_here; (with_reducible show wpAny _ _ (call (Value.ref 188) _ _) _ _ _); refine Stop.out ?_))
  (k_with "call ref" => (k_here; (with_reducible show wpAny _ _ (call (Value.ref 214) _ _) _ _ _); refine Stop.out ?_))
  (k_with "compareOp NotEq ref ref" => (k_here; (with_reducible show wpAny _ _ (compareOp CmpOp.NotEq (Value.ref _) (Value.ref _)) _ _ _); refine Stop.out ?_))
  trivial
set_option maxHeartbeats 4000000 in
theorem law_all : PySem.Challenge.rw_pq1158_01.Holds := by
  refine lawTop ?_
  k_go0
  all_goals (try k_fold)
  try k_unmd
  try k_fold
  k_steps
  unfold Stop
  rename IntsAre _ _ => hInts
  rename Heap.IsList _ _ _ => hL
  rename ¬ _ < ((List.length _ : Nat) : Int) => hlen63
  k_dflt (refine' ct_newdr (M1 := 20) (M2 := 20) (qs := [1, 4]) (Here.mk ?hB ?hF ?hX ?hN ?hT ?hk ?hd ?hu) ?nz1 (.cons _ _ (.cons _ _ .nil)) ?nz2 ?nz3 ?nz4 ?nz5 ?nz6 ?nz7 ?nz8 ?nz9 ?_; (case hB => k_asm); (case hF => k_asm); (case hX => k_asm); (case hN => k_asm); (case hT => k_asm); (case hk => first | with_reducible assumption | exact rfl); (case nz1 => tb_rel); (case nz2 => tb_rel))
  case hd => k_extra "room"
  case hu => k_extra "units"
  case nz3 => rfl
  case nz4 => decide
  case nz5 => decide
  case nz6 => decide
  case nz7 => intro v hv; rcases List.mem_cons.mp hv with rfl | hv; exact ⟨_, _, _, _, rfl, by tb_rel⟩; obtain rfl := List.mem_singleton.mp hv; exact ⟨_, _, _, _, rfl, by tb_rel⟩
  case nz8 => decide
  case nz9 => decide
  intro S Own led' h' tk' F2 N2 I2 hsub hfr hin hqr hSq hSl hSat hSb hSn hSr
  dsimp only
  k_sweep
  try k_unmd
  try k_fold
  k_steps
  unfold Stop
  rename IsRange _ _ _ _ _ _ _ _ => RG
  with_reducible rename ∀ p : Addr × Obj, p ∈ led' → _ => hsa
  obtain ⟨sa, rfl, hsa'⟩ : ∃ sa : Addr, sa = _ ∧ ∀ p ∈ led', p.1 < sa := ⟨_, rfl, hsa⟩
  clear hsa
  have hos : ¬ Own sa := fun h => by obtain ⟨o, ho⟩ := hin _ h; exact Nat.lt_irrefl _ (hsa' _ ho)
  have hq1 : S.qa ≠ sa := Nat.ne_of_lt (hsa' _ I2.hqa)
  have hq2 : S.ra ≠ sa := Nat.ne_of_lt (hsa' _ I2.hra)
  rename News _ _ _ _ => N3
  rename Fr _ _ _ _ => F3
  have Z0 := PutSt.start N3 I2 hSq hSl hSat hSb hSn hSr
  have O0 : OctOk S := fun j r hj => by obtain ⟨a1, a2, -, -⟩ := hSr r (List.mem_of_getElem? hj); rw [a1, a2]; rfl
  refine iter_rangeUnr (n := 32) rfl RG (by decide) (by decide) F3 (news_tail N3) fun I hI => range_rest [(Str.ofString "script", .ref _), (Str.ofString "few", .ref S.D), (Str.ofString "sent", .ref sa)] (fun i nw => ∃ S' svs, PutSt Own nw S.D sa 0 (fun j => (i + 1 - j) / 2) S' svs [0, 0] ∧ OctOk S' ∧ S'.qa = S.qa ∧ S'.ra = S.ra) ⟨S, _, Z0, O0, rfl, rfl⟩ ⟨rfl, rfl, rfl, trivial⟩ ?_ ?_
  · rintro i t h tk u nw hi ⟨S2, svs, Z, O, eqa, era⟩ F4 N4
    simp only [Int.zero_add] at F4
    have hDm : (S.D, instObj 177 S2.dD) ∈ nw := Z.hD ▸ Z.I.hD
    have hdDm := Z.I.hdD
    have hsm := Z.hsm
    have hi2 : i % 2 < S2.rows.length := by rw [Z.hn]; omega
    obtain ⟨r, hr⟩ : ∃ r, S2.rows[i % 2]? = some r := ⟨S2.rows[i % 2], by simp⟩
    obtain ⟨b1, b2, b3, b4⟩ := Z.hr _ r hr
    have b5 := O _ r hr
    have hoI := (Z.I.sub fun _ h => .tail _ h).notOwnCls N4 (.head _) isIt_range.d isIt_range.l
    try k_unmd
    try k_fold
    k_steps
    unfold Stop
    rw [fmod2]
    have b3' : r.th.length = (i + 1 - i % 2) / 2 := b3
    refine wpAny_call ?_
    k_dflt (refine' ct_putD (S := S2) (Own := Own) (Here.mk ?hB ?hF ?hX ?hN ?hT ?hk ?hd ?hu) (Z.I.sub ?hsub) Z.hD hr ?h1 ?h2 ?h3 ?_; (case hB => k_asm); (case hF => k_asm); (case hX => k_asm); (case hN => k_asm); (case hT => k_asm); (case hk => first | with_reducible assumption | exact rfl); (case hd => k_extra "room"); (case hu => k_extra "units"); (case h1 => rw [b1, b3']; omega); (case h2 => rw [b5, b2, b3']; omega); (case h3 => omega))
    · exact fun p hp => .tail _ hp
    intro ta t' led4 I4 hl4 hta h6 tk6 F6 N6
    dsimp only
    k_sweep
    try k_unmd
    try k_fold
    k_steps
    have m1 := hl4 (I, _) (.head _) hoI
    have m2 := hl4 (sa, _) (.tail _ hsm) hos
    have Z5 := Z.put hr I4 m2
    exact unrEnd_fin (by k_asm) N6 m1 ⟨⟨rfl, rfl, rfl, trivial⟩, _, _, Z5.off isIt_range N6 m1, octOk_put O hr, eqa, era⟩
  · rintro h tk u nw ⟨S2, svs, Z, O, eqa, era⟩ F4 N4
    try k_unmd
    try k_fold
    k_steps
    unfold Stop
    rename IsRange _ _ _ _ _ _ _ _ => RG2
    rename News _ _ _ _ => N5
    rename Fr _ _ _ _ => F5
    refine iter_rangeUnr (n := 15) rfl RG2 (by decide) (by decide) F5 N5 fun I hI => range_rest [(Str.ofString "script", .ref _), (Str.ofString "few", .ref S.D), (Str.ofString "sent", .ref sa)] (fun i nw => ∃ S' svs sns, TkSt Own nw S.D sa 0 i S' svs sns ∧ S'.qa = S.qa ∧ S'.ra = S.ra) ⟨S2, _, _, TkSt.start Z, eqa, era⟩ ⟨rfl, rfl, rfl, trivial⟩ ?_ ?_
    · rintro i t h tk u nw hi ⟨S2, svs, sns, Z, eqa, era⟩ F6 N6
      have hDm : (S.D, instObj 177 S2.dD) ∈ nw := Z.hD ▸ Z.I.hD
      have hdDm := Z.I.hdD
      have hsm := Z.hsm
      have hsi := Z.hsi
      have hsl := Z.hsl
      have htwo := Z.two hi
      have hoI := (Z.I.sub fun _ h => .tail _ h).notOwnCls N6 (.head _) isIt_range.d isIt_range.l
      try k_unmd
      try k_fold
      k_steps
      unfold Stop
      refine wpAny_call ?_
      k_dflt (refine' ct_takeD (G := 1) (sent := sns) (Own := Own) (S := S2) (Here.mk ?hB ?hF ?hX ?hN ?hT ?hk ?hd ?hu) (Z.I.sub ?hsubB) Z.hD ?h1 ?h2 ?h3 ?h4 ?_; (case hB => k_asm); (case hF => k_asm); (case hX => k_asm); (case hN => k_asm); (case hT => k_asm); (case hk => first | with_reducible assumption | exact rfl); (case hd => k_extra "room"); (case hu => k_extra "units"); (case h1 => exact fun r hr => (htwo r hr).1); (case h2 => rw [Z.hq, Z.hn]; exact Z.fair); (case h3 => exact fun r hr t ht => (htwo r hr).2.2 t ht); (case h4 => exact fun r hr => (htwo r hr).2.1))
      · exact fun p hp => .tail _ hp
      intro j r r' t2 ts lvs2 left2 tat2 ti2 nl2 T2 led2 hr hth hth' hF2 hle2 hrd2 I3 hl2 hT2 hf2 h8 tk8 F8 N8
      have hj2 : j < 2 := by have := lt_of_at hr; rw [Z.hn] at this; exact this
      have hj0 : (0 : Int) ≤ (j : Int) := Int.natCast_nonneg j
      have hj1 : (j : Int) < (sns.length : Int) := by rw [hsl]; exact Int.ofNat_lt.mpr hj2
      have hj3 : (j : Int) < 2 ^ 63 := i63 (Nat.lt_trans hj2 (by decide))
      have hsm := hl2 (sa, _) (.tail _ hsm) hos
      have m1 := hl2 (I, _) (.head _) hoI
      rw [Z.hq, Z.hn] at hF2
      rw [Z.hq] at hle2
      dsimp only
      k_sweep
      try k_unmd
      try k_fold
      k_steps
      rename IntsAre (List.set svs _ _) _ => hsi2
      rename News _ _ _ _ => N9
      generalize hL5 : setL sa _ _ = led5 at N9
      have up5 : ∀ p ∈ led2, (p.1 ≠ sa ∨ p.2.cls ≠ .type "list") → p ∈ led5 := fun p h q => mem_of_eq hL5 (LaterL.set p h q)
      have hsm5 := mem_of_eq hL5 (mem_setL_self hsm rfl)
      clear hL5
      have I5 := I3.laterL (d := sa) up5 hos (by show S2.qa ≠ sa; rw [eqa]; exact hq1) (by show S2.ra ≠ sa; rw [era]; exact hq2)
      have hI5 := up5 _ m1 (.inr cls_ril)
      rw [Int.toNat_natCast] at hsi2
      have Z5 := Z.take N9 hr hth hth' I5 rfl rfl rfl rfl rfl hF2 hle2 hsm5 hsi2
      exact unrEnd_fin (by k_asm) N9 hI5 ⟨⟨rfl, rfl, rfl, trivial⟩, _, _, _, Z5.off isIt_range N9 hI5, eqa, era⟩
    · rintro h tk u nw ⟨S2, svs, sns, Z, eqa, era⟩ F6 N6
      obtain rfl := Z.done
      have hsm := Z.hsm
      have hsi := Z.hsi
      try k_unmd
      try k_fold
      k_steps
      unfold Stop
      k_dflt (refine' ke_ne_ints (ns := [3, 12]) (ms := [3, 12]) ?nz1 ?nz2 hsi ?nz4 ?nz5 ?_; (case nz1 => exact News.isList (by k_asm) (by tb_rel)); (case nz2 => exact News.isList (by k_asm) (by tb_rel)); (case nz4 => exact .cons _ _ (.cons _ _ .nil)); (case nz5 => k_extra "units"))
      rw [show (!decide (([3, 12] : List Int) = [3, 12])) = false by decide]
      try k_unmd
      try k_fold
      k_steps
      unfold Stop
      refine wpAny_call ?_
      k_dflt (refine' ct_pool (Here.mk ?hB ?hF ?hX ?hN ?hT ?hk ?hd ?hu) hL hInts ?nz6 ?_; (case hB => k_asm); (case hF => k_asm); (case hX => k_asm); (case hN => k_asm); (case hT => k_asm); (case hk => first | with_reducible assumption | exact rfl); (case hd => k_extra "room"); (case hu => k_extra "units"); (case nz6 => omega))
      intro D x y tx ty n hx hy hy2 h9 tk9 F9 N9
      dsimp only
      k_sweep
      try k_unmd
      try k_fold
      k_steps
      unfold Stop
      refine wpAny_call ?_
      k_dflt (refine' ct_right (Here.mk ?hB ?hF ?hX ?hN ?hT ?hk ?hd ?hu) ?nz7 hx hy hy2 ?_; (case hB => k_asm); (case hF => k_asm); (case hX => k_asm); (case hN => k_asm); (case hT => k_asm); (case hk => first | with_reducible assumption | exact rfl); (case hd => k_extra "room"); (case hu => k_extra "units"); (case nz7 => tb_rel))
      intro h10 tk10 F10 N10
      dsimp only
      k_sweep
      try k_unmd
      try k_fold
      k_steps


end Mine
theorem PySem.Challenge.cw_pq1158_01_holds : PySem.Challenge.rw_pq1158_01.Holds := by
  exact Mine.law_all
