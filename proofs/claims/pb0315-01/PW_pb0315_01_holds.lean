import PyProof.Rows.All
import Wide.All
import OpenK.AllK
import Wide.FinOn
import PySem.Challenge.RW_pb0315_01
open PySem PySem.W PyProof.Rows
set_option Elab.async false
set_option linter.unusedVariables false
set_option linter.unusedSimpArgs false
set_option compiler.extract_closed false
namespace Mine
set_option maxRecDepth 100000 in
set_option maxHeartbeats 8000000 in
open_top hd for PySem.Challenge.rw_pb0315_01
section
theorem get_head {name : Str} {e : DictEntry} {r : List DictEntry} (h : e.key.isStr name = true) : getL name (e :: r) = some (some e.val) := by
  unfold getL; rw [List.find?_cons, h]
theorem get_tail {name : Str} {e : DictEntry} {r : List DictEntry} {v : Value} (h : e.key.isStr name = false) (ih : getL name r = some (some v)) : getL name (e :: r) = some (some v) := by
  unfold getL at ih ⊢
  rw [List.find?_cons, h]
  cases hf : List.find? (fun x => x.key.isStr name) r with
  | some y => rw [hf] at ih; exact ih
  | none => rw [hf] at ih; dsimp only at ih; split at ih <;> cases ih
theorem put_head {name : Str} {hsh : Int} {key v : Value} {e : DictEntry} {r : List DictEntry} {n : Nat} (h : e.key.isStr name = true) : (putL name hsh key v (e :: r), putN name (e :: r) n) = (⟨e.hash, e.key, v⟩ :: r, n) := by
  simp only [putL, putN, h, List.any_cons, Bool.true_or, if_true]
theorem put_tail {name : Str} {hsh : Int} {key v : Value} {e : DictEntry} {r es' : List DictEntry} {n n' : Nat} (h : e.key.isStr name = false) (ih : (putL name hsh key v r, putN name r n) = (es', n')) :
    (putL name hsh key v (e :: r), putN name (e :: r) n) = (e :: es', n') := by
  have h1 := congrArg Prod.fst ih
  have h2 := congrArg Prod.snd ih
  simp only [putL, putN, h, List.any_cons, Bool.false_or, Bool.false_eq_true, if_false] at h1 h2 ⊢
  rw [h1, h2]
theorem isSome_of {name : Str} {es : List DictEntry} {v : Option Value} (h : getL name es = some v) : (getL name es).isSome = true := by rw [h]; rfl
theorem mem_tl {p q : Addr × Obj} {l l' : List (Addr × Obj)} (h : p ∈ l → p ∈ l') : p ∈ l → p ∈ q :: l' := fun hp => .tail _ (h hp)
/-- the dict of a Type, as it is made and then turned -/
noncomputable abbrev tyEs (w : World) (num : Int) (form : Str) (size : Int) (bs : Value) (len : Int) (fl pl hl : Addr) (md lab : Str) (k1 k2 k3 k4 k5 k6 k7 k8 k9 k10 k11 k12 v1 v2 v3 v5 v7 v9 v10 v12 : Tok) : List DictEntry :=
  [⟨PyData.keyHash w.params (Str.ofString "number"), .str (Str.ofString "number") k1, .int num v1⟩, ⟨PyData.keyHash w.params (Str.ofString "form"), .str (Str.ofString "form") k2, .str form v2⟩,
   ⟨PyData.keyHash w.params (Str.ofString "size"), .str (Str.ofString "size") k3, .int size v3⟩, ⟨PyData.keyHash w.params (Str.ofString "base"), .str (Str.ofString "base") k4, bs⟩,
   ⟨PyData.keyHash w.params (Str.ofString "length"), .str (Str.ofString "length") k5, .int len v5⟩, ⟨PyData.keyHash w.params (Str.ofString "fields"), .str (Str.ofString "fields") k6, .ref fl⟩,
   ⟨PyData.keyHash w.params (Str.ofString "level"), .str (Str.ofString "level") k7, .int 0 v7⟩, ⟨PyData.keyHash w.params (Str.ofString "params"), .str (Str.ofString "params") k8, .ref pl⟩,
   ⟨PyData.keyHash w.params (Str.ofString "module"), .str (Str.ofString "module") k9, .str md v9⟩, ⟨PyData.keyHash w.params (Str.ofString "label"), .str (Str.ofString "label") k10, .str lab v10⟩,
   ⟨PyData.keyHash w.params (Str.ofString "hidden"), .str (Str.ofString "hidden") k11, .ref hl⟩, ⟨PyData.keyHash w.params (Str.ofString "exno"), .str (Str.ofString "exno") k12, .int 0 v12⟩]
/-- a dict keyed by tuples of texts: its object -/
def KObj (w : World) (o : Obj) (xs : List (List Str × Addr × Value)) : Prop :=
  o.ExactDict ∧ (∃ es ep, o.data = .dict es ep ∧ es.toList = xs.map (entryOfKey (tupleKind (PySem.strKind PySem.Challenge.rw_pb0315_01.row.prog w)))) ∧ (xs.map (·.1)).Nodup
def KKeys (w : World) (led : List (Addr × Obj)) (xs : List (List Str × Addr × Value)) : Prop :=
  ∀ x ∈ xs, ∃ ok, (x.2.1, ok) ∈ led ∧ TupKeyObj (PySem.strKind PySem.Challenge.rw_pb0315_01.row.prog w) x.1 ok
theorem KObj.at {w : World} {h₀ h : Heap} {L d : Addr} {led : List (Addr × Obj)} {o : Obj} {xs : List (List Str × Addr × Value)} (D : KObj w o xs) (N : News h₀ L h led) (hm : (d, o) ∈ led) (hk : KKeys w led xs) :
    h.DictOfH (tupleKind (PySem.strKind PySem.Challenge.rw_pb0315_01.row.prog w)) d xs := by
  obtain ⟨h1, ⟨es, ep, h2, h3⟩, h4⟩ := D
  refine ⟨o, es, ep, N.get hm, h1, h2, h3, fun x hx => ?_, h4⟩
  obtain ⟨ok, hmk, t⟩ := hk x hx
  exact t.key (N.get hmk)
theorem KObj.of {w : World} {h : Heap} {d : Addr} {o : Obj} {xs : List (List Str × Addr × Value)} (hd : h.DictOfH (tupleKind (PySem.strKind PySem.Challenge.rw_pb0315_01.row.prog w)) d xs) (ho : h.get? d = some o) : KObj w o xs := by
  obtain ⟨o', es, ep, h0, h1, h2, h3, _, h4⟩ := hd
  rw [ho] at h0; cases h0
  exact ⟨h1, ⟨es, ep, h2, h3⟩, h4⟩
theorem KKeys.mono {w : World} {led led' : List (Addr × Obj)} {xs : List (List Str × Addr × Value)} (h : KKeys w led xs) (hs : ∀ p ∈ led, p ∈ led') : KKeys w led' xs :=
  fun x hx => let ⟨ok, a, b⟩ := h x hx; ⟨ok, hs _ a, b⟩
theorem known_set {w : World} {A : Around} {E : Value → Shared → Prop} {s : Shared} {h₀ : Heap} {L : Addr} {m : Str → Option Value} {led : List (Addr × Obj)} {g : Obj → List (Addr × Obj)} {kn kt : Addr} {ko ok : Obj} {xs : List (List Str × Addr × Value)} {ks : List Str} {v : Value} {Q : Unit → Shared → Prop}
    (F : Fr h₀ L s.heap m) (N : News h₀ L s.heap led) (U : UpdF kn ko led g) (D : KObj w ko xs) (hk : KKeys w led xs) (hka : (kt, ok) ∈ led) (tk : TupKeyObj (PySem.strKind PySem.Challenge.rw_pb0315_01.row.prog w) ks ok) (hu : A.units + 1 < cLine) (hsz : xs.length ≤ 1000)
    (h : ∀ h' ko' tk', Fr h₀ L h' m → News h₀ L h' (g ko') → KObj w ko' (storedH xs ks kt v) → Q () { s with heap := h', toks := tk' }) :
    wpAny (model PySem.Challenge.rw_pb0315_01.row.prog w) A (setItem (.ref kn) (.ref kt) v) Q E s := by
  obtain ⟨pre, post, rfl, hg, a, b⟩ := U.split
  have hm : (kn, ko) ∈ pre ++ (kn, ko) :: post := List.mem_append_right _ (.head _)
  refine wpAny_setItem_heap (knd := tupleKind (PySem.strKind PySem.Challenge.rw_pb0315_01.row.prog w)) (tupleKind_room_in1 hu) (tk.key (N.get hka)) (D.at N hm hk) (fun h' hd hs => ?_) (by rw [sizeLine_eq]; omega)
  obtain ⟨o', ho'⟩ : ∃ o', h'.get? kn = some o' := by obtain ⟨o', _, _, e, _⟩ := hd; exact ⟨o', e⟩
  exact h h' o' _ (F.change hs (N _ hm).2.1 (N _ hm).2.2) (hg o' ▸ news_set N a b hs ho') (KObj.of hd ho')
theorem updF_at {d : Addr} {o : Obj} {pre post : List (Addr × Obj)} (h1 : ∀ p ∈ pre, p.1 ≠ d) (h2 : ∀ p ∈ post, p.1 ≠ d) : UpdF d o (pre ++ (d, o) :: post) (fun o' => pre ++ (d, o') :: post) := by
  induction pre with
  | nil => exact .head h2
  | cons p r ih => exact .tail (h1 p (.head _)) (ih fun q hq => h1 q (.tail _ hq))
theorem get_none {name : Str} {e : DictEntry} {r : List DictEntry} (h : e.key.isStr name = false) (h2 : e.refKey = false) (ih : getL name r = some none) : getL name (e :: r) = some none := by
  unfold getL at ih ⊢
  rw [List.find?_cons, h]
  cases hf : List.find? (fun x => x.key.isStr name) r with
  | some y => rw [hf] at ih; exact ih
  | none =>
    rw [hf] at ih
    dsimp only at ih ⊢
    rw [List.any_cons, h2, Bool.false_or]
    exact ih
theorem units_under_make (A : Around) (C : Addr) (vals : List Value) : (A.under (.builtin "type.__call__" ⟨.ref C :: vals, []⟩)).units = A.units + 1 := rfl
end
local macro_rules | `(tactic| k_get) => `(tactic| first | exact (get_head (by with_unfolding_all rfl)) | exact isSome_of (get_head (by with_unfolding_all rfl)) | exact (get_tail (by with_unfolding_all rfl) (get_head (by with_unfolding_all rfl))) | exact isSome_of (get_tail (by with_unfolding_all rfl) (get_head (by with_unfolding_all rfl))) | exact (get_tail (by with_unfolding_all rfl) (get_tail (by with_unfolding_all rfl) (get_tail (by with_unfolding_all rfl) (get_head (by with_unfolding_all rfl))))) | exact (get_none (by with_unfolding_all rfl) (by with_unfolding_all rfl) (get_none (by with_unfolding_all rfl) (by with_unfolding_all rfl) (get_none (by with_unfolding_all rfl) (by with_unfolding_all rfl) (get_none (by with_unfolding_all rfl) (by with_unfolding_all rfl) (by assumption))))))
local macro_rules | `(tactic| k_put) => `(tactic| first | exact put_head (by with_unfolding_all rfl) | exact put_tail (by with_unfolding_all rfl) (put_head (by with_unfolding_all rfl)))
local macro_rules | `(tactic| walk_at "setAttr ref") => `(tactic| (k_here; k_dflt (refine' set_dict (by k_asm) (by k_asm) (by k_asm) (by k_inst) (by exact rfl) (by k_is) (by k_is) (by k_is) (by k_is) (by k_get) (by k_put) (by k_upd) (by first | exact Nat.le_of_ble_eq_true rfl | (simp only [List.length_cons]; omega)) ?_; k_whole; intro h' F' N'; (try k_sweep))))
local macro_rules | `(tactic| k_all) => `(tactic| with_reducible assumption)
local macro_rules | `(tactic| k_room) => `(tactic| ktr_room)
local macro_rules | `(tactic| walk_at "setItem ref ref") => `(tactic| (k_here; k_dflt (refine' known_set (by k_asm) (by k_asm) (by k_updF) (by k_asm) (by refine KKeys.mono (by assumption) (fun p => ?_); (repeat (first | exact id | apply mem_tl))) (by k_mem) (by exact TupKeyObj.made (by tuptab_items_str)) (by ktr_units) (by assumption) ?_); intros; (try k_sweep)))
local macro_rules | `(tactic| ktr_units) => `(tactic| (have hcL9 := cLine_is; (try simp only [units_under_make, units_in1, units_deeper, Around.mark_units, units_caller] at *); (try dsimp only [ktrTop] at *); omega))
local macro_rules | `(tactic| k_ne) => `(tactic| (refine neN ?_; (try dsimp only); first | with_reducible assumption | exact Ne.symm (by with_reducible assumption) | omega))
section
set_option maxRecDepth 100000 in
set_option maxHeartbeats 8000000 in
theorem type0 {w : World} {mean : ExcName → Option Value} {mg mb : Str → Option Value} {dp un : Nat} {gd : Option (List Code)} {cn : Str} {cs : Scope} {a : Addr} {ccd : Value} {cl : List (Str × Addr)} {outer : List Env} {A₀ : Around} {base h₀ : Heap} {L : Addr} {m : Str → Option Value} {news : List (Addr × Obj)} {s : Shared}
    {Q E : Value → Shared → Prop} {num : Int} {tn : Tok} {form : Str} {tf : Tok} {size : Int} {tz : Tok}
    (B : Below A₀ base outer h₀) (F : Fr h₀ L s.heap m) (X : (Mine.hd.heap_39 w.params).In h₀) (N : News h₀ L s.heap news)
    (T : Top Mine.hd.view_39 (looseW Mine.hd.view_39 []) mean mg mb h₀) (hkd : cs.kind = .function)
    (hd : dp + 6 < recursionLimit) (hu : un + 60 < cLine)
    (hret : ∀ (t dt fl pl hl : Addr) (h' : Heap) (tk' : Nat) (k1 k2 k3 k4 k5 k6 k7 k8 k9 k10 k11 k12 v1 v2 v3 v5 v7 v9 v10 v12 : Tok), Fr h₀ L h' m → News h₀ L h' ((hl, listOf #[] 0) :: (pl, listOf #[] 0) :: (fl, listOf #[] 0) :: (t, instObj 31 dt) :: (dt, dictOf (tyEs w num form size .none 0 fl pl hl (Str.ofString "") (Str.ofString "") k1 k2 k3 k4 k5 k6 k7 k8 k9 k10 k11 k12 v1 v2 v3 v5 v7 v9 v10 v12) 12) :: news) →
        AllLt dt news → @LT.lt Nat _ dt t → @LT.lt Nat _ t fl → @LT.lt Nat _ fl pl → @LT.lt Nat _ pl hl → Q (.ref t) { s with heap := h', toks := tk' }) :
    wpAny (model PySem.Challenge.rw_pb0315_01.row.prog w) (ktrTop dp un gd cn cs L a ccd cl outer) (call (.ref 31) [.int num tn, .str form tf, .int size tz]) Q E s := by
  revert X; k_fill; intro X
  k_dflt (refine' call_cls F X N ?a1 ?a2 ?a3 ?_; (case a1 => k_is); (case a2 => k_is); (case a3 => k_is); k_whole; intro x' d' h' F' N' l1 l2; replace l1 := allLt_of l1; k_lt2 l2)
  k_dflt (refine' code_def ?k1 ?k2 ?k3 ?k4 ?k5 ?kA ?kF ?kK ?k6 ?k7 ?k8 ?k9 ?kB ?_ ?c2 ?c3 ?c4 ?c5; (case kA => exact rfl); (case kF => exact rfl); (case kK => first | exact rfl | assumption); (case k1 => k_asm); (case k2 => k_asm); (case k3 => k_asm); (case k4 => k_asm); (case k5 => k_asm); (case k6 => k_is); (case k7 => k_is); (case k8 => ktr_room); (case k9 => first | exact BindsTo.of_eq rfl | exact binds_K (by k_in) rfl (by k_is) rfl rfl rfl); (case c5 => decide); (case kB => exact locs rfl); (case c2 => exact rfl); (case c3 => exact rfl); (case c4 => exact rfl); k_whole; intro g' L' h' FG' F' N' B' X' T'; (try dsimp only); (try k_fold))
  (w_top off; k_steps)
  all_goals exact hret _ _ _ _ _ _ _ _ _ _ _ _ _ _ _ _ _ _ _ _ _ _ _ _ _ _ _ (by k_asm) (by k_asm) (by assumption) (by omega) (by omega) (by omega) (by omega)
section
local macro_rules | `(tactic| walk_at "call ref") => `(tactic| (k_here; k_dflt (refine' type0 (by k_asm) (by k_asm) (by k_asm) (by k_asm) (by k_asm) (by first | exact rfl | assumption) (by ktr_room) (by ktr_units) ?_; k_whole); intros; rename_i l1' _ _ _ _; (try simp only [AllLt] at l1'); (try k_sweep)))
set_option maxRecDepth 100000 in
set_option maxHeartbeats 8000000 in
theorem new0 {w : World} {mean : ExcName → Option Value} {mg mb : Str → Option Value} {dp un : Nat} {gd : Option (List Code)} {cn : Str} {cs : Scope} {a : Addr} {ccd : Value} {cl : List (Str × Addr)} {outer : List Env} {A₀ : Around} {base h₀ : Heap} {L : Addr} {m : Str → Option Value} {news : List (Addr × Obj)} {s : Shared}
    {Q E : Value → Shared → Prop} {ty td kn : Addr} {hc hk : Int} {t1 tc t2 : Tok} {c : Int} {rest : List DictEntry} {n : Nat} {form : Str} {tf : Tok} {size : Int} {tz : Tok} {md : Str} {tm tl : Tok}
    (B : Below A₀ base outer h₀) (F : Fr h₀ L s.heap m) (X : (Mine.hd.heap_39 w.params).In h₀)
    (N : News h₀ L s.heap ((ty, instObj 116 td) :: (td, dictOf (⟨hc, .str (Str.ofString "counter") t1, .int c tc⟩ :: ⟨hk, .str (Str.ofString "known") t2, .ref kn⟩ :: rest) n) :: news))
    (T : Top Mine.hd.view_39 (looseW Mine.hd.view_39 []) mean mg mb h₀) (hkd : cs.kind = .function)
    (hrl : rest.length ≤ 20) (hap : @Ne Nat ty td) (hap2 : ∀ p ∈ news, p.1 ≠ td)
    (hd : dp + 10 < recursionLimit) (hu : un + 100 < cLine)
    (hret : ∀ (t dt fl pl hl : Addr) (h' : Heap) (tk' : Nat) (k0 k1 k2 k3 k4 k5 k6 k7 k8 k9 k10 k11 k12 v1 v2 v3 v5 v7 v9 v10 v12 : Tok), Fr h₀ L h' m → News h₀ L h' ((hl, listOf #[] 0) :: (pl, listOf #[] 0) :: (fl, listOf #[] 0) :: (t, instObj 31 dt) :: (dt, dictOf (tyEs w (c + 1) form size .none 0 fl pl hl md (Str.ofString "") k1 k2 k3 k4 k5 k6 k7 k8 k9 k10 k11 k12 v1 v2 v3 v5 v7 v9 v10 v12) 12) ::
        (ty, instObj 116 td) :: (td, dictOf (⟨hc, .str (Str.ofString "counter") t1, .int (c + 1) k0⟩ :: ⟨hk, .str (Str.ofString "known") t2, .ref kn⟩ :: rest) n) :: news) →
        (@LT.lt Nat _ ty dt ∧ @LT.lt Nat _ td dt ∧ AllLt dt news) → @LT.lt Nat _ dt t → @LT.lt Nat _ t fl → @LT.lt Nat _ fl pl → @LT.lt Nat _ pl hl → Q (.ref t) { s with heap := h', toks := tk' }) :
    wpAny (model PySem.Challenge.rw_pb0315_01.row.prog w) (ktrTop dp un gd cn cs L a ccd cl outer) (call (.ref 106) [.ref ty, .str form tf, .int size tz, .str md tm, .str (Str.ofString "") tl]) Q E s := by
  revert X; k_fill; intro X
  refine wpAny_call ?_
  k_dflt (refine' code_def ?k1 ?k2 ?k3 ?k4 ?k5 ?kA ?kF ?kK ?k6 ?k7 ?k8 ?k9 ?kB ?_ ?c2 ?c3 ?c4 ?c5; (case kA => exact rfl); (case kF => exact rfl); (case kK => first | exact rfl | assumption); (case k1 => k_asm); (case k2 => k_asm); (case k3 => k_asm); (case k4 => k_asm); (case k5 => k_asm); (case k6 => k_is); (case k7 => k_is); (case k8 => ktr_room); (case k9 => first | exact BindsTo.of_eq rfl | exact binds_K (by k_in) rfl (by k_is) rfl rfl rfl); (case c5 => decide); (case kB => exact locs rfl); (case c2 => exact rfl); (case c3 => exact rfl); (case c4 => exact rfl); k_whole; intro g' L' h' FG' F' N' B' X' T'; (try dsimp only); (try k_fold))
  (w_top off; k_steps)
  all_goals exact hret _ _ _ _ _ _ _ _ _ _ _ _ _ _ _ _ _ _ _ _ _ _ _ _ _ _ _ _ (by k_asm) (by k_asm) (by assumption) (by omega) (by omega) (by omega) (by omega)
set_option maxRecDepth 100000 in
set_option maxHeartbeats 8000000 in
theorem new03 {w : World} {mean : ExcName → Option Value} {mg mb : Str → Option Value} {dp un : Nat} {gd : Option (List Code)} {cn : Str} {cs : Scope} {a : Addr} {ccd : Value} {cl : List (Str × Addr)} {outer : List Env} {A₀ : Around} {base h₀ : Heap} {L : Addr} {m : Str → Option Value} {news : List (Addr × Obj)} {s : Shared}
    {Q E : Value → Shared → Prop} {ty td kn : Addr} {hc hk : Int} {t1 tc t2 : Tok} {c : Int} {rest : List DictEntry} {n : Nat} {form : Str} {tf : Tok} {size : Int} {tz : Tok}
    (B : Below A₀ base outer h₀) (F : Fr h₀ L s.heap m) (X : (Mine.hd.heap_39 w.params).In h₀)
    (N : News h₀ L s.heap ((ty, instObj 116 td) :: (td, dictOf (⟨hc, .str (Str.ofString "counter") t1, .int c tc⟩ :: ⟨hk, .str (Str.ofString "known") t2, .ref kn⟩ :: rest) n) :: news))
    (T : Top Mine.hd.view_39 (looseW Mine.hd.view_39 []) mean mg mb h₀) (hkd : cs.kind = .function)
    (hrl : rest.length ≤ 20) (hap : @Ne Nat ty td) (hap2 : ∀ p ∈ news, p.1 ≠ td)
    (hd : dp + 10 < recursionLimit) (hu : un + 100 < cLine)
    (hret : ∀ (t dt fl pl hl : Addr) (h' : Heap) (tk' : Nat) (k0 k1 k2 k3 k4 k5 k6 k7 k8 k9 k10 k11 k12 v1 v2 v3 v5 v7 v9 v10 v12 : Tok), Fr h₀ L h' m → News h₀ L h' ((hl, listOf #[] 0) :: (pl, listOf #[] 0) :: (fl, listOf #[] 0) :: (t, instObj 31 dt) :: (dt, dictOf (tyEs w (c + 1) form size .none 0 fl pl hl (Str.ofString "") (Str.ofString "") k1 k2 k3 k4 k5 k6 k7 k8 k9 k10 k11 k12 v1 v2 v3 v5 v7 v9 v10 v12) 12) ::
        (ty, instObj 116 td) :: (td, dictOf (⟨hc, .str (Str.ofString "counter") t1, .int (c + 1) k0⟩ :: ⟨hk, .str (Str.ofString "known") t2, .ref kn⟩ :: rest) n) :: news) →
        (@LT.lt Nat _ ty dt ∧ @LT.lt Nat _ td dt ∧ AllLt dt news) → @LT.lt Nat _ dt t → @LT.lt Nat _ t fl → @LT.lt Nat _ fl pl → @LT.lt Nat _ pl hl → Q (.ref t) { s with heap := h', toks := tk' }) :
    wpAny (model PySem.Challenge.rw_pb0315_01.row.prog w) (ktrTop dp un gd cn cs L a ccd cl outer) (call (.ref 106) [.ref ty, .str form tf, .int size tz]) Q E s := by
  revert X; k_fill; intro X
  refine wpAny_call ?_
  k_dflt (refine' code_def ?k1 ?k2 ?k3 ?k4 ?k5 ?kA ?kF ?kK ?k6 ?k7 ?k8 ?k9 ?kB ?_ ?c2 ?c3 ?c4 ?c5; (case kA => exact rfl); (case kF => exact rfl); (case kK => first | exact rfl | assumption); (case k1 => k_asm); (case k2 => k_asm); (case k3 => k_asm); (case k4 => k_asm); (case k5 => k_asm); (case k6 => k_is); (case k7 => k_is); (case k8 => ktr_room); (case k9 => first | exact BindsTo.of_eq rfl | exact binds_K (by k_in) rfl (by k_is) rfl rfl rfl); (case c5 => decide); (case kB => exact locs rfl); (case c2 => exact rfl); (case c3 => exact rfl); (case c4 => exact rfl); k_whole; intro g' L' h' FG' F' N' B' X' T'; (try dsimp only); (try k_fold))
  (w_top off; k_steps)
  all_goals exact hret _ _ _ _ _ _ _ _ _ _ _ _ _ _ _ _ _ _ _ _ _ _ _ _ _ _ _ _ (by k_asm) (by k_asm) (by assumption) (by omega) (by omega) (by omega) (by omega)
set_option maxRecDepth 100000 in
set_option maxHeartbeats 8000000 in
theorem new1 {w : World} {mean : ExcName → Option Value} {mg mb : Str → Option Value} {dp un : Nat} {gd : Option (List Code)} {cn : Str} {cs : Scope} {a : Addr} {ccd : Value} {cl : List (Str × Addr)} {outer : List Env} {A₀ : Around} {base h₀ : Heap} {L : Addr} {m : Str → Option Value} {news : List (Addr × Obj)} {s : Shared}
    {Q E : Value → Shared → Prop} {ty td kn : Addr} {hc hk : Int} {t1 tc t2 : Tok} {c : Int} {rest : List DictEntry} {n : Nat} {form : Str} {tf : Tok} {size : Int} {tz : Tok} {md lab : Str} {tm tl : Tok} {ko : Obj} {xs : List (List Str × Addr × Value)}
    (B : Below A₀ base outer h₀) (F : Fr h₀ L s.heap m) (X : (Mine.hd.heap_39 w.params).In h₀)
    (N : News h₀ L s.heap ((ty, instObj 116 td) :: (td, dictOf (⟨hc, .str (Str.ofString "counter") t1, .int c tc⟩ :: ⟨hk, .str (Str.ofString "known") t2, .ref kn⟩ :: rest) n) :: (kn, ko) :: news))
    (T : Top Mine.hd.view_39 (looseW Mine.hd.view_39 []) mean mg mb h₀) (hkd : cs.kind = .function)
    (hrl : rest.length ≤ 20) (hap : @Ne Nat ty td) (hap2 : ∀ p ∈ news, p.1 ≠ td)
    (hd : dp + 10 < recursionLimit) (hu : un + 100 < cLine)
    (hap3 : @Ne Nat ty kn) (hap4 : @Ne Nat td kn) (hap5 : ∀ p ∈ news, p.1 ≠ kn) (D : KObj w ko xs) (hkk : KKeys w news xs) (hxs : xs.length ≤ 1000) (hlab : lab ≠ Str.ofString "")
    (hret : ∀(ko' : Obj) (kt t dt fl pl hl : Addr) (h' : Heap) (tk' : Nat) (k0 k1 k2 k3 k4 k5 k6 k7 k8 k9 k10 k11 k12 v1 v2 v3 v5 v7 v9 v10 v12 : Tok), Fr h₀ L h' m → News h₀ L h' ((kt, { cls := .type "tuple", data := .seq #[.str md tm, .str lab tl] 0 }) :: (hl, listOf #[] 0) :: (pl, listOf #[] 0) :: (fl, listOf #[] 0) :: (t, instObj 31 dt) :: (dt, dictOf (tyEs w (c + 1) form size .none 0 fl pl hl md lab k1 k2 k3 k4 k5 k6 k7 k8 k9 k10 k11 k12 v1 v2 v3 v5 v7 v9 v10 v12) 12) ::
        (ty, instObj 116 td) :: (td, dictOf (⟨hc, .str (Str.ofString "counter") t1, .int (c + 1) k0⟩ :: ⟨hk, .str (Str.ofString "known") t2, .ref kn⟩ :: rest) n) :: (kn, ko') :: news) →
        KObj w ko' (storedH xs [md, lab] kt (.ref t)) → (@LT.lt Nat _ ty dt ∧ @LT.lt Nat _ td dt ∧ @LT.lt Nat _ kn dt ∧ AllLt dt news) → @LT.lt Nat _ dt t → @LT.lt Nat _ t fl → @LT.lt Nat _ fl pl → @LT.lt Nat _ pl hl → @LT.lt Nat _ hl kt → Q (.ref t) { s with heap := h', toks := tk' }) :
    wpAny (model PySem.Challenge.rw_pb0315_01.row.prog w) (ktrTop dp un gd cn cs L a ccd cl outer) (call (.ref 106) [.ref ty, .str form tf, .int size tz, .str md tm, .str lab tl]) Q E s := by
  revert X; k_fill; intro X
  refine wpAny_call ?_
  k_dflt (refine' code_def ?k1 ?k2 ?k3 ?k4 ?k5 ?kA ?kF ?kK ?k6 ?k7 ?k8 ?k9 ?kB ?_ ?c2 ?c3 ?c4 ?c5; (case kA => exact rfl); (case kF => exact rfl); (case kK => first | exact rfl | assumption); (case k1 => k_asm); (case k2 => k_asm); (case k3 => k_asm); (case k4 => k_asm); (case k5 => k_asm); (case k6 => k_is); (case k7 => k_is); (case k8 => ktr_room); (case k9 => first | exact BindsTo.of_eq rfl | exact binds_K (by k_in) rfl (by k_is) rfl rfl rfl); (case c5 => decide); (case kB => exact locs rfl); (case c2 => exact rfl); (case c3 => exact rfl); (case c4 => exact rfl); k_whole; intro g' L' h' FG' F' N' B' X' T'; (try dsimp only); (try k_fold))
  (w_top off; k_steps)
  all_goals first | (exfalso; simp_all; done) | exact hret _ _ _ _ _ _ _ _ _ _ _ _ _ _ _ _ _ _ _ _ _ _ _ _ _ _ _ _ _ _ (by k_asm) (by k_asm) (by assumption) (by assumption) (by omega) (by omega) (by omega) (by omega) (by omega)
end
end
section
local macro_rules | `(tactic| walk_at "zz2a") => `(tactic| skip)
local macro_rules | `(tactic| walk_at "call ref") => `(tactic| (k_here; k_dflt (refine' new03 (by k_asm) (by k_asm) (by k_asm) (by k_asm) (by k_asm) (by first | exact rfl | assumption) (by (simp only [List.length_cons, List.length_nil]; omega)) (by k_ne) (by k_all) (by ktr_room) (by ktr_units) ?_; k_whole); intros; (try k_sweep)))
set_option maxRecDepth 100000 in
set_option maxHeartbeats 8000000 in
theorem string1 {w : World} {mean : ExcName → Option Value} {mg mb : Str → Option Value} {dp un : Nat} {gd : Option (List Code)} {cn : Str} {cs : Scope} {a : Addr} {ccd : Value} {cl : List (Str × Addr)} {outer : List Env} {A₀ : Around} {base h₀ : Heap} {L : Addr} {m : Str → Option Value} {news : List (Addr × Obj)} {s : Shared}
    {Q E : Value → Shared → Prop} {ty td kn : Addr} {hc hk hb hr : Int} {t1 tc t2 t3 t4 : Tok} {c : Int} {bo : Value} {ch : Addr} {rest : List DictEntry} {n : Nat} {size : Int} {tz : Tok}
    (B : Below A₀ base outer h₀) (F : Fr h₀ L s.heap m) (X : (Mine.hd.heap_39 w.params).In h₀)
    (N : News h₀ L s.heap ((ty, instObj 116 td) :: (td, dictOf (⟨hc, .str (Str.ofString "counter") t1, .int c tc⟩ :: ⟨hk, .str (Str.ofString "known") t2, .ref kn⟩ :: ⟨hb, .str (Str.ofString "boolean") t3, bo⟩ :: ⟨hr, .str (Str.ofString "char") t4, .ref ch⟩ :: rest) n) :: news))
    (T : Top Mine.hd.view_39 (looseW Mine.hd.view_39 []) mean mg mb h₀) (hkd : cs.kind = .function)
    (hrl : rest.length ≤ 10) (hap : @Ne Nat ty td) (hap2 : ∀ p ∈ news, p.1 ≠ td) (hnn : getL (Str.ofString "new") rest = some none)
    (hd : dp + 12 < recursionLimit) (hu : un + 200 < cLine)
    (hret : ∀ (t dt fl pl hl : Addr) (h' : Heap) (tk' : Nat) (k0 k1 k2 k3 k4 k5 k6 k7 k8 k9 k10 k11 k12 v1 v2 v3 v5 v7 v9 v10 v12 : Tok), Fr h₀ L h' m → News h₀ L h' ((hl, listOf #[] 0) :: (pl, listOf #[] 0) :: (fl, listOf #[] 0) :: (t, instObj 31 dt) :: (dt, dictOf (tyEs w (c + 1) (Str.ofString "string") size (.ref ch) size fl pl hl (Str.ofString "") (Str.ofString "") k1 k2 k3 k4 k5 k6 k7 k8 k9 k10 k11 k12 v1 v2 v3 v5 v7 v9 v10 v12) 12) ::
        (ty, instObj 116 td) :: (td, dictOf (⟨hc, .str (Str.ofString "counter") t1, .int (c + 1) k0⟩ :: ⟨hk, .str (Str.ofString "known") t2, .ref kn⟩ :: ⟨hb, .str (Str.ofString "boolean") t3, bo⟩ :: ⟨hr, .str (Str.ofString "char") t4, .ref ch⟩ :: rest) n) :: news) →
        (@LT.lt Nat _ ty dt ∧ @LT.lt Nat _ td dt ∧ AllLt dt news) → @LT.lt Nat _ dt t → @LT.lt Nat _ t fl → @LT.lt Nat _ fl pl → @LT.lt Nat _ pl hl → Q (.ref t) { s with heap := h', toks := tk' }) :
    wpAny (model PySem.Challenge.rw_pb0315_01.row.prog w) (ktrTop dp un gd cn cs L a ccd cl outer) (call (.ref 113) [.ref ty, .int size tz]) Q E s := by
  revert X; k_fill; intro X
  refine wpAny_call ?_
  k_dflt (refine' code_def ?k1 ?k2 ?k3 ?k4 ?k5 ?kA ?kF ?kK ?k6 ?k7 ?k8 ?k9 ?kB ?_ ?c2 ?c3 ?c4 ?c5; (case kA => exact rfl); (case kF => exact rfl); (case kK => first | exact rfl | assumption); (case k1 => k_asm); (case k2 => k_asm); (case k3 => k_asm); (case k4 => k_asm); (case k5 => k_asm); (case k6 => k_is); (case k7 => k_is); (case k8 => ktr_room); (case k9 => first | exact BindsTo.of_eq rfl | exact binds_K (by k_in) rfl (by k_is) rfl rfl rfl); (case c5 => decide); (case kB => exact locs rfl); (case c2 => exact rfl); (case c3 => exact rfl); (case c4 => exact rfl); k_whole; intro g' L' h' FG' F' N' B' X' T'; (try dsimp only); (try k_fold))
  (w_top off; k_steps)
  all_goals exact hret _ _ _ _ _ _ _ _ _ _ _ _ _ _ _ _ _ _ _ _ _ _ _ _ _ _ _ _ (by k_asm) (by k_asm) (by assumption) (by omega) (by omega) (by omega) (by omega)
end
section
/-- an object of the ledger and one of its attributes -/
def AttrAt (C : Addr) (led : List (Addr × Obj)) (a : Addr) (name : Str) (v : Value) : Prop := ∃ dx es n, (a, instObj C dx) ∈ led ∧ (dx, dictOf es n) ∈ led ∧ getL name es = some (some v)
theorem AttrAt.mono {C : Addr} {led led' : List (Addr × Obj)} {a : Addr} {name : Str} {v : Value} (h : AttrAt C led a name v) (hs : ∀ p ∈ led, p ∈ led') : AttrAt C led' a name v :=
  let ⟨dx, es, n, h1, h2, h3⟩ := h; ⟨dx, es, n, hs _ h1, hs _ h2, h3⟩
inductive AttrsAt (C : Addr) (led : List (Addr × Obj)) (name : Str) : List Value → List Value → Prop
  | nil : AttrsAt C led name [] []
  | cons {a : Addr} {w : Value} {vs ws : List Value} : AttrAt C led a name w → handedIn w = true → AttrsAt C led name vs ws → AttrsAt C led name (.ref a :: vs) (w :: ws)
theorem AttrsAt.mono {C : Addr} {led led' : List (Addr × Obj)} {name : Str} (hs : ∀ p ∈ led, p ∈ led') : ∀ {vs ws : List Value}, AttrsAt C led name vs ws → AttrsAt C led' name vs ws
  | _, _, .nil => .nil
  | _, _, .cons h h' r => .cons (h.mono hs) h' (AttrsAt.mono hs r)
theorem AttrsAt.length {C : Addr} {led : List (Addr × Obj)} {name : Str} : ∀ {vs ws : List Value}, AttrsAt C led name vs ws → vs.length = ws.length
  | _, _, .nil => rfl
  | _, _, .cons _ _ r => congrArg (· + 1) r.length
theorem AttrsAt.append {C : Addr} {led : List (Addr × Obj)} {name : Str} {vs' ws' : List Value} (h' : AttrsAt C led name vs' ws') : ∀ {vs ws : List Value}, AttrsAt C led name vs ws → AttrsAt C led name (vs ++ vs') (ws ++ ws')
  | _, _, .nil => h'
  | _, _, .cons h k r => .cons h k (AttrsAt.append h' r)
section
variable {prog : Program} {w : World} {A : Around} {E : Value → Shared → Prop} {s : Shared} {K : Frag} {C L : Addr} {h₀ : Heap} {m : Str → Option Value} {news led : List (Addr × Obj)} {name : Str} {v : Value} {attr : Option Value} {a : Addr}
theorem attr_get {expr : Bool} {Q : Value → Shared → Prop} (F : Fr h₀ L s.heap m) (X : K.In h₀) (N : News h₀ L s.heap led) (T : AttrAt C led a name v) (hg : plainGet K C name = true) (hh : hasDictIn K C = true)
    (ha : findIn K (.ref C) name = some attr) (hn : noGet K attr = true) (hv : handedIn v = true) (h : Q v { s with toks := s.toks + 1 }) : wpAny (model prog w) A (getAttr (.ref a) name expr) Q E s := by
  obtain ⟨dx, es, n, h1, h2, h3⟩ := T
  exact get_own F X (InstAt.of_news N h1 h2) hg hh ha hn h3 hv h

/-- [x.name for x in its]: the turns -/
theorem comp_attr_rest {env : Env} {x : Str} {xp ap : Pos} {scope : Scope} {cl : List (Str × Addr)} {S : List (Addr × Obj) → Prop} {its : Array Value} {Fin : List Value → List (Addr × Obj) → Prop}
    (X : K.In h₀) (hkf : ∀ D, (compEnvC scope cl D env).scope.kind = .function) (hlx : ∀ D, (compEnvC scope cl D env).kindOf x = some .local) (hdx : (x == ("__debug__" : Str)) = false)
    (hg : plainGet K C name = true) (hh : hasDictIn K C = true) (ha : findIn K (.ref C) name = some attr) (hn : noGet K attr = true) (hS : S news) :
    ∀ (vs ws ys : List Value) (i : Nat), (∀ j, its[i + j]? = vs[j]?) → AttrsAt C news name vs ws → Fin (ys ++ ws) news →
      LCg.CompRest prog w A h₀ L m env (.Attribute (.Name x xp) name ap) x scope cl s S (fun i v => its[i]? = some v) Fin vs.length i ys news := by
  intro vs
  induction vs with
  | nil =>
    intro ws ys i _ hA hF
    cases hA
    rw [List.append_nil] at hF
    exact LCg.CompRest.zero hF
  | cons v vs ih =>
    intro ws ys i hi hA hF
    cases hA with
    | @cons a w₀ _ ws h1 h2 hA =>
      refine LCg.CompRest.succ ?_
      intro v' I oI C' oC D m₂ h tk E' hP hNs hx F' N' off ne
      have e0 := hi 0
      simp only [Nat.add_zero, List.getElem?_cons_zero] at e0
      have hv : v' = .ref a := by rw [hP] at e0; exact Option.some.inj e0
      subst hv
      refine Attribute_Name_ ?_
      refine LCgL.ld_own N' (.tail _ (.head _)) hNs hx ?_ (hkf _) (hlx _) hdx
      refine attr_get F' X N' (h1.mono fun p hp => .tail _ (.tail _ (.tail _ hp))) hg hh ha hn h2 ?_
      refine LCg.CompEnd.intro F' N' news (fun p hp => hp) off hS ?_
      refine ih ws _ (i + 1) (fun j => ?_) hA (by rw [List.append_assoc]; exact hF)
      have := hi (j + 1)
      rw [List.getElem?_cons_succ] at this
      rw [← this]
      congr 1
      omega
end
/-- the basic types so far: number, form, size -/
inductive TysB (led : List (Addr × Obj)) : List Value → List (Int × Str × Int) → Prop
  | nil : TysB led [] []
  | cons {t : Addr} {num size : Int} {form : Str} {v1 v2 v3 : Tok} {ts : List Value} {is : List (Int × Str × Int)} : AttrAt 31 led t (Str.ofString "number") (.int num v1) → AttrAt 31 led t (Str.ofString "form") (.str form v2) → AttrAt 31 led t (Str.ofString "size") (.int size v3) →
      TysB led ts is → TysB led (.ref t :: ts) ((num, form, size) :: is)
theorem TysB.mono {led led' : List (Addr × Obj)} (hs : ∀ p ∈ led, p ∈ led') : ∀ {ts : List Value} {is : List (Int × Str × Int)}, TysB led ts is → TysB led' ts is
  | _, _, .nil => .nil
  | _, _, .cons a b c r => .cons (a.mono hs) (b.mono hs) (c.mono hs) (TysB.mono hs r)
theorem TysB.append {led : List (Addr × Obj)} {ts' : List Value} {is' : List (Int × Str × Int)} (h' : TysB led ts' is') : ∀ {ts : List Value} {is : List (Int × Str × Int)}, TysB led ts is → TysB led (ts ++ ts') (is ++ is')
  | _, _, .nil => h'
  | _, _, .cons a b c r => .cons a b c (TysB.append h' r)
theorem swap_mem {α : Type} {a b c : List α} : ∀ p ∈ b ++ (a ++ c), p ∈ a ++ (b ++ c) := by
  intro p hp
  rcases List.mem_append.mp hp with h | h
  · exact List.mem_append_right _ (List.mem_append_left _ h)
  · rcases List.mem_append.mp h with h | h
    · exact List.mem_append_left _ h
    · exact List.mem_append_right _ (List.mem_append_right _ h)
theorem pack5 {h₀ h : Heap} {L : Addr} {e1 e2 e3 e4 e5 e6 e7 e8 : Addr × Obj} {news : List (Addr × Obj)}
    (N : News h₀ L h (e5 :: e4 :: e3 :: e2 :: e1 :: e6 :: e7 :: e8 :: news)) :
    News h₀ L h (e6 :: e7 :: e8 :: e5 :: e4 :: e3 :: e2 :: e1 :: news) :=
  kst_newsOf N (swap_mem (a := [e5, e4, e3, e2, e1]) (b := [e6, e7, e8]))
theorem init_swap {h₀ h : Heap} {L : Addr} {e1 e2 e3 : Addr × Obj} {news : List (Addr × Obj)} (N : News h₀ L h (e1 :: e2 :: e3 :: news)) : News h₀ L h (e2 :: e3 :: e1 :: news) := kst_newsOf N (swap_mem (a := [e1]) (b := [e2, e3]))
theorem kobj_nil {w : World} {o : Obj} {K : Type} [DecidableEq K] {knd : KeyKind PySem.Challenge.rw_pb0315_01.row.prog w K} (hd : o.IsDictOf knd []) : KObj w o [] := by
  obtain ⟨es, ep, hc, hdat, _, hp, _⟩ := hd
  have he : es.toList = [] := List.length_eq_zero_iff.mp hp.length
  exact ⟨hc, ⟨es, ep, hdat, he⟩, List.nodup_nil⟩
theorem apart5 {q a1 a2 a3 a4 a5 : Addr} {x1 x2 x3 x4 x5 : Obj} {news : List (Addr × Obj)} (hq : @LT.lt Nat _ q a1) (h1 : @LT.lt Nat _ a1 a2) (h2 : @LT.lt Nat _ a2 a3) (h3 : @LT.lt Nat _ a3 a4) (h4 : @LT.lt Nat _ a4 a5) (hn : ∀ p ∈ news, p.1 ≠ q) :
    ∀ p ∈ (a5, x5) :: (a4, x4) :: (a3, x3) :: (a2, x2) :: (a1, x1) :: news, p.1 ≠ q := by
  intro p hp
  rcases List.mem_cons.mp hp with rfl | hp
  · exact neN (by dsimp only; omega)
  rcases List.mem_cons.mp hp with rfl | hp
  · exact neN (by dsimp only; omega)
  rcases List.mem_cons.mp hp with rfl | hp
  · exact neN (by dsimp only; omega)
  rcases List.mem_cons.mp hp with rfl | hp
  · exact neN (by dsimp only; omega)
  rcases List.mem_cons.mp hp with rfl | hp
  · exact neN (by dsimp only; omega)
  exact hn p hp
theorem tyEs_number {w : World} {num : Int} {form : Str} {size : Int} {bs : Value} {len : Int} {fl pl hl : Addr} {md lab : Str} {k1 k2 k3 k4 k5 k6 k7 k8 k9 k10 k11 k12 v1 v2 v3 v5 v7 v9 v10 v12 : Tok} : getL (Str.ofString "number") (tyEs w num form size bs len fl pl hl md lab k1 k2 k3 k4 k5 k6 k7 k8 k9 k10 k11 k12 v1 v2 v3 v5 v7 v9 v10 v12) = some (some (.int num v1)) := get_head (by with_unfolding_all rfl)
theorem tyEs_form {w : World} {num : Int} {form : Str} {size : Int} {bs : Value} {len : Int} {fl pl hl : Addr} {md lab : Str} {k1 k2 k3 k4 k5 k6 k7 k8 k9 k10 k11 k12 v1 v2 v3 v5 v7 v9 v10 v12 : Tok} : getL (Str.ofString "form") (tyEs w num form size bs len fl pl hl md lab k1 k2 k3 k4 k5 k6 k7 k8 k9 k10 k11 k12 v1 v2 v3 v5 v7 v9 v10 v12) = some (some (.str form v2)) := get_tail (by with_unfolding_all rfl) (get_head (by with_unfolding_all rfl))
theorem tyEs_size {w : World} {num : Int} {form : Str} {size : Int} {bs : Value} {len : Int} {fl pl hl : Addr} {md lab : Str} {k1 k2 k3 k4 k5 k6 k7 k8 k9 k10 k11 k12 v1 v2 v3 v5 v7 v9 v10 v12 : Tok} : getL (Str.ofString "size") (tyEs w num form size bs len fl pl hl md lab k1 k2 k3 k4 k5 k6 k7 k8 k9 k10 k11 k12 v1 v2 v3 v5 v7 v9 v10 v12) = some (some (.int size v3)) := get_tail (by with_unfolding_all rfl) (get_tail (by with_unfolding_all rfl) (get_head (by with_unfolding_all rfl)))
theorem tysB_new {led : List (Addr × Obj)} {t dt : Addr} {es : List DictEntry} {nn : Nat} {num size : Int} {form : Str} {v1 v2 v3 : Tok} (h1 : (t, instObj 31 dt) ∈ led) (h2 : (dt, dictOf es nn) ∈ led) (g1 : getL (Str.ofString "number") es = some (some (.int num v1))) (g2 : getL (Str.ofString "form") es = some (some (.str form v2))) (g3 : getL (Str.ofString "size") es = some (some (.int size v3))) :
    TysB led [.ref t] [(num, form, size)] := .cons ⟨dt, es, nn, h1, h2, g1⟩ ⟨dt, es, nn, h1, h2, g2⟩ ⟨dt, es, nn, h1, h2, g3⟩ .nil
/-- after a call of new: the written part is hidden -/
theorem new_pack {w : World} {h₀ h : Heap} {L ty td kn t dt fl pl hl : Addr} {o1 o2 o3 : Obj} {news bas : List (Addr × Obj)} {ts : List Value} {is : List (Int × Str × Int)} {num : Int} {form : Str} {size : Int} {md lab : Str} {bs : Value} {len : Int} {k1 k2 k3 k4 k5 k6 k7 k8 k9 k10 k11 k12 v1 v2 v3 v5 v7 v9 v10 v12 : Tok} {nn : Nat}
    (N : News h₀ L h ((hl, listOf #[] 0) :: (pl, listOf #[] 0) :: (fl, listOf #[] 0) :: (t, instObj 31 dt) :: (dt, dictOf (tyEs w num form size bs len fl pl hl md lab k1 k2 k3 k4 k5 k6 k7 k8 k9 k10 k11 k12 v1 v2 v3 v5 v7 v9 v10 v12) nn) :: (ty, o1) :: (td, o2) :: (kn, o3) :: news))
    (hlt : @LT.lt Nat _ ty dt ∧ @LT.lt Nat _ td dt ∧ @LT.lt Nat _ kn dt ∧ AllLt dt news) (h1 : @LT.lt Nat _ dt t) (h2 : @LT.lt Nat _ t fl) (h3 : @LT.lt Nat _ fl pl) (h4 : @LT.lt Nat _ pl hl)
    (ha1 : ∀ p ∈ news, p.1 ≠ ty) (ha2 : ∀ p ∈ news, p.1 ≠ td) (ha3 : ∀ p ∈ news, p.1 ≠ kn) (H : TysB news ts is) (hs : ∀ p ∈ bas, p ∈ news) :
    ∃ news', News h₀ L h ((ty, o1) :: (td, o2) :: (kn, o3) :: news') ∧ (∀ p ∈ bas, p ∈ news') ∧ (∀ p ∈ news', p.1 ≠ ty) ∧ (∀ p ∈ news', p.1 ≠ td) ∧ (∀ p ∈ news', p.1 ≠ kn) ∧ TysB news' (ts ++ [.ref t]) (is ++ [(num, form, size)]) := by
  obtain ⟨l1, l2, l3, l4⟩ := hlt
  refine ⟨_, pack5 N, fun p hp => .tail _ (.tail _ (.tail _ (.tail _ (.tail _ (hs p hp))))), apart5 l1 h1 h2 h3 h4 ha1, apart5 l2 h1 h2 h3 h4 ha2, apart5 l3 h1 h2 h3 h4 ha3, ?_⟩
  refine TysB.append (tysB_new (v1 := v1) (v2 := v2) (v3 := v3) (.tail _ (.tail _ (.tail _ (.head _)))) (.tail _ (.tail _ (.tail _ (.tail _ (.head _))))) tyEs_number tyEs_form tyEs_size) (H.mono fun p hp => ?_)
  exact .tail _ (.tail _ (.tail _ (.tail _ (.tail _ hp))))
/-- the dict of the maker, behind its init -/
noncomputable abbrev tsEs (w : World) (c : Int) (kn b1 b2 b3 b4 b5 b6 b7 : Addr) (tc k1 k2 k3 k4 k5 k6 k7 k8 k9 : Tok) : List DictEntry :=
  [⟨PyData.keyHash w.params (Str.ofString "counter"), .str (Str.ofString "counter") k1, .int c tc⟩, ⟨PyData.keyHash w.params (Str.ofString "known"), .str (Str.ofString "known") k2, .ref kn⟩,
   ⟨PyData.keyHash w.params (Str.ofString "boolean"), .str (Str.ofString "boolean") k3, .ref b1⟩,
   ⟨PyData.keyHash w.params (Str.ofString "char"), .str (Str.ofString "char") k4, .ref b2⟩,
   ⟨PyData.keyHash w.params (Str.ofString "byte"), .str (Str.ofString "byte") k5, .ref b3⟩,
   ⟨PyData.keyHash w.params (Str.ofString "integer"), .str (Str.ofString "integer") k6, .ref b4⟩,
   ⟨PyData.keyHash w.params (Str.ofString "mask"), .str (Str.ofString "mask") k7, .ref b5⟩,
   ⟨PyData.keyHash w.params (Str.ofString "nil"), .str (Str.ofString "nil") k8, .ref b6⟩,
   ⟨PyData.keyHash w.params (Str.ofString "none"), .str (Str.ofString "none") k9, .ref b7⟩]
section
variable {prog : Program} {w : World} {A : Around} {E : Value → Shared → Prop} {s : Shared} {Q : Value → Shared → Prop} {i j : Int} {t u : Tok} {x y : Str}
theorem eq_int_no (h : i ≠ j) (hq : Q (.bool false) s) : wpAny (model prog w) A (compareOp .Eq (.int i t) (.int j u)) Q E s := by
  refine PyProof.Rows.eq_int ?_; rw [beq_eq_false_iff_ne.mpr h]; exact hq
theorem eq_int_yes (h : i = j) (hq : Q (.bool true) s) : wpAny (model prog w) A (compareOp .Eq (.int i t) (.int j u)) Q E s := by
  refine PyProof.Rows.eq_int ?_; rw [beq_iff_eq.mpr h]; exact hq
theorem lt_int_no (h : ¬ i < j) (hq : Q (.bool false) s) : wpAny (model prog w) A (compareOp .Lt (.int i t) (.int j u)) Q E s := by
  refine PyProof.Rows.lt_int ?_; rw [decide_eq_false h]; exact hq
theorem lt_int_yes (h : i < j) (hq : Q (.bool true) s) : wpAny (model prog w) A (compareOp .Lt (.int i t) (.int j u)) Q E s := by
  refine PyProof.Rows.lt_int ?_; rw [decide_eq_true h]; exact hq
theorem ne_str_yes (h : x ≠ y) (hq : Q (.bool true) s) : wpAny (model prog w) A (compareOp .NotEq (.str x t) (.str y u)) Q E s := by
  refine PyProof.Rows.ne_str ?_; rw [bne_iff_ne.mpr h]; exact hq
theorem ne_str_no (hq : Q (.bool false) s) : wpAny (model prog w) A (compareOp .NotEq (.str x t) (.str x u)) Q E s := by
  refine PyProof.Rows.ne_str ?_; rw [bne_self_eq_false]; exact hq
theorem len_led {h₀ : Heap} {L l : Addr} {led : List (Addr × Obj)} {its : Array Value} {n : Nat} (N : News h₀ L s.heap led) (hm : (l, listOf its n) ∈ led) (hz : its.size ≤ 1000)
    (h : ∀ tk tk', Q (.int its.size tk) { s with toks := tk' }) : wpAny (model prog w) A (call (.builtin "len") [.ref l]) Q E s :=
  Calls.call_len_list ⟨_, N.get hm, rfl, n, rfl⟩ (by omega) (h _ _)
theorem append_led {h₀ : Heap} {L D : Addr} {m : Str → Option Value} {led led' : List (Addr × Obj)} {vs : List Value} {n : Nat} {v : Value} (F : Fr h₀ L s.heap m) (N : News h₀ L s.heap led)
    (U : Upd D (listOf vs.toArray n) (listOf (vs ++ [v]).toArray (n + 1)) led led') (hz : vs.length ≤ 1000)
    (h : ∀ h', Fr h₀ L h' m → News h₀ L h' led' → Q .none { s with heap := h' }) : wpAny (model prog w) A (call (.builtin "list.append") [.ref D, v]) Q E s := by
  have e : (vs ++ [v]).toArray = vs.toArray.push v := by simp
  rw [e] at U
  exact append_K F N U h (by rw [List.size_toArray, sizeLine_eq]; omega)
end
theorem tupKey2 {w : World} {x y : Str} {t u : Tok} : TupKeyObj (PySem.strKind PySem.Challenge.rw_pb0315_01.row.prog w) [x, y] { cls := .type "tuple", data := .seq #[.str x t, .str y u] } := TupKeyObj.made (vs := [.str x t, .str y u]) (by tuptab_items_str)
theorem kkeys2 {w : World} {led : List (Addr × Obj)} {x y : Str} {t u t' u' : Tok} {a b : Addr} {v v' : Value} (h1 : (a, ({ cls := .type "tuple", data := .seq #[.str x t, .str y u] } : Obj)) ∈ led) (h2 : (b, ({ cls := .type "tuple", data := .seq #[.str x t', .str y u'] } : Obj)) ∈ led) :
    KKeys w led [([x, y], a, v), ([x, y], b, v')] := by
  intro p hp
  rcases List.mem_cons.mp hp with rfl | hp
  · exact ⟨_, h1, tupKey2⟩
  · rw [List.mem_singleton.mp hp]; exact ⟨_, h2, tupKey2⟩
theorem fr_six {h₀ h : Heap} {L : Addr} {m : Str → Option Value} {ps : List (Str × Value)} (F : Fr h₀ L h m) (hp : ∀ p ∈ ps, m p.1 = some p.2) : Fr h₀ L h (kstB m ps) := by
  have e : kstB m ps = m := funext fun z => kstB_eq hp fun _ => rfl
  rw [e]; exact F
theorem item_led {prog : Program} {w : World} {A : Around} {E : Value → Shared → Prop} {s : Shared} {value slice : PySem.Expr} {h₀ : Heap} {L a : Addr} {led : List (Addr × Obj)} {l : List Value} {n : Nat} {k : Int} {u : Tok} {x : Value} {Q : Value → Shared → Prop} (N : News h₀ L s.heap led) (hm : (a, listOf l.toArray n) ∈ led)
    (h0 : 0 ≤ k) (hfit : k < 2 ^ 63) (hx : l[k.toNat]? = some x) (h : Q x s)
    (hs : subscripted slice false (.ref a) (.int k u) = operate [.ref a, .int k u] (getItem (.ref a) (.int k u))) (hg : ∀ r, letTemporaryGo value (.ref a) r = pure ()) :
    wpAny (model prog w) A (subscriptTail value slice (.ref a) (.int k u)) Q E s := item_listL ⟨_, N.get hm, rfl, n, rfl⟩ h0 hfit hx h hs hg
theorem strOk_nil : PyData.strOk (Str.ofString "") = true := by decide +kernel
theorem strOk_string : PyData.strOk (Str.ofString "string") = true := by decide +kernel
end
local macro_rules | `(tactic| walk_at "compareOp Eq int int") => `(tactic| (k_here; k_dflt (first | refine eq_int_no (by omega) ?_ | refine eq_int_yes (by omega) ?_)))
local macro_rules | `(tactic| walk_at "compareOp Lt int int") => `(tactic| (k_here; k_dflt (first | refine lt_int_no (by omega) ?_ | refine lt_int_yes (by omega) ?_)))
local macro_rules | `(tactic| walk_at "compareOp NotEq str str") => `(tactic| (k_here; first | (with_reducible refine ne_str_yes (by with_reducible assumption) ?_) | (with_reducible refine ne_str_no ?_)))
local macro_rules | `(tactic| walk_at "call builtin:len") => `(tactic| (k_here; k_dflt (refine' len_led (by k_asm) (by k_mem) (by first | assumption | (simp only [List.size_toArray]; omega)) ?_; k_whole; intro k' k'')))
local macro_rules | `(tactic| walk_at "call builtin:list.append") => `(tactic| (k_here; (with_reducible show wpAny _ _ (call (Value.builtin _) [Value.ref _, _]) _ _ _); k_dflt (refine' append_led (by k_asm) (by k_asm) (by k_upd) (by first | assumption | omega) ?_; k_whole; intro h' F' N'; (try k_sweep))))
section
local macro_rules | `(tactic| walk_at "call ref") => `(tactic| (k_here; k_dflt ((refine' new03 (by k_asm) (by k_asm) (by k_asm) (by first | k_asm | exact init_swap (by k_asm)) (by k_asm) (by first | exact rfl | assumption) (by (simp only [List.length_cons, List.length_nil]; omega)) (by k_ne) (by (refine List.forall_mem_cons.mpr ⟨?a, ?b⟩; (case a => k_ne); (case b => first | assumption | exact tbn_neAll (by assumption)))) (by ktr_room) (by ktr_units) ?_; k_whole); intros; rename_i N' l1' l2' l3' l4' l5'; (try k_sweep); obtain ⟨n9, N9, s9, a9, b9, c9, H9⟩ := new_pack N' l1' l2' l3' l4' l5' (by first | assumption | exact tbn_neAll (by assumption) | exact tbn_neAll (tbn_up (by assumption) (by assumption))) (by first | assumption | exact tbn_neAll (by assumption)) (by first | assumption | exact tbn_neAll (And.right (And.right (by assumption)))) (by first | assumption | exact TysB.nil) (by first | assumption | exact fun _ h => h); clear N' l1' l2' l3' l4' l5'; (try simp only [List.nil_append, List.cons_append] at H9))))
set_option maxRecDepth 100000 in
set_option maxHeartbeats 8000000 in
theorem types0 {w : World} {mean : ExcName → Option Value} {mg mb : Str → Option Value} {dp un : Nat} {gd : Option (List Code)} {cn : Str} {cs : Scope} {a : Addr} {ccd : Value} {cl : List (Str × Addr)} {outer : List Env} {A₀ : Around} {base h₀ : Heap} {L : Addr} {m : Str → Option Value} {news : List (Addr × Obj)} {s : Shared}
    {Q E : Value → Shared → Prop}
    (B : Below A₀ base outer h₀) (F : Fr h₀ L s.heap m) (X : (Mine.hd.heap_39 w.params).In h₀) (N : News h₀ L s.heap news)
    (T : Top Mine.hd.view_39 (looseW Mine.hd.view_39 []) mean mg mb h₀) (hkd : cs.kind = .function)
    (hd : dp + 14 < recursionLimit) (hu : un + 300 < cLine)
    (hret : ∀ (ty td kn b1 b2 b3 b4 b5 b6 b7 : Addr) (ko : Obj) (news' : List (Addr × Obj)) (h' : Heap) (tk' : Nat) (tc k1 k2 k3 k4 k5 k6 k7 k8 k9 : Tok), Fr h₀ L h' m → News h₀ L h' ((ty, instObj 116 td) :: (td, dictOf (tsEs w 7 kn b1 b2 b3 b4 b5 b6 b7 tc k1 k2 k3 k4 k5 k6 k7 k8 k9) 9) :: (kn, ko) :: news') → KObj w ko [] → (∀ p ∈ news, p ∈ news') →
      (∀ p ∈ news', p.1 ≠ ty) → (∀ p ∈ news', p.1 ≠ td) → (∀ p ∈ news', p.1 ≠ kn) → @LT.lt Nat _ td ty → @LT.lt Nat _ ty kn → (kn == sysModules) = false →
      TysB news' [.ref b1, .ref b2, .ref b3, .ref b4, .ref b5, .ref b6, .ref b7] [(1, Str.ofString "boolean", 1), (2, Str.ofString "char", 1), (3, Str.ofString "byte", 1), (4, Str.ofString "integer", 4), (5, Str.ofString "set", 4), (6, Str.ofString "nil", 4), (7, Str.ofString "none", 0)] → Q (.ref ty) { s with heap := h', toks := tk' }) :
    wpAny (model PySem.Challenge.rw_pb0315_01.row.prog w) (ktrTop dp un gd cn cs L a ccd cl outer) (call (.ref 116) []) Q E s := by
  revert X; k_fill; intro X
  k_dflt (refine' call_cls F X N ?a1 ?a2 ?a3 ?_; (case a1 => k_is); (case a2 => k_is); (case a3 => k_is); k_whole; intro x' d' h' F' N' l1 l2; replace l1 := allLt_of l1; k_lt2 l2)
  k_dflt (refine' code_def ?k1 ?k2 ?k3 ?k4 ?k5 ?kA ?kF ?kK ?k6 ?k7 ?k8 ?k9 ?kB ?_ ?c2 ?c3 ?c4 ?c5; (case kA => exact rfl); (case kF => exact rfl); (case kK => first | exact rfl | assumption); (case k1 => k_asm); (case k2 => k_asm); (case k3 => k_asm); (case k4 => k_asm); (case k5 => k_asm); (case k6 => k_is); (case k7 => k_is); (case k8 => ktr_room); (case k9 => first | exact BindsTo.of_eq rfl | exact binds_K (by k_in) rfl (by k_is) rfl rfl rfl); (case c5 => decide); (case kB => exact locs rfl); (case c2 => exact rfl); (case c3 => exact rfl); (case c4 => exact rfl); k_whole; intro g' L' h' FG' F' N' B' X' T'; (try dsimp only); (try k_fold))
  (w_top off; k_steps)
  all_goals exact hret _ _ _ _ _ _ _ _ _ _ _ _ _ _ _ _ _ _ _ _ _ _ _ _ (by k_asm) (by k_asm) (kobj_nil (by assumption)) (by assumption) (by assumption) (by assumption) (by assumption) (by omega) (by omega) (by assumption) (by assumption)
end
section
local macro_rules | `(tactic| walk_at "compareOp NotEq ref ref") => `(tactic| (k_here; (with_reducible show wpAny _ _ (compareOp CmpOp.NotEq (Value.ref _) (Value.ref _)) _ _ _); k_dflt (refine' ne_dataH (by ke_read) (by ke_read) (by (simp [SeqAt.shaped, PyData.canLay0, PyData.canLayAll0, PyData.depth, PyData.depthAll, strOk_nil, strOk_string, *]; done)) (by (simp [SeqAt.shaped, PyData.canLay0, PyData.canLayAll0, PyData.depth, PyData.depthAll, strOk_nil, strOk_string, *]; done)) (by ktr_units) ?_); (try simp only [PyData.eqv, PyData.eqvAll, beq_self_eq_true, Bool.and_true, Bool.true_and, Bool.and_false, Bool.false_and, Bool.not_true, Bool.not_false, decide_true, decide_false])))
section
local macro_rules | `(tactic| walk_at "call ref") => `(tactic| (k_here; k_dflt (refine' new1 (by k_asm) (by k_asm) (by k_asm) (by k_asm) (by k_asm) (by first | exact rfl | assumption) (by (simp only [List.length_cons, List.length_nil]; omega)) (by k_ne) (by (repeat (first | with_reducible assumption | (refine List.forall_mem_cons.mpr ⟨by k_ne, ?_⟩)))) (by ktr_room) (by ktr_units) (by k_ne) (by k_ne) (by (repeat (first | with_reducible assumption | (refine List.forall_mem_cons.mpr ⟨by k_ne, ?_⟩)))) (by assumption) (by (refine KKeys.mono (by assumption) (fun p => ?_); (repeat (first | exact id | apply mem_tl)))) (by assumption) (by assumption) ?_; k_whole); intros; rename_i l1' _ _ _ _ _; (try simp only [AllLt] at l1'); (try k_sweep)))
local macro_rules | `(tactic| walk_at "call ref") => `(tactic| (k_here; k_dflt (refine' new0 (by k_asm) (by k_asm) (by k_asm) (by k_asm) (by k_asm) (by first | exact rfl | assumption) (by (simp only [List.length_cons, List.length_nil]; omega)) (by k_ne) (by (repeat (first | with_reducible assumption | (refine List.forall_mem_cons.mpr ⟨by k_ne, ?_⟩)))) (by ktr_room) (by ktr_units) ?_; k_whole); intros; rename_i l1' _ _ _ _; (try simp only [AllLt] at l1'); (try k_sweep)))
section
noncomputable def lawBody : List Stmt := match PySem.Challenge.pw_pb0315_01.main.body with
  | [_, _, _, _, _, _, _, _, _, .FunctionDef _ _ body _ _ _ _ _ _ _] => body
  | _ => []
noncomputable def lawScope : Scope := match PySem.Challenge.pw_pb0315_01.main.body with
  | [_, _, _, _, _, _, _, _, _, .FunctionDef _ _ _ _ _ _ sc _ _ _] => sc
  | _ => default
noncomputable def lawLoop : List Stmt := match lawBody with
  | [_, _, _, _, _, _, _, _, _, .For _ _ b _ _, _, _, _, _] => b
  | _ => []
/-- the four arms of the loop's deed -/
noncomputable def armNew : List Stmt := match lawLoop with
  | [_, _, _, _, .If _ b _ _, _] => b
  | _ => []
noncomputable def armString : List Stmt := match lawLoop with
  | [_, _, _, _, .If _ _ [.If _ b _ _] _, _] => b
  | _ => []
noncomputable def armObj : List Stmt := match lawLoop with
  | [_, _, _, _, .If _ _ [.If _ _ [.If _ b _ _] _] _, _] => b
  | _ => []
noncomputable def armFind : List Stmt := match lawLoop with
  | [_, _, _, _, .If _ _ [.If _ _ [.If _ _ b _] _] _, _] => b
  | _ => []
noncomputable def loopCheck : List Stmt := match lawLoop with
  | [_, _, _, _, _, c] => [c]
  | _ => []
set_option maxRecDepth 100000 in
set_option maxHeartbeats 8000000 in
theorem arm_new1 {w : World} {mean : ExcName → Option Value} {mg mb : Str → Option Value} {dp un : Nat} {gd : Option (List Code)} {cn : Str} {a : Addr} {ccd : Value} {cl : List (Str × Addr)} {outer : List Env} {A₀ : Around} {base h₀ : Heap} {L : Addr} {T : List (Addr × Obj)} {s : Shared}
    {Q : Flow → Shared → Prop} {E : Value → Shared → Prop} {u : Str → Option Value} {ce ty td kn md hn sh rw b1 b2 b3 b4 b5 b6 b7 : Addr} {tc k1 k2 k3 k4 k5 k6 k7 k8 k9 : Tok} {c d k : Int} {td0 tm tl0 tf ts0 : Tok} {mo lab form : Str} {ko ho : Obj} {xs ys : List (List Str × Addr × Value)} {tys : List Value} {nm : Nat}
    (B : Below A₀ base outer h₀) (F : Fr h₀ L s.heap (kstB u [(Str.ofString "form", Value.str form tf), (Str.ofString "label", Value.str lab tl0), (Str.ofString "module", Value.str mo tm), (Str.ofString "deed", Value.int d td0), (Str.ofString "step", Value.int k ts0), (Str.ofString "cells", Value.ref ce), (Str.ofString "types", Value.ref ty), (Str.ofString "made", Value.ref md), (Str.ofString "held_now", Value.ref hn), (Str.ofString "shown", Value.ref sh), (Str.ofString "rows", Value.ref rw)])) (X : (Mine.hd.heap_39 w.params).In h₀)
    (N : News h₀ L s.heap ((ty, instObj 116 td) :: (td, dictOf (tsEs w c kn b1 b2 b3 b4 b5 b6 b7 tc k1 k2 k3 k4 k5 k6 k7 k8 k9) 9) :: (kn, ko) :: (md, listOf tys.toArray nm) :: (hn, ho) :: T))
    (T0 : Top Mine.hd.view_39 (looseW Mine.hd.view_39 []) mean mg mb h₀)
    (hd : dp + 20 < recursionLimit) (hu : un + 400 < cLine)
    (n1 : @Ne Nat ty td) (n2 : @Ne Nat ty kn) (n3 : @Ne Nat td kn) (n4 : @Ne Nat td md) (n5 : @Ne Nat td hn) (n6 : @Ne Nat kn md) (n7 : @Ne Nat kn hn) (n8 : @Ne Nat md hn) (n9 : @Ne Nat ty md) (n10 : @Ne Nat ty hn)
    (a1 : ∀ p ∈ T, p.1 ≠ td) (a2 : ∀ p ∈ T, p.1 ≠ kn) (a3 : ∀ p ∈ T, p.1 ≠ md) (a4 : ∀ p ∈ T, p.1 ≠ hn)
    (D1 : KObj w ko xs) (D2 : KObj w ho ys) (K1 : KKeys w T xs) (K2 : KKeys w T ys) (hx : xs.length ≤ 1000) (hy : ys.length ≤ 1000)
    (hd1 : -2 ≤ d) (hd2 : d < 0) (hlab : lab ≠ Str.ofString "") (so1 : PyData.strOk form = true) (so2 : PyData.strOk mo = true) (so3 : PyData.strOk lab = true) (htys : tys.length ≤ 100)
    (hret : ∀ (u' : Str → Option Value) (t kt kt2 dt : Addr) (ko' ho' : Obj) (new : List (Addr × Obj)) (h' : Heap) (tk' : Nat) (tc' j' v' : Tok), Fr h₀ L h' (kstB u' [(Str.ofString "cells", Value.ref ce), (Str.ofString "types", Value.ref ty), (Str.ofString "made", Value.ref md), (Str.ofString "held_now", Value.ref hn), (Str.ofString "shown", Value.ref sh), (Str.ofString "rows", Value.ref rw)]) →
      News h₀ L h' ((ty, instObj 116 td) :: (td, dictOf (tsEs w (c + 1) kn b1 b2 b3 b4 b5 b6 b7 tc' k1 k2 k3 k4 k5 k6 k7 k8 k9) 9) :: (kn, ko') :: (md, listOf (tys ++ [Value.ref t]).toArray (nm + 1)) :: (hn, ho') :: (new ++ T)) →
      KObj w ko' (storedH xs [mo, lab] kt (Value.ref t)) → KObj w ho' (storedH ys [mo, lab] kt2 (Value.int tys.length j')) → KKeys w new [([mo, lab], kt, Value.none), ([mo, lab], kt2, Value.none)] → AttrAt 31 new t (Str.ofString "number") (Value.int (c + 1) v') →
      (@LT.lt Nat _ ty dt ∧ @LT.lt Nat _ td dt ∧ @LT.lt Nat _ kn dt ∧ @LT.lt Nat _ md dt ∧ @LT.lt Nat _ hn dt ∧ AllLt dt T) → (∀ p ∈ new, @LE.le Nat _ dt p.1) → Q .next { s with heap := h', toks := tk' }) :
    wpAny (model PySem.Challenge.rw_pb0315_01.row.prog w) (ktrTop dp un gd cn lawScope L a ccd cl outer) (execs armNew (envX cn lawScope L a ccd cl)) Q E s := by
  revert X; k_fill; intro X
  dsimp only [lawScope, armNew, lawLoop, lawBody, PySem.Challenge.pw_pb0315_01]
  (w_top off; k_steps)
  all_goals exact hret _ _ _ _ _ _ _ [_, _, _, _, _, _, _, _, _, _] _ _ _ _ _ (fr_six (by k_asm) (by kst_all)) (kst_newsOf (by k_asm) (swap_mem (a := [_, _, _, _, _, _, _, _, _, _]) (b := [_, _, _, _, _]))) (by assumption) (by assumption) (kkeys2 (by k_mem) (by k_mem)) ⟨_, _, _, by k_mem, by k_mem, tyEs_number⟩ (by assumption) (by repeat (first | exact List.forall_mem_nil _ | refine List.forall_mem_cons.mpr ⟨by dsimp only; omega, ?_⟩))
end
section
set_option maxRecDepth 100000 in
set_option maxHeartbeats 8000000 in
theorem arm_new0 {w : World} {mean : ExcName → Option Value} {mg mb : Str → Option Value} {dp un : Nat} {gd : Option (List Code)} {cn : Str} {a : Addr} {ccd : Value} {cl : List (Str × Addr)} {outer : List Env} {A₀ : Around} {base h₀ : Heap} {L : Addr} {T : List (Addr × Obj)} {s : Shared}
    {Q : Flow → Shared → Prop} {E : Value → Shared → Prop} {u : Str → Option Value} {ce ty td kn md hn sh rw b1 b2 b3 b4 b5 b6 b7 : Addr} {tc k1 k2 k3 k4 k5 k6 k7 k8 k9 : Tok} {c d k : Int} {td0 tm tl0 tf ts0 : Tok} {mo lab form : Str} {ko ho : Obj} {xs ys : List (List Str × Addr × Value)} {tys : List Value} {nm : Nat}
    (B : Below A₀ base outer h₀) (F : Fr h₀ L s.heap (kstB u [(Str.ofString "form", Value.str form tf), (Str.ofString "label", Value.str lab tl0), (Str.ofString "module", Value.str mo tm), (Str.ofString "deed", Value.int d td0), (Str.ofString "step", Value.int k ts0), (Str.ofString "cells", Value.ref ce), (Str.ofString "types", Value.ref ty), (Str.ofString "made", Value.ref md), (Str.ofString "held_now", Value.ref hn), (Str.ofString "shown", Value.ref sh), (Str.ofString "rows", Value.ref rw)])) (X : (Mine.hd.heap_39 w.params).In h₀)
    (N : News h₀ L s.heap ((ty, instObj 116 td) :: (td, dictOf (tsEs w c kn b1 b2 b3 b4 b5 b6 b7 tc k1 k2 k3 k4 k5 k6 k7 k8 k9) 9) :: (kn, ko) :: (md, listOf tys.toArray nm) :: (hn, ho) :: T))
    (T0 : Top Mine.hd.view_39 (looseW Mine.hd.view_39 []) mean mg mb h₀)
    (hd : dp + 20 < recursionLimit) (hu : un + 400 < cLine)
    (n1 : @Ne Nat ty td) (n2 : @Ne Nat ty kn) (n3 : @Ne Nat td kn) (n4 : @Ne Nat td md) (n5 : @Ne Nat td hn) (n6 : @Ne Nat kn md) (n7 : @Ne Nat kn hn) (n8 : @Ne Nat md hn) (n9 : @Ne Nat ty md) (n10 : @Ne Nat ty hn)
    (a1 : ∀ p ∈ T, p.1 ≠ td) (a2 : ∀ p ∈ T, p.1 ≠ kn) (a3 : ∀ p ∈ T, p.1 ≠ md) (a4 : ∀ p ∈ T, p.1 ≠ hn)
    (hd0 : d = 0) (so1 : PyData.strOk form = true) (so2 : PyData.strOk mo = true) (htys : tys.length ≤ 100)
    (hret : ∀ (u' : Str → Option Value) (t dt : Addr) (new : List (Addr × Obj)) (h' : Heap) (tk' : Nat) (tc' v' : Tok), Fr h₀ L h' (kstB u' [(Str.ofString "cells", Value.ref ce), (Str.ofString "types", Value.ref ty), (Str.ofString "made", Value.ref md), (Str.ofString "held_now", Value.ref hn), (Str.ofString "shown", Value.ref sh), (Str.ofString "rows", Value.ref rw)]) →
      News h₀ L h' ((ty, instObj 116 td) :: (td, dictOf (tsEs w (c + 1) kn b1 b2 b3 b4 b5 b6 b7 tc' k1 k2 k3 k4 k5 k6 k7 k8 k9) 9) :: (kn, ko) :: (md, listOf (tys ++ [Value.ref t]).toArray (nm + 1)) :: (hn, ho) :: (new ++ T)) → AttrAt 31 new t (Str.ofString "number") (Value.int (c + 1) v') →
      (@LT.lt Nat _ ty dt ∧ @LT.lt Nat _ td dt ∧ @LT.lt Nat _ kn dt ∧ @LT.lt Nat _ md dt ∧ @LT.lt Nat _ hn dt ∧ AllLt dt T) → (∀ p ∈ new, @LE.le Nat _ dt p.1) → Q .next { s with heap := h', toks := tk' }) :
    wpAny (model PySem.Challenge.rw_pb0315_01.row.prog w) (ktrTop dp un gd cn lawScope L a ccd cl outer) (execs armNew (envX cn lawScope L a ccd cl)) Q E s := by
  revert X; k_fill; intro X
  dsimp only [lawScope, armNew, lawLoop, lawBody, PySem.Challenge.pw_pb0315_01]
  (w_top off; k_steps)
  all_goals exact hret _ _ _ [_, _, _, _, _, _, _, _] _ _ _ _ (fr_six (by k_asm) (by kst_all)) (kst_newsOf (by k_asm) (swap_mem (a := [_, _, _, _, _, _, _, _]) (b := [_, _, _, _, _]))) ⟨_, _, _, by k_mem, by k_mem, tyEs_number⟩ (by assumption) (by repeat (first | exact List.forall_mem_nil _ | refine List.forall_mem_cons.mpr ⟨by dsimp only; omega, ?_⟩))
end
end
section
local macro_rules | `(tactic| walk_at "subscriptTail") => `(tactic| (k_here; (with_reducible show wpAny _ _ (subscriptTail _ _ (Value.ref _) (Value.int _ _)) _ _ _); k_dflt (refine' item_led (by k_asm) (by k_mem) (by assumption) (by omega) (by assumption) ?_ (by with_unfolding_all rfl) (by (intro _; with_unfolding_all rfl)))))
section
local macro_rules | `(tactic| walk_at "call ref") => `(tactic| (k_here; k_dflt (refine' string1 (by k_asm) (by k_asm) (by k_asm) (by k_asm) (by k_asm) (by first | exact rfl | assumption) (by (simp only [List.length_cons, List.length_nil]; omega)) (by k_ne) (by (repeat (first | with_reducible assumption | (refine List.forall_mem_cons.mpr ⟨by k_ne, ?_⟩)))) (by k_get) (by ktr_room) (by ktr_units) ?_; k_whole); intros; rename_i l1' _ _ _ _; (try simp only [AllLt] at l1'); (try k_sweep)))
local macro_rules | `(tactic| walk_at "getAttr ref") => `(tactic| (k_here; k_dflt (refine' attr_get (by k_asm) (by k_asm) (by k_asm) (by (refine AttrAt.mono (by assumption) (fun p => ?_); (repeat (first | exact id | apply mem_tl)))) (by k_is) (by k_is) (by k_is) (by k_is) (by k_handed) ?_; k_whole)))
set_option maxRecDepth 100000 in
set_option maxHeartbeats 8000000 in
theorem arm_string {w : World} {mean : ExcName → Option Value} {mg mb : Str → Option Value} {dp un : Nat} {gd : Option (List Code)} {cn : Str} {a : Addr} {ccd : Value} {cl : List (Str × Addr)} {outer : List Env} {A₀ : Around} {base h₀ : Heap} {L : Addr} {T : List (Addr × Obj)} {s : Shared}
    {Q : Flow → Shared → Prop} {E : Value → Shared → Prop} {u : Str → Option Value} {ce ty td kn md hn sh rw b1 b2 b3 b4 b5 b6 b7 : Addr} {tc k1 k2 k3 k4 k5 k6 k7 k8 k9 : Tok} {c d k : Int} {td0 tm tl0 tf ts0 : Tok} {mo lab form : Str} {ko ho : Obj} {xs ys : List (List Str × Addr × Value)} {tys : List Value} {nm : Nat} {cvs : List Value} {nc : Nat} {e : Int} {te vb : Tok}
    (B : Below A₀ base outer h₀) (F : Fr h₀ L s.heap (kstB u [(Str.ofString "form", Value.str form tf), (Str.ofString "label", Value.str lab tl0), (Str.ofString "module", Value.str mo tm), (Str.ofString "deed", Value.int d td0), (Str.ofString "step", Value.int k ts0), (Str.ofString "cells", Value.ref ce), (Str.ofString "types", Value.ref ty), (Str.ofString "made", Value.ref md), (Str.ofString "held_now", Value.ref hn), (Str.ofString "shown", Value.ref sh), (Str.ofString "rows", Value.ref rw)])) (X : (Mine.hd.heap_39 w.params).In h₀)
    (N : News h₀ L s.heap ((ty, instObj 116 td) :: (td, dictOf (tsEs w c kn b1 b2 b3 b4 b5 b6 b7 tc k1 k2 k3 k4 k5 k6 k7 k8 k9) 9) :: (kn, ko) :: (md, listOf tys.toArray nm) :: (hn, ho) :: (ce, listOf cvs.toArray nc) :: T))
    (T0 : Top Mine.hd.view_39 (looseW Mine.hd.view_39 []) mean mg mb h₀)
    (hd : dp + 20 < recursionLimit) (hu : un + 400 < cLine)
    (n1 : @Ne Nat ty td) (n2 : @Ne Nat ty kn) (n3 : @Ne Nat td kn) (n4 : @Ne Nat td md) (n5 : @Ne Nat td hn) (n6 : @Ne Nat kn md) (n7 : @Ne Nat kn hn) (n8 : @Ne Nat md hn) (n9 : @Ne Nat ty md) (n10 : @Ne Nat ty hn)
    (a1 : ∀ p ∈ T, p.1 ≠ td) (a2 : ∀ p ∈ T, p.1 ≠ kn) (a3 : ∀ p ∈ T, p.1 ≠ md) (a4 : ∀ p ∈ T, p.1 ≠ hn)
    (n11 : @Ne Nat td ce) (n12 : @Ne Nat md ce) (hk0 : 0 ≤ k) (hk1 : k < 100) (hci : cvs[k.toNat]? = some (Value.int e te)) (hb2 : AttrAt 31 T b2 (Str.ofString "number") (Value.int 2 vb)) (htys : tys.length ≤ 100)
    (hret : ∀ (u' : Str → Option Value) (t dt : Addr) (new : List (Addr × Obj)) (h' : Heap) (tk' : Nat) (tc' v' : Tok), Fr h₀ L h' (kstB u' [(Str.ofString "cells", Value.ref ce), (Str.ofString "types", Value.ref ty), (Str.ofString "made", Value.ref md), (Str.ofString "held_now", Value.ref hn), (Str.ofString "shown", Value.ref sh), (Str.ofString "rows", Value.ref rw)]) →
      News h₀ L h' ((ty, instObj 116 td) :: (td, dictOf (tsEs w (c + 1) kn b1 b2 b3 b4 b5 b6 b7 tc' k1 k2 k3 k4 k5 k6 k7 k8 k9) 9) :: (kn, ko) :: (md, listOf (tys ++ [Value.ref t]).toArray (nm + 1)) :: (hn, ho) :: (ce, listOf cvs.toArray nc) :: (new ++ T)) → AttrAt 31 new t (Str.ofString "number") (Value.int (c + 1) v') →
      (@LT.lt Nat _ ty dt ∧ @LT.lt Nat _ td dt ∧ @LT.lt Nat _ kn dt ∧ @LT.lt Nat _ md dt ∧ @LT.lt Nat _ hn dt ∧ @LT.lt Nat _ ce dt ∧ AllLt dt T) → (∀ p ∈ new, @LE.le Nat _ dt p.1) → Q .next { s with heap := h', toks := tk' }) :
    wpAny (model PySem.Challenge.rw_pb0315_01.row.prog w) (ktrTop dp un gd cn lawScope L a ccd cl outer) (execs armString (envX cn lawScope L a ccd cl)) Q E s := by
  revert X; k_fill; intro X
  dsimp only [lawScope, armString, lawLoop, lawBody, PySem.Challenge.pw_pb0315_01]
  (w_top off; k_steps)
  all_goals exact hret _ _ _ [_, _, _, _, _, _, _] _ _ _ _ (fr_six (by k_asm) (by kst_all)) (kst_newsOf (by k_asm) (swap_mem (a := [_, _, _, _, _, _, _]) (b := [_, _, _, _, _, _]))) ⟨_, _, _, by k_mem, by k_mem, tyEs_number⟩ (by assumption) (by repeat (first | exact List.forall_mem_nil _ | refine List.forall_mem_cons.mpr ⟨by dsimp only; omega, ?_⟩))
end
section
/-- the dict of the interface -/
noncomputable abbrev ifEs (w : World) (ob im : Addr) (q1 q2 q3 q4 p1 p2 : Tok) : List DictEntry :=
  [⟨PyData.keyHash w.params (Str.ofString "name"), .str (Str.ofString "name") q1, .str (Str.ofString "M") p1⟩, ⟨PyData.keyHash w.params (Str.ofString "key"), .str (Str.ofString "key") q2, .int 12 p2⟩, ⟨PyData.keyHash w.params (Str.ofString "objs"), .str (Str.ofString "objs") q3, .ref ob⟩, ⟨PyData.keyHash w.params (Str.ofString "imports"), .str (Str.ofString "imports") q4, .ref im⟩]
set_option maxRecDepth 100000 in
set_option maxHeartbeats 8000000 in
theorem obj0 {w : World} {mean : ExcName → Option Value} {mg mb : Str → Option Value} {dp un : Nat} {gd : Option (List Code)} {cn : Str} {cs : Scope} {a : Addr} {ccd : Value} {cl : List (Str × Addr)} {outer : List Env} {A₀ : Around} {base h₀ : Heap} {L : Addr} {m : Str → Option Value} {news : List (Addr × Obj)} {s : Shared}
    {Q E : Value → Shared → Prop} {nm : Str} {tn : Tok} {kd tv : Value} {k : Int} {tk0 : Tok}
    (B : Below A₀ base outer h₀) (F : Fr h₀ L s.heap m) (X : (Mine.hd.heap_39 w.params).In h₀) (N : News h₀ L s.heap news)
    (T : Top Mine.hd.view_39 (looseW Mine.hd.view_39 []) mean mg mb h₀) (hkd : cs.kind = .function)
    (hd : dp + 6 < recursionLimit) (hu : un + 60 < cLine)
    (hret : ∀ (x dx : Addr) (es : List DictEntry) (n : Nat) (h' : Heap) (tk' : Nat) (y1 y2 : Tok), Fr h₀ L h' m → News h₀ L h' ((x, instObj 52 dx) :: (dx, dictOf es n) :: news) → getL (Str.ofString "name") es = some (some (.str nm y1)) → getL (Str.ofString "place") es = some (some (.int k y2)) →
        AllLt dx news → @LT.lt Nat _ dx x → Q (.ref x) { s with heap := h', toks := tk' }) :
    wpAny (model PySem.Challenge.rw_pb0315_01.row.prog w) (ktrTop dp un gd cn cs L a ccd cl outer) (call (.ref 52) [.str nm tn, kd, tv, .int k tk0]) Q E s := by
  revert X; k_fill; intro X
  k_dflt (refine' call_cls F X N ?a1 ?a2 ?a3 ?_; (case a1 => k_is); (case a2 => k_is); (case a3 => k_is); k_whole; intro x' d' h' F' N' l1 l2; replace l1 := allLt_of l1; k_lt2 l2)
  k_dflt (refine' code_def ?k1 ?k2 ?k3 ?k4 ?k5 ?kA ?kF ?kK ?k6 ?k7 ?k8 ?k9 ?kB ?_ ?c2 ?c3 ?c4 ?c5; (case kA => exact rfl); (case kF => exact rfl); (case kK => first | exact rfl | assumption); (case k1 => k_asm); (case k2 => k_asm); (case k3 => k_asm); (case k4 => k_asm); (case k5 => k_asm); (case k6 => k_is); (case k7 => k_is); (case k8 => ktr_room); (case k9 => first | exact BindsTo.of_eq rfl | exact binds_K (by k_in) rfl (by k_is) rfl rfl rfl); (case c5 => decide); (case kB => exact locs rfl); (case c2 => exact rfl); (case c3 => exact rfl); (case c4 => exact rfl); k_whole; intro g' L' h' FG' F' N' B' X' T'; (try dsimp only); (try k_fold))
  (w_top off; k_steps)
  all_goals exact hret _ _ _ _ _ _ _ _ (by k_asm) (by k_asm) (by exact get_head (by with_unfolding_all rfl)) (by exact get_tail (by with_unfolding_all rfl) (get_tail (by with_unfolding_all rfl) (get_tail (by with_unfolding_all rfl) (get_head (by with_unfolding_all rfl))))) (by assumption) (by omega)
section
local macro_rules | `(tactic| walk_at "call ref") => `(tactic| (k_here; k_dflt (refine' obj0 (by k_asm) (by k_asm) (by k_asm) (by k_asm) (by k_asm) (by first | exact rfl | assumption) (by ktr_room) (by ktr_units) ?_; k_whole); intros; rename_i l1' _; (try simp only [AllLt] at l1'); (try k_sweep)))
local macro_rules | `(tactic| walk_at "storeName") => `(tactic| (k_here; k_dflt (refine' storeX_C (by k_asm) (by k_asm) (by assumption) (by k_updF) (by assumption) ?_ (by rfl) (by rfl); k_whole; intros; (try k_sweep))))
local macro_rules | `(tactic| walk_at "eval Name") => `(tactic| (k_here; k_dflt (refine' nameX_C (by k_asm) (by assumption) (by k_mem) (by assumption) ?_ (by rfl) (by rfl) (by decide); k_whole)))
set_option maxRecDepth 100000 in
set_option maxHeartbeats 8000000 in
theorem arm_obj {w : World} {mean : ExcName → Option Value} {mg mb : Str → Option Value} {dp un : Nat} {gd : Option (List Code)} {cn : Str} {a : Addr} {ccd : Value} {cl : List (Str × Addr)} {outer : List Env} {A₀ : Around} {base h₀ : Heap} {L : Addr} {T : List (Addr × Obj)} {s : Shared}
    {Q : Flow → Shared → Prop} {E : Value → Shared → Prop} {u : Str → Option Value} {ce ty td kn md hn sh rw b1 b2 b3 b4 b5 b6 b7 : Addr} {tc k1 k2 k3 k4 k5 k6 k7 k8 k9 : Tok} {c d k : Int} {td0 tm tl0 tf ts0 : Tok} {mo lab form : Str} {cvs us : List Value} {nc no nr : Nat} {e : Int} {te : Tok} {sd ob im c1 : Addr} {q1 q2 q3 q4 p1 p2 : Tok} {o1 : Obj} {v1 : Option Value}
    (B : Below A₀ base outer h₀) (F : Fr h₀ L s.heap (kstB u [(Str.ofString "form", Value.str form tf), (Str.ofString "label", Value.str lab tl0), (Str.ofString "module", Value.str mo tm), (Str.ofString "deed", Value.int d td0), (Str.ofString "step", Value.int k ts0), (Str.ofString "cells", Value.ref ce), (Str.ofString "types", Value.ref ty), (Str.ofString "made", Value.ref md), (Str.ofString "held_now", Value.ref hn), (Str.ofString "shown", Value.ref sh), (Str.ofString "rows", Value.ref rw)])) (X : (Mine.hd.heap_39 w.params).In h₀)
    (N : News h₀ L s.heap ((ty, instObj 116 td) :: (td, dictOf (tsEs w c kn b1 b2 b3 b4 b5 b6 b7 tc k1 k2 k3 k4 k5 k6 k7 k8 k9) 9) :: (ce, listOf cvs.toArray nc) :: (sh, instObj 80 sd) :: (sd, dictOf (ifEs w ob im q1 q2 q3 q4 p1 p2) 4) :: (ob, listOf us.toArray no) :: (rw, listOf us.toArray nr) :: (c1, o1) :: T))
    (T0 : Top Mine.hd.view_39 (looseW Mine.hd.view_39 []) mean mg mb h₀)
    (hd : dp + 20 < recursionLimit) (hu : un + 400 < cLine)
    (m1 : @Ne Nat ob ty) (m2 : @Ne Nat ob td) (m3 : @Ne Nat ob ce) (m4 : @Ne Nat ob sh) (m5 : @Ne Nat ob sd) (m6 : @Ne Nat ob rw) (m7 : @Ne Nat ob c1) (m8 : @Ne Nat rw ty) (m9 : @Ne Nat rw td) (m10 : @Ne Nat rw ce) (m11 : @Ne Nat rw sh) (m12 : @Ne Nat rw sd) (m13 : @Ne Nat rw c1) (m14 : @Ne Nat c1 ty) (m15 : @Ne Nat c1 td) (m16 : @Ne Nat c1 ce) (m17 : @Ne Nat c1 sh) (m18 : @Ne Nat c1 sd)
    (a1 : ∀ p ∈ T, p.1 ≠ ob) (a2 : ∀ p ∈ T, p.1 ≠ rw) (a3 : ∀ p ∈ T, p.1 ≠ c1)
    (hk0 : 0 ≤ k) (hk1 : k < 100) (hci : cvs[k.toNat]? = some (Value.int e te)) (hus : us.length ≤ 100) (hcl : cl.lookup (Str.ofString "one") = some c1) (hc1 : o1.data = .cell v1)
    (hret : ∀ (u' : Str → Option Value) (x dx : Addr) (o1' : Obj) (nm' : Str) (new : List (Addr × Obj)) (h' : Heap) (tk' : Nat) (y1 y2 : Tok), Fr h₀ L h' (kstB u' [(Str.ofString "cells", Value.ref ce), (Str.ofString "types", Value.ref ty), (Str.ofString "made", Value.ref md), (Str.ofString "held_now", Value.ref hn), (Str.ofString "shown", Value.ref sh), (Str.ofString "rows", Value.ref rw)]) →
      News h₀ L h' ((ty, instObj 116 td) :: (td, dictOf (tsEs w c kn b1 b2 b3 b4 b5 b6 b7 tc k1 k2 k3 k4 k5 k6 k7 k8 k9) 9) :: (ce, listOf cvs.toArray nc) :: (sh, instObj 80 sd) :: (sd, dictOf (ifEs w ob im q1 q2 q3 q4 p1 p2) 4) :: (ob, listOf (us ++ [Value.ref x]).toArray (no + 1)) :: (rw, listOf (us ++ [Value.ref x]).toArray (nr + 1)) :: (c1, o1') :: (new ++ T)) → o1'.data = .cell (some (Value.ref x)) → AttrAt 52 new x (Str.ofString "name") (Value.str nm' y1) → AttrAt 52 new x (Str.ofString "place") (Value.int k y2) →
      (@LT.lt Nat _ ty dx ∧ @LT.lt Nat _ td dx ∧ @LT.lt Nat _ ce dx ∧ @LT.lt Nat _ sh dx ∧ @LT.lt Nat _ sd dx ∧ @LT.lt Nat _ ob dx ∧ @LT.lt Nat _ rw dx ∧ @LT.lt Nat _ c1 dx ∧ AllLt dx T) → (∀ p ∈ new, @LE.le Nat _ dx p.1) → Q .next { s with heap := h', toks := tk' }) :
    wpAny (model PySem.Challenge.rw_pb0315_01.row.prog w) (ktrTop dp un gd cn lawScope L a ccd cl outer) (execs armObj (envX cn lawScope L a ccd cl)) Q E s := by
  revert X; k_fill; intro X
  dsimp only [lawScope, armObj, lawLoop, lawBody, PySem.Challenge.pw_pb0315_01]
  (w_top off; k_steps)
  all_goals exact hret _ _ _ _ _ [_, _] _ _ _ _ (fr_six (by k_asm) (by kst_all)) (kst_newsOf (by k_asm) (swap_mem (a := [_, _]) (b := [_, _, _, _, _, _, _, _]))) (by assumption) ⟨_, _, _, by k_mem, by k_mem, by assumption⟩ ⟨_, _, _, by k_mem, by k_mem, by assumption⟩ (by assumption) (by repeat (first | exact List.forall_mem_nil _ | refine List.forall_mem_cons.mpr ⟨by dsimp only; omega, ?_⟩))
end
end
end
end
section
/-- the objects of an interface: name, place -/
inductive ObjsAt (T : List (Addr × Obj)) : List Value → List (Str × Int) → Prop
  | nil : ObjsAt T [] []
  | cons {a : Addr} {nm : Str} {p : Int} {t1 t2 : Tok} {vs : List Value} {rs : List (Str × Int)} : AttrAt 52 T a (Str.ofString "name") (.str nm t1) → AttrAt 52 T a (Str.ofString "place") (.int p t2) → ObjsAt T vs rs → ObjsAt T (.ref a :: vs) ((nm, p) :: rs)
theorem ObjsAt.mono {T T' : List (Addr × Obj)} (hs : ∀ p ∈ T, p ∈ T') : ∀ {vs : List Value} {rs : List (Str × Int)}, ObjsAt T vs rs → ObjsAt T' vs rs
  | _, _, .nil => .nil
  | _, _, .cons a b r => .cons (a.mono hs) (b.mono hs) (ObjsAt.mono hs r)
theorem ObjsAt.append {T : List (Addr × Obj)} {vs' : List Value} {rs' : List (Str × Int)} (h' : ObjsAt T vs' rs') : ∀ {vs : List Value} {rs : List (Str × Int)}, ObjsAt T vs rs → ObjsAt T (vs ++ vs') (rs ++ rs')
  | _, _, .nil => h'
  | _, _, .cons a b r => .cons a b (ObjsAt.append h' r)
theorem ObjsAt.length {T : List (Addr × Obj)} : ∀ {vs : List Value} {rs : List (Str × Int)}, ObjsAt T vs rs → vs.length = rs.length
  | _, _, .nil => rfl
  | _, _, .cons _ _ r => congrArg (· + 1) r.length
theorem ObjsAt.get {T : List (Addr × Obj)} : ∀ {vs : List Value} {rs : List (Str × Int)}, ObjsAt T vs rs → ∀ {i : Nat} {v : Value}, vs[i]? = some v →
    ∃ a nm p t1 t2, v = .ref a ∧ rs[i]? = some (nm, p) ∧ AttrAt 52 T a (Str.ofString "name") (.str nm t1) ∧ AttrAt 52 T a (Str.ofString "place") (.int p t2)
  | _, _, .nil, i, v, e => by simp at e
  | _, _, .cons (a := a) (nm := nm) (p := p) (t1 := t1) (t2 := t2) h1 h2 r, i, v, e => by
    cases i with
    | zero =>
      simp only [List.getElem?_cons_zero, Option.some.injEq] at e
      exact ⟨a, nm, p, t1, t2, e.symm, rfl, h1, h2⟩
    | succ i =>
      simp only [List.getElem?_cons_succ] at e ⊢
      exact r.get e
/-- the first object of a name, or None -/
noncomputable def fnd (nm : Str) : List Value → List (Str × Int) → Value
  | v :: vs, r :: rs => if r.1 = nm then v else fnd nm vs rs
  | _, _ => .none
theorem fnd_drop {nm n : Str} {p : Int} {v : Value} : ∀ {vs : List Value} {rs : List (Str × Int)} {i : Nat}, vs[i]? = some v → rs[i]? = some (n, p) →
    fnd nm (vs.drop i) (rs.drop i) = if n = nm then v else fnd nm (vs.drop (i + 1)) (rs.drop (i + 1))
  | [], _, i, h, _ => by simp at h
  | _ :: _, [], i, _, h => by simp at h
  | x :: vs, y :: rs, 0, h1, h2 => by
    simp only [List.getElem?_cons_zero, Option.some.injEq] at h1 h2
    subst h1 h2
    rfl
  | x :: vs, y :: rs, i + 1, h1, h2 => by
    simp only [List.getElem?_cons_succ] at h1 h2
    simpa using fnd_drop (nm := nm) h1 h2
theorem fnd_end {nm : Str} {vs : List Value} {rs : List (Str × Int)} {i : Nat} (h : vs.length ≤ i) : fnd nm (vs.drop i) (rs.drop i) = .none := by
  rw [List.drop_of_length_le h]; cases rs.drop i <;> rfl
theorem kstB_self {m : Str → Option Value} {ps : List (Str × Value)} (hp : ∀ p ∈ ps, m p.1 = some p.2) : m = kstB m ps := (funext fun z => kstB_eq hp fun _ => rfl).symm
theorem drop_mid {α : Type} {x a b c : List α} : ∀ p ∈ a ++ c, p ∈ x ++ (a ++ (b ++ c)) := by
  intro p hp
  rcases List.mem_append.mp hp with h | h
  · exact List.mem_append_right _ (List.mem_append_left _ h)
  · exact List.mem_append_right _ (List.mem_append_right _ (List.mem_append_right _ h))
theorem mem_ap {p : Addr × Obj} {l l' : List (Addr × Obj)} : p ∈ l → p ∈ l ++ l' := fun h => List.mem_append_left _ h
local macro_rules | `(tactic| walk_at "getAttr ref") => `(tactic| (k_here; k_dflt (refine' attr_get (by k_asm) (by k_asm) (by k_asm) (by (refine AttrAt.mono (by with_reducible assumption) (fun p => ?_); (repeat (first | exact id | exact mem_ap | apply mem_tl)))) (by k_is) (by k_is) (by k_is) (by k_is) (by k_handed) ?_; k_whole)))
set_option maxRecDepth 100000 in
set_option maxHeartbeats 8000000 in
theorem find1 {w : World} {mean : ExcName → Option Value} {mg mb : Str → Option Value} {dp un : Nat} {gd : Option (List Code)} {cn : Str} {cs : Scope} {a : Addr} {ccd : Value} {cl : List (Str × Addr)} {outer : List Env} {A₀ : Around} {base h₀ : Heap} {L : Addr} {m : Str → Option Value} {T : List (Addr × Obj)} {s : Shared}
    {Q E : Value → Shared → Prop} {sh sd ob im : Addr} {q1 q2 q3 q4 p1 p2 : Tok} {us : List Value} {rs : List (Str × Int)} {no : Nat} {nm : Str} {tn : Tok}
    (B : Below A₀ base outer h₀) (F : Fr h₀ L s.heap m) (X : (Mine.hd.heap_39 w.params).In h₀) (N : News h₀ L s.heap ((sh, instObj 80 sd) :: (sd, dictOf (ifEs w ob im q1 q2 q3 q4 p1 p2) 4) :: (ob, listOf us.toArray no) :: T))
    (T0 : Top Mine.hd.view_39 (looseW Mine.hd.view_39 []) mean mg mb h₀) (hkd : cs.kind = .function)
    (hd : dp + 14 < recursionLimit) (hu : un + 300 < cLine) (hO : ObjsAt T us rs)
    (hret : ∀ (h' : Heap) (tk' : Nat), Fr h₀ L h' m → News h₀ L h' ((sh, instObj 80 sd) :: (sd, dictOf (ifEs w ob im q1 q2 q3 q4 p1 p2) 4) :: (ob, listOf us.toArray no) :: T) → Q (fnd nm us rs) { s with heap := h', toks := tk' }) :
    wpAny (model PySem.Challenge.rw_pb0315_01.row.prog w) (ktrTop dp un gd cn cs L a ccd cl outer) (call (.ref 77) [.ref sh, .str nm tn]) Q E s := by
  revert X; k_fill; intro X
  refine wpAny_call ?_
  k_dflt (refine' code_def ?k1 ?k2 ?k3 ?k4 ?k5 ?kA ?kF ?kK ?k6 ?k7 ?k8 ?k9 ?kB ?_ ?c2 ?c3 ?c4 ?c5; (case kA => exact rfl); (case kF => exact rfl); (case kK => first | exact rfl | assumption); (case k1 => k_asm); (case k2 => k_asm); (case k3 => k_asm); (case k4 => k_asm); (case k5 => k_asm); (case k6 => k_is); (case k7 => k_is); (case k8 => ktr_room); (case k9 => first | exact BindsTo.of_eq rfl | exact binds_K (by k_in) rfl (by k_is) rfl rfl rfl); (case c5 => decide); (case kB => exact locs rfl); (case c2 => exact rfl); (case c3 => exact rfl); (case c4 => exact rfl); k_whole; intro g' L' h' FG' F' N' B' X' T'; (try dsimp only); (try k_fold))
  w_top off
  repeat' ((fail_if_success (with_reducible show wpAny _ _ (pyIter _) _ _ _)); first | (k_unfold; (try dsimp only)) | (k_end; wrow_close) | walk1 | (dsimp only; walk1) | (leave1; walk_say "STEP leave1"; try dsimp only))
  rename Fr g' _ _ _ => F9
  rename News g' _ _ _ => N9
  with_unfolding_all refine kdl_iter (vs := us) (nn := no) (fun i m nx => nx = (sh, instObj 80 sd) :: (sd, dictOf (ifEs w ob im q1 q2 q3 q4 p1 p2) 4) :: (ob, listOf us.toArray no) :: T ∧ (∃ u, m = kstB u [(Str.ofString "self", Value.ref sh), (Str.ofString "name", Value.str nm tn)]) ∧ fnd nm us rs = fnd nm (us.drop i) (rs.drop i)) (by rfl) (by k_mem) F9 N9 ⟨rfl, ⟨_, kstB_self (by kst_all)⟩, rfl⟩ (fun i v m₁ nx h9 tk9 own hv hoff hl hJ F8 N8 => ?_) (fun m₁ nx h9 tk9 hJ F8 N8 => ?_)
  · clear F9 N9
    obtain ⟨rfl, ⟨u, rfl⟩, hf⟩ := hJ
    obtain ⟨a9, n9, p9, t9, t8, rfl, hr9, hA, hP⟩ := hO.get hv
    have e9 := hf.trans (fnd_drop hv hr9)
    simp only [List.cons_append] at N8
    k_unmd
    k_fold
    (w_top off; k_steps)
    · rename (n9 == nm) = true => hb9
      have hv9 : fnd nm us rs = Value.ref a9 := by rw [e9, if_pos (beq_iff_eq.mp hb9)]
      rw [← hv9]
      exact hret _ _ (by k_asm) (kst_newsOf (by k_asm) fun p hp => mem_ap (l := (sh, instObj 80 sd) :: (sd, dictOf (ifEs w ob im q1 q2 q3 q4 p1 p2) 4) :: (ob, listOf us.toArray no) :: T) hp)
    · rename (n9 == nm) = false => hb9
      have hv9 : fnd nm us rs = fnd nm (us.drop (i + 1)) (rs.drop (i + 1)) := by rw [e9, if_neg (beq_eq_false_iff_ne.mp hb9)]
      exact InvEndG.intro (by k_asm) (by k_asm) ⟨hl, rfl, ⟨_, kstB_self (by kst_all)⟩, hv9⟩ hoff (fun p hp => mem_ap (l := (sh, instObj 80 sd) :: (sd, dictOf (ifEs w ob im q1 q2 q3 q4 p1 p2) 4) :: (ob, listOf us.toArray no) :: T) hp) (fun p hp => List.mem_append_right ((sh, instObj 80 sd) :: (sd, dictOf (ifEs w ob im q1 q2 q3 q4 p1 p2) 4) :: (ob, listOf us.toArray no) :: T) hp)
  · clear F9 N9
    obtain ⟨rfl, ⟨u, rfl⟩, hf⟩ := hJ
    rw [fnd_end (Nat.le_refl _)] at hf
    (w_top off; k_steps)
    all_goals (rw [← hf]; exact hret _ _ (by k_asm) (by k_asm))
end
section
local macro_rules | `(tactic| walk_at "eval ListComp") => `(tactic| (k_here; k_dflt (lcg_look; (refine LCg.ListComp_U (F₀ := by k_asm) (by rfl) (by decide) (by rfl) (by decide) (by rfl) ?_))))
local macro_rules | `(tactic| walk_at "CompSrc") => `(tactic| (k_here; k_dflt ((refine LCg.CompSrc.ledger (by rfl) (by k_asm) (by k_asm) (by k_mem) (by rw [List.size_toArray, sizeLine_eq]; omega) (fun g9 => ?_)); (refine' comp_attr_rest (C := 31) (attr := none) ?X (fun _ => rfl) (fun _ => rfl) (by decide) ?g ?h ?a ?n (Or.inr ⟨_, by k_mem, rfl, _, rfl⟩) _ _ [] 0 (fun j => by simp) (AttrsAt.mono (fun p => ?m) (by assumption)) ?_); (case X => k_asm); (case g => k_is); (case h => k_is); (case a => k_is); (case n => k_is); (case m => (repeat (first | exact id | apply mem_tl))); (simp only [List.nil_append]))))
set_option maxRecDepth 100000 in
set_option maxHeartbeats 8000000 in
theorem loop_check {w : World} {mean : ExcName → Option Value} {mg mb : Str → Option Value} {dp un : Nat} {gd : Option (List Code)} {cn : Str} {a : Addr} {ccd : Value} {c1 c2 : Addr} {outer : List Env} {A₀ : Around} {base h₀ : Heap} {L : Addr} {T : List (Addr × Obj)} {s : Shared}
    {Q : Flow → Shared → Prop} {E : Value → Shared → Prop} {u : Str → Option Value} {ce ty td kn md hn sh rw b1 b2 b3 b4 b5 b6 b7 : Addr} {tc k1 k2 k3 k4 k5 k6 k7 k8 k9 : Tok} {c d k : Int} {td0 tm tl0 tf ts0 : Tok} {mo lab form : Str} {tys nums : List Value} {nm : Nat}
    (B : Below A₀ base outer h₀) (F : Fr h₀ L s.heap (kstB u [(Str.ofString "cells", Value.ref ce), (Str.ofString "types", Value.ref ty), (Str.ofString "made", Value.ref md), (Str.ofString "held_now", Value.ref hn), (Str.ofString "shown", Value.ref sh), (Str.ofString "rows", Value.ref rw)])) (X : (Mine.hd.heap_39 w.params).In h₀)
    (N : News h₀ L s.heap ((md, listOf tys.toArray nm) :: T))
    (T0 : Top Mine.hd.view_39 (looseW Mine.hd.view_39 []) mean mg mb h₀)
    (hd : dp + 20 < recursionLimit) (hu : un + 400 < cLine)
    (htys : tys.length ≤ 100) (hA : AttrsAt 31 T (Str.ofString "number") tys nums) (hI : IntsAre nums (rangeKs 1 tys.length))
    (hret : ∀ (u' : Str → Option Value) (h' : Heap) (tk' : Nat), Fr h₀ L h' (kstB u' [(Str.ofString "cells", Value.ref ce), (Str.ofString "types", Value.ref ty), (Str.ofString "made", Value.ref md), (Str.ofString "held_now", Value.ref hn), (Str.ofString "shown", Value.ref sh), (Str.ofString "rows", Value.ref rw)]) → News h₀ L h' ((md, listOf tys.toArray nm) :: T) → Q .next { s with heap := h', toks := tk' }) :
    wpAny (model PySem.Challenge.rw_pb0315_01.row.prog w) (ktrTop dp un gd cn lawScope L a ccd [(Str.ofString "name", c2), (Str.ofString "one", c1)] outer) (execs loopCheck (envX cn lawScope L a ccd [(Str.ofString "name", c2), (Str.ofString "one", c1)])) Q E s := by
  revert X; k_fill; intro X
  dsimp only [lawScope, loopCheck, lawLoop, lawBody, PySem.Challenge.pw_pb0315_01]
  (w_top off; k_steps)
  all_goals first
    | exact hret _ _ _ (fr_six (by k_asm) (by kst_all)) (kst_newsOf (by k_asm) (fun p hp => by first | exact .tail _ (.tail _ hp) | exact .tail _ hp))
    | (exfalso; (rename ¬ rangeKs _ _ = _ => hb9); exact hb9 (congrArg _ (by omega)))
end
section
local macro_rules | `(tactic| walk_at "zz12a") => `(tactic| skip)
noncomputable def loopHead : List Stmt := match lawLoop with
  | [a, b, c, d, _, _] => [a, b, c, d]
  | _ => []
theorem mn_ok {i : Int} (h0 : 0 ≤ i) (h1 : i < 2) : PyData.strOk (Txt.item (Str.ofString "MN") i) = true := by
  have h : i = 0 ∨ i = 1 := by omega
  rcases h with rfl | rfl <;> decide +kernel
theorem lab_ok {i : Int} (h0 : 0 ≤ i) (h1 : i < 4) : PyData.strOk ([Str.ofString "T", Str.ofString "T[]", Str.ofString "U", Str.ofString "v:"].getD i.toNat Str.empty) = true ∧ [Str.ofString "T", Str.ofString "T[]", Str.ofString "U", Str.ofString "v:"].getD i.toNat Str.empty ≠ Str.ofString "" := by
  have h : i = 0 ∨ i = 1 ∨ i = 2 ∨ i = 3 := by omega
  rcases h with rfl | rfl | rfl | rfl <;> decide +kernel
theorem form_ok {i : Int} (h0 : 0 ≤ i) (h1 : i < 4) : PyData.strOk ([Str.ofString "record", Str.ofString "array", Str.ofString "pointer", Str.ofString "proc"].getD i.toNat Str.empty) = true := by
  have h : i = 0 ∨ i = 1 ∨ i = 2 ∨ i = 3 := by omega
  rcases h with rfl | rfl | rfl | rfl <;> decide +kernel
local macro_rules | `(tactic| walk_at "subscriptTail") => `(tactic| (k_here; (with_reducible show wpAny _ _ (subscriptTail _ _ (Value.ref _) (Value.int _ _)) _ _ _); k_dflt (refine' item_strsA (by kmk_list) (by (repeat (first | exact StrsAre.nil | apply StrsAre.cons))) (by exact fmod_lo _ (by decide)) (by exact fmod_hi _ (by decide)) (by exact Int.lt_trans (fmod_hi _ (by decide)) (by decide)) ?_ (by with_unfolding_all rfl) (by (intro _; with_unfolding_all rfl)); k_whole; intro t'; (try dsimp only))))
local macro_rules | `(tactic| walk_at "subscriptTail") => `(tactic| (k_here; (with_reducible show wpAny _ _ (subscriptTail _ _ (Value.ref _) (Value.int _ _)) _ _ _); k_dflt (refine' item_led (by k_asm) (by k_mem) (by assumption) (by omega) (by assumption) ?_ (by with_unfolding_all rfl) (by (intro _; with_unfolding_all rfl)); (try dsimp only))))
set_option maxRecDepth 100000 in
set_option maxHeartbeats 8000000 in
theorem loop_head {w : World} {mean : ExcName → Option Value} {mg mb : Str → Option Value} {dp un : Nat} {gd : Option (List Code)} {cn : Str} {a : Addr} {ccd : Value} {c1 c2 : Addr} {outer : List Env} {A₀ : Around} {base h₀ : Heap} {L : Addr} {T : List (Addr × Obj)} {s : Shared}
    {Q : Flow → Shared → Prop} {E : Value → Shared → Prop} {u : Str → Option Value} {ce ty md hn sh rw : Addr} {k : Int} {ts0 : Tok} {rest : List Stmt} {cvs : List Value} {nc : Nat} {e : Int} {te : Tok}
    (B : Below A₀ base outer h₀) (F : Fr h₀ L s.heap (fun y => if y = Str.ofString "step" then some (Value.int k ts0) else kstB u [(Str.ofString "cells", Value.ref ce), (Str.ofString "types", Value.ref ty), (Str.ofString "made", Value.ref md), (Str.ofString "held_now", Value.ref hn), (Str.ofString "shown", Value.ref sh), (Str.ofString "rows", Value.ref rw)] y)) (X : (Mine.hd.heap_39 w.params).In h₀)
    (N : News h₀ L s.heap ((ce, listOf cvs.toArray nc) :: T))
    (T0 : Top Mine.hd.view_39 (looseW Mine.hd.view_39 []) mean mg mb h₀)
    (hd : dp + 20 < recursionLimit) (hu : un + 400 < cLine)
    (hk0 : 0 ≤ k) (hk1 : k < 100) (hci : cvs[k.toNat]? = some (Value.int e te))
    (hret : ∀ (u' : Str → Option Value) (d : Int) (mo lab form : Str) (td0 tm tl0 tf : Tok) (h' : Heap) (tk' : Nat), Fr h₀ L h' (kstB u' [(Str.ofString "form", Value.str form tf), (Str.ofString "label", Value.str lab tl0), (Str.ofString "module", Value.str mo tm), (Str.ofString "deed", Value.int d td0), (Str.ofString "step", Value.int k ts0), (Str.ofString "cells", Value.ref ce), (Str.ofString "types", Value.ref ty), (Str.ofString "made", Value.ref md), (Str.ofString "held_now", Value.ref hn), (Str.ofString "shown", Value.ref sh), (Str.ofString "rows", Value.ref rw)]) → News h₀ L h' ((ce, listOf cvs.toArray nc) :: T) → -2 ≤ d → d ≤ 3 → PyData.strOk form = true → PyData.strOk mo = true → PyData.strOk lab = true → lab ≠ Str.ofString "" →
       wpAny (model PySem.Challenge.rw_pb0315_01.row.prog w) (ktrTop dp un gd cn lawScope L a ccd [(Str.ofString "name", c2), (Str.ofString "one", c1)] outer) (execs rest (envX cn lawScope L a ccd [(Str.ofString "name", c2), (Str.ofString "one", c1)])) Q E { s with heap := h', toks := tk' }) :
    wpAny (model PySem.Challenge.rw_pb0315_01.row.prog w) (ktrTop dp un gd cn lawScope L a ccd [(Str.ofString "name", c2), (Str.ofString "one", c1)] outer) (execs (loopHead ++ rest) (envX cn lawScope L a ccd [(Str.ofString "name", c2), (Str.ofString "one", c1)])) Q E s := by
  revert X; k_fill; intro X
  dsimp only [lawScope, loopHead, lawLoop, lawBody, PySem.Challenge.pw_pb0315_01, List.cons_append, List.nil_append] at hret ⊢
  have x1 := fmod_lo (e.fdiv 5) (n := 4) (by decide)
  have x2 := fmod_hi (e.fdiv 5) (n := 4) (by decide)
  have x3 := fmod_lo e (n := 5) (by decide)
  have x4 := fmod_hi e (n := 5) (by decide)
  (w_top off; k_steps)
  all_goals exact hret _ _ _ _ _ _ _ _ _ _ _ (fr_six (by k_asm) (by kst_all)) (kst_newsOf (by k_asm) (fun p hp => .tail _ (.tail _ hp))) (by omega) (by omega) (form_ok (fmod_lo _ (by decide)) (fmod_hi _ (by decide))) (mn_ok (fmod_lo _ (by decide)) (fmod_hi _ (by decide))) (lab_ok (fmod_lo _ (by decide)) (fmod_hi _ (by decide))).1 (lab_ok (fmod_lo _ (by decide)) (fmod_hi _ (by decide))).2
end
section
noncomputable def armsIf (n s o f : List Stmt) : Stmt := match lawLoop with
  | [_, _, _, _, .If t1 _ [.If t2 _ [.If t3 _ _ p3] p2] p1, _] => .If t1 n [.If t2 s [.If t3 o f p3] p2] p1
  | _ => .If (.Name (Str.ofString "") ⟨0, 0, 0, 0⟩) [] [] ⟨0, 0, 0, 0⟩
theorem lawLoop_eq : lawLoop = loopHead ++ (armsIf armNew armString armObj armFind :: loopCheck) := rfl
set_option maxRecDepth 100000 in
set_option maxHeartbeats 8000000 in
theorem arms_split {w : World} {mean : ExcName → Option Value} {mg mb : Str → Option Value} {dp un : Nat} {gd : Option (List Code)} {cn : Str} {a : Addr} {ccd : Value} {c1 c2 : Addr} {outer : List Env} {A₀ : Around} {base h₀ : Heap} {L : Addr} {T : List (Addr × Obj)} {s : Shared}
    {Q : Flow → Shared → Prop} {E : Value → Shared → Prop} {u : Str → Option Value} {ce ty md hn sh rw : Addr} {k : Int} {ts0 : Tok} {d : Int} {td0 tm tl0 tf : Tok} {mo lab form : Str} {bn bs bo bf : List Stmt}
    (B : Below A₀ base outer h₀) (F : Fr h₀ L s.heap (kstB u [(Str.ofString "form", Value.str form tf), (Str.ofString "label", Value.str lab tl0), (Str.ofString "module", Value.str mo tm), (Str.ofString "deed", Value.int d td0), (Str.ofString "step", Value.int k ts0), (Str.ofString "cells", Value.ref ce), (Str.ofString "types", Value.ref ty), (Str.ofString "made", Value.ref md), (Str.ofString "held_now", Value.ref hn), (Str.ofString "shown", Value.ref sh), (Str.ofString "rows", Value.ref rw)])) (X : (Mine.hd.heap_39 w.params).In h₀)
    (N : News h₀ L s.heap ([]))
    (T0 : Top Mine.hd.view_39 (looseW Mine.hd.view_39 []) mean mg mb h₀)
    (hd : dp + 20 < recursionLimit) (hu : un + 400 < cLine)
    (hd1 : -2 ≤ d) (hd2 : d ≤ 3)
    (h1 : d ≤ 0 → ∀ (Q' : Flow → Shared → Prop) (tk' : Nat), (∀ s', Q .next s' → Q' .next s') → wpAny (model PySem.Challenge.rw_pb0315_01.row.prog w) (ktrTop dp un gd cn lawScope L a ccd [(Str.ofString "name", c2), (Str.ofString "one", c1)] outer) (execs bn (envX cn lawScope L a ccd [(Str.ofString "name", c2), (Str.ofString "one", c1)])) Q' E { s with toks := tk' })
    (h2 : d = 1 → ∀ (Q' : Flow → Shared → Prop) (tk' : Nat), (∀ s', Q .next s' → Q' .next s') → wpAny (model PySem.Challenge.rw_pb0315_01.row.prog w) (ktrTop dp un gd cn lawScope L a ccd [(Str.ofString "name", c2), (Str.ofString "one", c1)] outer) (execs bs (envX cn lawScope L a ccd [(Str.ofString "name", c2), (Str.ofString "one", c1)])) Q' E { s with toks := tk' })
    (h3 : d = 2 → ∀ (Q' : Flow → Shared → Prop) (tk' : Nat), (∀ s', Q .next s' → Q' .next s') → wpAny (model PySem.Challenge.rw_pb0315_01.row.prog w) (ktrTop dp un gd cn lawScope L a ccd [(Str.ofString "name", c2), (Str.ofString "one", c1)] outer) (execs bo (envX cn lawScope L a ccd [(Str.ofString "name", c2), (Str.ofString "one", c1)])) Q' E { s with toks := tk' })
    (h4 : d = 3 → ∀ (Q' : Flow → Shared → Prop) (tk' : Nat), (∀ s', Q .next s' → Q' .next s') → wpAny (model PySem.Challenge.rw_pb0315_01.row.prog w) (ktrTop dp un gd cn lawScope L a ccd [(Str.ofString "name", c2), (Str.ofString "one", c1)] outer) (execs bf (envX cn lawScope L a ccd [(Str.ofString "name", c2), (Str.ofString "one", c1)])) Q' E { s with toks := tk' }) :
    wpAny (model PySem.Challenge.rw_pb0315_01.row.prog w) (ktrTop dp un gd cn lawScope L a ccd [(Str.ofString "name", c2), (Str.ofString "one", c1)] outer) (exec (armsIf bn bs bo bf) (envX cn lawScope L a ccd [(Str.ofString "name", c2), (Str.ofString "one", c1)])) Q E s := by
  revert X; k_fill; intro X
  dsimp only [lawScope, armsIf, lawLoop, lawBody, PySem.Challenge.pw_pb0315_01] at h1 h2 h3 h4 ⊢
  have hq : d < 0 ∨ d = 0 ∨ d = 1 ∨ d = 2 ∨ d = 3 := by omega
  rcases hq with hq | hq | hq | hq | hq
  all_goals (w_top off; k_steps)
  · refine h1 (by omega) _ _ fun s' h => ?_
    (w_top off; k_steps)
    all_goals exact h
  · refine h1 (by omega) _ _ fun s' h => ?_
    (w_top off; k_steps)
    all_goals exact h
  · refine h2 (by omega) _ _ fun s' h => ?_
    (w_top off; k_steps)
    all_goals exact h
  · refine h3 (by omega) _ _ fun s' h => ?_
    (w_top off; k_steps)
    all_goals exact h
  · refine h4 (by omega) _ _ fun s' h => ?_
    (w_top off; k_steps)
    all_goals exact h
end
section
/-- what is known and what the law holds: the same pairs, in the same order -/
inductive PairsAt (w : World) (T : List (Addr × Obj)) (n : Nat) : List (List Str × Addr × Value) → List (List Str × Addr × Value) → Prop
  | nil : PairsAt w T n [] []
  | cons {mo lab : Str} {kt kt2 t : Addr} {j : Int} {tj tt : Tok} {ok ok2 : Obj} {xs ys : List (List Str × Addr × Value)} :
      PyData.strOk mo = true → PyData.strOk lab = true → (kt, ok) ∈ T → TupKeyObj (PySem.strKind PySem.Challenge.rw_pb0315_01.row.prog w) [mo, lab] ok → (kt2, ok2) ∈ T → TupKeyObj (PySem.strKind PySem.Challenge.rw_pb0315_01.row.prog w) [mo, lab] ok2 →
      AttrAt 31 T t (Str.ofString "number") (Value.int (j + 1) tt) → 0 ≤ j → j < (n : Int) → PairsAt w T n xs ys → PairsAt w T n (([mo, lab], kt, Value.ref t) :: xs) (([mo, lab], kt2, Value.int j tj) :: ys)
theorem PairsAt.mono {w : World} {T T' : List (Addr × Obj)} {n n' : Nat} (hs : ∀ p ∈ T, p ∈ T') (hn : n ≤ n') : ∀ {xs ys : List (List Str × Addr × Value)}, PairsAt w T n xs ys → PairsAt w T' n' xs ys
  | _, _, .nil => .nil
  | _, _, .cons a b c d e f g h i r => .cons a b (hs _ c) d (hs _ e) f (g.mono hs) h (by omega) (r.mono hs hn)
theorem PairsAt.keys1 {w : World} {T : List (Addr × Obj)} {n : Nat} : ∀ {xs ys : List (List Str × Addr × Value)}, PairsAt w T n xs ys → KKeys w T xs
  | _, _, .nil => fun _ h => nomatch h
  | _, _, .cons a b c d e f g h i r => fun x hx => by
    rcases List.mem_cons.mp hx with rfl | hx
    · exact ⟨_, c, d⟩
    · exact r.keys1 x hx
theorem PairsAt.keys2 {w : World} {T : List (Addr × Obj)} {n : Nat} : ∀ {xs ys : List (List Str × Addr × Value)}, PairsAt w T n xs ys → KKeys w T ys
  | _, _, .nil => fun _ h => nomatch h
  | _, _, .cons a b c d e f g h i r => fun x hx => by
    rcases List.mem_cons.mp hx with rfl | hx
    · exact ⟨_, e, f⟩
    · exact r.keys2 x hx
theorem PairsAt.length {w : World} {T : List (Addr × Obj)} {n : Nat} : ∀ {xs ys : List (List Str × Addr × Value)}, PairsAt w T n xs ys → xs.length = ys.length
  | _, _, .nil => rfl
  | _, _, .cons _ _ _ _ _ _ _ _ _ r => congrArg (· + 1) r.length
theorem PairsAt.some {w : World} {T : List (Addr × Obj)} {n : Nat} {k : List Str} : ∀ {xs ys : List (List Str × Addr × Value)}, PairsAt w T n xs ys → (atKey xs k).isSome = (atKey ys k).isSome
  | _, _, .nil => rfl
  | _, _, .cons (mo := mo) (lab := lab) _ _ _ _ _ _ _ _ _ r => by
    have := r.some (k := k)
    by_cases h : [mo, lab] = k
    · simp [atKey, List.find?_cons, h]
    · simpa [atKey, List.find?_cons, h] using this
theorem PairsAt.append {w : World} {T : List (Addr × Obj)} {n : Nat} {xs' ys' : List (List Str × Addr × Value)} (h' : PairsAt w T n xs' ys') : ∀ {xs ys : List (List Str × Addr × Value)}, PairsAt w T n xs ys → PairsAt w T n (xs ++ xs') (ys ++ ys')
  | _, _, .nil => h'
  | _, _, .cons a b c d e f g h i r => .cons a b c d e f g h i (PairsAt.append h' r)
theorem PairsAt.put {w : World} {T : List (Addr × Obj)} {n : Nat} {mo lab : Str} {t : Addr} {j : Int} {tj tt : Tok} (hm : AttrAt 31 T t (Str.ofString "number") (Value.int (j + 1) tt)) (h0 : 0 ≤ j) (h1 : j < (n : Int)) :
    ∀ {xs ys : List (List Str × Addr × Value)}, PairsAt w T n xs ys → PairsAt w T n (xs.map (putAt [mo, lab] (Value.ref t))) (ys.map (putAt [mo, lab] (Value.int j tj)))
  | _, _, .nil => .nil
  | _, _, .cons (mo := mo') (lab := lab') a b c d e f g h i r => by
    have ih := PairsAt.put (mo := mo) (lab := lab) (tj := tj) hm h0 h1 r
    by_cases q : [mo', lab'] = [mo, lab]
    · simp only [List.map_cons, putAt, if_pos q]
      exact .cons a b c d e f hm h0 h1 ih
    · simp only [List.map_cons, putAt, if_neg q]
      exact .cons a b c d e f g h i ih
theorem PairsAt.stored {w : World} {T : List (Addr × Obj)} {n : Nat} {mo lab : Str} {kt kt2 t : Addr} {j : Int} {tj tt : Tok} {ok ok2 : Obj} {xs ys : List (List Str × Addr × Value)} (h : PairsAt w T n xs ys)
    (a : PyData.strOk mo = true) (b : PyData.strOk lab = true) (c : (kt, ok) ∈ T) (d : TupKeyObj (PySem.strKind PySem.Challenge.rw_pb0315_01.row.prog w) [mo, lab] ok) (e : (kt2, ok2) ∈ T) (f : TupKeyObj (PySem.strKind PySem.Challenge.rw_pb0315_01.row.prog w) [mo, lab] ok2)
    (hm : AttrAt 31 T t (Str.ofString "number") (Value.int (j + 1) tt)) (h0 : 0 ≤ j) (h1 : j < (n : Int)) :
    PairsAt w T n (storedH xs [mo, lab] kt (Value.ref t)) (storedH ys [mo, lab] kt2 (Value.int j tj)) := by
  have hs := h.some (k := [mo, lab])
  unfold storedH
  by_cases q : (atKey ys [mo, lab]).isSome = true
  · rw [if_pos (hs.trans q), if_pos q]
    exact h.put hm h0 h1
  · rw [if_neg (fun z => q (hs.symm.trans z)), if_neg q]
    exact PairsAt.append (.cons a b c d e f hm h0 h1 .nil) h
theorem storedH_len {xs : List (List Str × Addr × Value)} {k : List Str} {a : Addr} {v : Value} : (storedH xs k a v).length ≤ xs.length + 1 := by
  unfold storedH
  split
  · rw [List.length_map]; omega
  · rw [List.length_append]; simp
theorem rangeKs_succ {a : Int} {n : Nat} : rangeKs a (n + 1) = rangeKs a n ++ [a + (n : Int)] := by
  simp [rangeKs, List.range_succ]
noncomputable abbrev sixOf (ce ty md hn sh rw : Addr) : List (Str × Value) := [(Str.ofString "cells", Value.ref ce), (Str.ofString "types", Value.ref ty), (Str.ofString "made", Value.ref md), (Str.ofString "held_now", Value.ref hn), (Str.ofString "shown", Value.ref sh), (Str.ofString "rows", Value.ref rw)]
/-- the twelve places of the law's own things -/
noncomputable abbrev twelve (ty td kn md hn ce sh sd ob rw c1 c2 : Addr) : List Addr := [ty, td, kn, md, hn, ce, sh, sd, ob, rw, c1, c2]
/-- what holds ahead of the turn i -/
structure InvB (w : World) (cvs : List Value) (b2 : Addr) (i : Nat) (tys us : List Value) (c : Int) (xs ys : List (List Str × Addr × Value)) (ko ho o1 o2 : Obj) (adr : List Addr) (tl : List (Addr × Obj)) : Prop where
  hc : c = (tys.length : Int)
  h7 : 7 ≤ tys.length
  h7' : tys.length ≤ 7 + i
  nums : ∃ nums, AttrsAt 31 tl (Str.ofString "number") tys nums ∧ IntsAre nums (rangeKs 1 tys.length)
  kob : KObj w ko xs
  hob : KObj w ho ys
  prs : PairsAt w tl tys.length xs ys
  xsl : xs.length ≤ i
  obs : ∃ rs, ObjsAt tl us rs
  usl : us.length ≤ i
  d1 : ∃ v, o1.data = .cell v
  d2 : ∃ v, o2.data = .cell v
  b2n : ∃ vb, AttrAt 31 tl b2 (Str.ofString "number") (Value.int 2 vb)
  off : OwnOff tl adr
def Inv (w : World) (cvs : List Value) (nc : Nat) (ce ty td kn md hn sh sd ob im rw c1 c2 : Addr) (b1 b2 b3 b4 b5 b6 b7 : Addr) (k1 k2 k3 k4 k5 k6 k7 k8 k9 q1 q2 q3 q4 p1 p2 : Tok) (i : Nat) (m : Str → Option Value) (nx : List (Addr × Obj)) : Prop :=
  ∃ (u : Str → Option Value) (tys us : List Value) (c : Int) (tc : Tok) (nm no nr : Nat) (xs ys : List (List Str × Addr × Value)) (ko ho o1 o2 : Obj) (tl : List (Addr × Obj)),
    InvB w cvs b2 i tys us c xs ys ko ho o1 o2 (twelve ty td kn md hn ce sh sd ob rw c1 c2) tl ∧ m = kstB u (sixOf ce ty md hn sh rw) ∧
    nx = (ty, instObj 116 td) :: (td, dictOf (tsEs w c kn b1 b2 b3 b4 b5 b6 b7 tc k1 k2 k3 k4 k5 k6 k7 k8 k9) 9) :: (kn, ko) :: (md, listOf tys.toArray nm) :: (hn, ho) :: (ce, listOf cvs.toArray nc) :: (sh, instObj 80 sd) :: (sd, dictOf (ifEs w ob im q1 q2 q3 q4 p1 p2) 4) :: (ob, listOf us.toArray no) :: (rw, listOf us.toArray nr) :: (c1, o1) :: (c2, o2) :: tl
theorem all_app {new T : List (Addr × Obj)} {P : Addr × Obj → Prop} (h1 : ∀ p ∈ new, P p) (h2 : ∀ p ∈ T, P p) : ∀ p ∈ new ++ T, P p := fun p hp => (List.mem_append.mp hp).elim (h1 p) (h2 p)
noncomputable def lawFor : Stmt := match lawBody with
  | [_, _, _, _, _, _, _, _, _, f, _, _, _, _] => f
  | _ => .If (.Name (Str.ofString "") ⟨0, 0, 0, 0⟩) [] [] ⟨0, 0, 0, 0⟩
noncomputable def lawInit : List Stmt := match lawBody with
  | [a, b, c, d, e, f, g, h, i, _, _, _, _, _] => [a, b, c, d, e, f, g, h, i]
  | _ => []
noncomputable def lawTail : List Stmt := match lawBody with
  | [_, _, _, _, _, _, _, _, _, _, a, b, c, d] => [a, b, c, d]
  | _ => []
end
section
/-- a dict of which only the keys, in their order, are seen -/
def RawD (h : Heap) (d : Addr) (ks : List Value) (ep : Nat) : Prop :=
  ∃ o es, h.get? d = some o ∧ o.ExactDict ∧ o.data = .dict es ep ∧ es.toList.map (·.key) = ks
theorem RawD.at {h h' : Heap} {d : Addr} {ks : List Value} {ep : Nat} (x : RawD h d ks ep) (e : ∀ o, h.get? d = some o → h'.get? d = some o) : RawD h' d ks ep :=
  let ⟨o, es, ho, r⟩ := x; ⟨o, es, e _ ho, r⟩
theorem RawD.lt {h : Heap} {d : Addr} {ks : List Value} {ep : Nat} (x : RawD h d ks ep) : d < h.objs.size := let ⟨_, _, ho, _⟩ := x; Heap.lt_size ho
theorem RawD.typ {s : Shared} {d : Addr} {ks : List Value} {ep : Nat} (x : RawD s.heap d ks ep) : s.TypeIs (.ref d) "dict" := let ⟨o, _, ho, hc, _⟩ := x; ⟨o, ho, hc.1⟩
theorem RawD.get {es : Array DictEntry} {ks : List Value} (h : es.toList.map (·.key) = ks) {i : Nat} (hi : i < es.size) : ks[i]? = some es[i].key := by
  rw [← h, List.getElem?_map, Array.getElem?_toList, Array.getElem?_eq_getElem hi]; rfl
section
variable {prog : Program} {w : World} {A : Around} {E : Value → Shared → Prop} {s : Shared}
theorem raw_iter {d : Addr} {ks : List Value} {ep : Nat} {Q : Value → Shared → Prop} (hd : (d == sysModules) = false) (hm : RawD s.heap d ks ep)
    (hQ : Q (.ref s.heap.objs.size) { s with heap := s.heap.push { cls := .type "dict_keyiterator", data := .fields #[.ref d, .int 0 0, .int ks.length 0, .int ep 0] } }) :
    wpAny (model prog w) A (pyIter (.ref d)) Q E s := by
  have hT := hm.typ
  obtain ⟨o, es, ho, hc, hdat, hk⟩ := hm
  have hsz : es.size = ks.length := by rw [← hk]; simp
  refine wpAny_pyIter_slot hT F.slot_dict_iter (wpAny_call_entry F.slot_dict_iter hT F.entry_dict_iter ?_ (F.args_dict_iter_1 _))
  unfold Builtin.«dict.__iter__» Builtin.Dict.dictSlotNone
  refine wpAny_bind (wpAny_bind (wpAny_notOrdered_dict hT (wpAny_pure ?_)))
  show wpAny _ _ (Builtin.Dict.showsAll d >>= _) _ _ s
  unfold Builtin.Dict.showsAll
  rw [if_neg (by rw [hd]; exact Bool.false_ne_true)]
  refine wpAny_bind (wpAny_pure (wpAny_bind (wpAny_dictEntries ho hdat (wpAny_bind (wpAny_dictEpoch ho hdat ?_)))))
  refine wpAny_bind (wpAny_newObj_type (wpAny_pure ⟨_, rfl, "dict_keyiterator", _, ⟨_, Heap.get?_push_size _ rfl, rfl⟩, F.slot_dict_keyiterator_next.lookup, ?_⟩))
  simpa [rawInt, hsz] using hQ
theorem raw_item {it d : Addr} {i ep : Nat} {ks : List Value} {v : Value} {Q : Option Value → Shared → Prop} (hit : s.heap.IsKeyIter it d i ks.length ep) (hm : RawD s.heap d ks ep) (hx : ks[i]? = some v)
    (hQ : ∀ h', h'.IsKeyIter it d (i + 1) ks.length ep → Heap.SameBut it s.heap h' → Q (some v) { s with heap := h' }) : wpAny (model prog w) A (pyNext (.ref it)) Q E s := by
  obtain ⟨o, ho, hc, hd⟩ := id hit
  obtain ⟨od, es, hod, hcd, hdd, hk⟩ := hm
  have hsz : es.size = ks.length := by rw [← hk]; simp
  have hlt : i < es.size := by rw [hsz]; exact (List.getElem?_eq_some_iff.mp hx).1
  have hkey : es[i].key = v := Option.some.inj ((RawD.get hk hlt).symm.trans hx)
  unfold pyNext
  refine wpAny_bind (wpAny_attempt (wpAny_callSpecial?_slot (name := Str.ofString "__next__") hit.typeIs F.slot_dict_keyiterator_next
    (wpAny_call_entry F.slot_dict_keyiterator_next hit.typeIs F.entry_dict_keyiterator_next ?_ (F.args_dict_keyiterator_next_1 _))))
  refine wpAny_bind (wpAny_pure (wpAny_bind (wpAny_bind ?_)))
  first | refine wpAny_bind (wpAny_typeNameOfWhole_keyiter hit.typeIs (wpAny_pure ?_)) | refine wpAny_bind (wpAny_typeNameOf_keyiter hit.typeIs (wpAny_pure ?_))
  refine wpAny_bind (wpAny_fieldsOf ho hd ?_)
  have hown : Builtin.Dict_items.ownsTuple "dict_keyiterator" = false := by decide
  simp only [hown, Bool.false_eq_true, if_false]
  show wpAny _ _ (if (Value.ref d == Value.none) = true then _ else _) _ _ s
  rw [if_neg (show ¬ ((Value.ref d == Value.none) = true) from Bool.false_ne_true)]
  refine wpAny_bind (wpAny_pure (wpAny_bind (wpAny_dictEntries hod hdd ?_)))
  rw [if_neg (by rw [hsz]; simp)]
  refine wpAny_bind (wpAny_pure (wpAny_bind (wpAny_dictEpoch hod hdd ?_)))
  rw [if_neg (by simp)]
  refine wpAny_pure ?_
  simp only [show ¬ ((i : Int) < 0) from by omega, if_false, Int.toNat_natCast, Array.getElem?_eq_getElem hlt]
  refine wpAny_bind ?_
  first | refine wpAny_bind (wpAny_typeNameOfWhole_keyiter hit.typeIs (wpAny_pure ?_)) | refine wpAny_bind (wpAny_typeNameOf_keyiter hit.typeIs (wpAny_pure ?_))
  refine wpAny_bind (wpAny_isOneOf_keyiter hit.typeIs ?_)
  show wpAny _ _ (setField (.ref it) 1 (rawInt ((i : Int) + 1)) >>= _) _ _ s
  refine wpAny_bind (wpAny_setField ho hd (by simp) ?_)
  have hit' : (s.heap.update it (Obj.mapFields (·.setIfInBounds 1 (rawInt ((i : Int) + 1))))).IsKeyIter it d (i + 1) ks.length ep :=
    ⟨_, Heap.get?_update_self _ ho (Obj.isFreed_of_fields (Obj.data_mapFields hd _)), (Obj.cls_mapFields ..).trans hc, by rw [Obj.data_mapFields hd]; simp [rawInt]⟩
  refine wpAny_bind (wpAny_holding (wpAny_bind (wpAny_isOneOf_keyiter (s := { s with heap := s.heap.update it (Obj.mapFields (·.setIfInBounds 1 (rawInt ((i : Int) + 1)))) }) hit'.typeIs ?_)))
  show wpAny _ _ (pure es[i].key) _ _ _
  rw [hkey]
  exact wpAny_pure (wpAny_pure ⟨_, rfl, wpAny_pure (hQ _ hit' (Heap.SameBut.update ..))⟩)
theorem raw_end {it d : Addr} {i ep : Nat} {ks : List Value} {Q : Option Value → Shared → Prop} (hh : A.handled = none) (hit : s.heap.IsKeyIter it d i ks.length ep) (hm : RawD s.heap d ks ep) (hx : ks.length ≤ i)
    (hQ : ∀ h', Heap.ExtBut it s.heap h' → Q none { s with heap := h' }) : wpAny (model prog w) A (pyNext (.ref it)) Q E s := by
  obtain ⟨o, ho, hc, hd⟩ := id hit
  obtain ⟨od, es, hod, hcd, hdd, hk⟩ := hm
  have hsz : es.size = ks.length := by rw [← hk]; simp
  unfold pyNext
  refine wpAny_bind (wpAny_attempt (wpAny_callSpecial?_slot (name := Str.ofString "__next__") hit.typeIs F.slot_dict_keyiterator_next
    (wpAny_call_entry F.slot_dict_keyiterator_next hit.typeIs F.entry_dict_keyiterator_next ?_ (F.args_dict_keyiterator_next_1 _))))
  refine wpAny_bind (wpAny_pure (wpAny_bind (wpAny_bind ?_)))
  first | refine wpAny_bind (wpAny_typeNameOfWhole_keyiter hit.typeIs (wpAny_pure ?_)) | refine wpAny_bind (wpAny_typeNameOf_keyiter hit.typeIs (wpAny_pure ?_))
  refine wpAny_bind (wpAny_fieldsOf ho hd ?_)
  have hown : Builtin.Dict_items.ownsTuple "dict_keyiterator" = false := by decide
  simp only [hown, Bool.false_eq_true, if_false]
  show wpAny _ _ (if (Value.ref d == Value.none) = true then _ else _) _ _ s
  rw [if_neg (show ¬ ((Value.ref d == Value.none) = true) from Bool.false_ne_true)]
  refine wpAny_bind (wpAny_pure (wpAny_bind (wpAny_dictEntries hod hdd ?_)))
  rw [if_neg (by rw [hsz]; simp)]
  refine wpAny_bind (wpAny_pure (wpAny_bind (wpAny_dictEpoch hod hdd ?_)))
  rw [if_neg (by simp)]
  refine wpAny_pure ?_
  have hge : es.size ≤ i := by rw [hsz]; exact hx
  simp only [show ¬ ((i : Int) < 0) from by omega, if_false, Int.toNat_natCast, Array.getElem?_eq_none hge]
  refine wpAny_bind ?_
  first | refine wpAny_bind (wpAny_typeNameOfWhole_keyiter hit.typeIs (wpAny_pure ?_)) | refine wpAny_bind (wpAny_typeNameOf_keyiter hit.typeIs (wpAny_pure ?_))
  show wpAny _ _ (setField (.ref it) 0 .none >>= _) _ _ s
  refine wpAny_bind (wpAny_setField ho hd (by simp) ?_)
  show wpAny _ _ (newExc (.type "StopIteration") [] >>= _) _ _ _
  refine wpAny_bind ?_
  simp only [newExc, newTuple]
  refine wpAny_bind (wpAny_newObj_type ?_ (by size_fits))
  refine wpAny_bind (m := firstArgMember _ _) (wpAny_of_eq (a := Value.none) (by first | rfl | (simp only [firstArgMember]; rfl)) ?_)
  refine wpAny_newObj_type ?_ (by size_fits)
  simp only [raiseNew]
  refine wpAny_bind (wpAny_handled ?_)
  rw [show A.in1.handled = none from hh]
  refine wpAny_bind (wpAny_pure (wpAny_throw ?_))
  refine wpAny_bind (wpAny_isInstance (T := "StopIteration") (b := true) ⟨_, Heap.get?_push_size _ rfl, rfl⟩ isSubtype_stop ?_)
  exact wpAny_pure (hQ _ (((Heap.SameBut.update ..).extBut.push _).push _))
theorem raw_walks (hh : A.handled = none) (I d : Addr) (hne : d ≠ I) (ks : List Value) (ep : Nat) :
    Walks prog w A I [I, d] [I] ks.length (fun i v => ks[i]? = some v) (fun i h => h.IsKeyIter I d i ks.length ep ∧ RawD h d ks ep) where
  sub := fun b hb => by simp at hb; simp [hb]
  frame := fun _ _ _ st hk => ⟨st.1.at fun o e => hk I (by simp) o e, st.2.at fun o e => hk d (by simp) o e⟩
  item := fun i s Q E hi st hQ => by
    refine raw_item st.1 st.2 (v := ks[i]) (by simp [hi]) fun h' hit' hs' => ?_
    exact hQ _ h' s.toks (by simp [hi]) ⟨hit', st.2.at fun o e => hs'.extBut d o hne e⟩ fun b o hb e => hs'.extBut b o (fun h => hb (by simp [h])) e
  done := fun s Q E st hQ => raw_end hh st.1 st.2 (Nat.le_refl _) fun h' he' => hQ h' s.toks fun b o hb e => he' b o (fun h => hb (by simp [h])) e
  self := fun _ _ _ _ st hQ => wpAny_pyIter_keyiter st.1 hQ
theorem raw_src {d : Addr} {ks : List Value} {ep : Nat} (lo : (d == sysModules) = false) : KdlSrc prog w "dict" d d ks.length (fun i v => ks[i]? = some v) (fun h => RawD h d ks ep) where
  type := fun _ hm => hm.typ
  there := fun _ hm => ⟨hm.lt, hm.lt⟩
  keep := fun _ _ hm hk => hm.at fun o e => hk d (.inl rfl) o e
  notList := by decide
  notTuple := by decide
  hint := fun _ _ _ _ hm hq => kdl_hint_dict hm.typ hq
  iter := fun _ _ hh hm => ⟨_, _, (fun _ _ hq => raw_iter lo hm hq), raw_walks hh _ d (Nat.ne_of_lt hm.lt) ks ep, ⟨⟨_, Heap.get?_push_size _ rfl, rfl, rfl⟩, hm.at fun o e => Heap.get?_push_of_some _ e⟩⟩
end
end
section
/-- a tree of questions, answered -/
noncomputable def evalT {α : Type} (lt : Nat → Nat → Bool) : KasT α → α
  | .ret a => a
  | .ask i j k => evalT lt (k (lt i j))
/-- a tree that asks about places below n alone -/
noncomputable def okT {α : Type} (n : Nat) (P : α → Prop) : KasT α → Prop
  | .ret a => P a
  | .ask i j k => i < n ∧ j < n ∧ ∀ b, okT n P (k b)
theorem okT.bind {α β : Type} {n : Nat} {P : α → Prop} {R : β → Prop} {f : α → KasT β} (hf : ∀ a, P a → okT n R (f a)) : ∀ {t : KasT α}, okT n P t → okT n R (t.bind f)
  | .ret a, h => hf a h
  | .ask _ _ _, ⟨h1, h2, h3⟩ => ⟨h1, h2, fun b => okT.bind hf (h3 b)⟩
theorem okT.eval {α : Type} {n : Nat} {P : α → Prop} {lt : Nat → Nat → Bool} : ∀ {t : KasT α}, okT n P t → P (evalT lt t)
  | .ret _, h => h
  | .ask i j k, ⟨_, _, h3⟩ => okT.eval (n := n) (P := P) (t := k (lt i j)) (h3 _)
theorem kas_det {α : Type} {cmp : Nat → Nat → (Bool → Shared → Prop) → Shared → Prop} {n : Nat} {lt : Nat → Nat → Bool} {J : Shared → Prop}
    (h : ∀ i j C s, i < n → j < n → J s → (∀ s', J s' → C (lt i j) s') → cmp i j C s) {P : α → Prop} {Q : α → Shared → Prop} : ∀ {t : KasT α} {s : Shared}, okT n P t → J s → (∀ s', J s' → Q (evalT lt t) s') → t.kasWp cmp Q s
  | .ret _, _, _, hj, hq => hq _ hj
  | .ask _ _ _, _, ⟨h1, h2, h3⟩, hj, hq => h _ _ _ _ h1 h2 hj fun _ hj' => kas_det h (h3 _) hj' hq
def AllB (n : Nat) (p : Array Nat) : Prop := 0 < n ∧ ∀ x ∈ p, x < n
theorem AllB.get {n : Nat} {p : Array Nat} (h : AllB n p) (i : Nat) : p.getD i 0 < n := by
  by_cases hi : i < p.size
  · have e : p.getD i 0 = p[i] := by simp [Array.getD, hi]
    rw [e]
    exact h.2 _ (Array.getElem_mem hi)
  · have e : p.getD i 0 = 0 := by simp [Array.getD, hi]
    rw [e]
    exact h.1
theorem AllB.rev {n : Nat} {p : Array Nat} (h : AllB n p) (i j : Nat) : AllB n (kas_rev p i j) := ⟨h.1, fun x hx => h.2 x ((mirror_perm p i j _).mem_iff.mp hx)⟩
theorem AllB.bub {n : Nat} {p : Array Nat} (h : AllB n p) (i j : Nat) : AllB n (bubble p i j) := ⟨h.1, fun x hx => h.2 x ((bubble_perm p i j).mem_iff.mp hx)⟩
theorem ok_asc {n : Nat} {p : Array Nat} (h : AllB n p) : ∀ (f m : Nat), okT n (fun _ => True) (kas_asc p f m)
  | 0, _ => trivial
  | f + 1, m => ⟨h.get _, h.get _, fun b => by
    cases b with
    | true => exact trivial
    | false => exact ok_asc h f (m + 1)⟩
theorem ok_desc {n : Nat} : ∀ (f : Nat) {p : Array Nat} (m q : Nat), AllB n p → okT n (fun r => AllB n r.1) (kas_desc f p m q)
  | 0, _, _, _, h => h
  | f + 1, p, m, q, h => ⟨h.get _, h.get _, fun b => by
    cases b with
    | true =>
      show okT n _ (if q > 0 then kas_desc f (kas_rev p (m - (q + 1)) m) (m + 1) 0 else kas_desc f p (m + 1) 0)
      split
      · exact ok_desc f _ _ (h.rev _ _)
      · exact ok_desc f _ _ h
    | false =>
      refine ⟨h.get _, h.get _, fun d => ?_⟩
      cases d with
      | true => exact h
      | false => exact ok_desc f _ _ h⟩
theorem ok_tail3 {n : Nat} {p : Array Nat} (h : AllB n p) (m r : Nat) : okT n (fun r => AllB n r.2) (kas_tail3 m r p) := by
  unfold kas_tail3
  refine okT.bind (P := fun _ => True) (fun a _ => ?_) (ok_asc (h.rev _ _) _ _)
  exact h.rev _ _
theorem ok_descPart {n : Nat} {p : Array Nat} (h : AllB n p) (m r : Nat) : okT n (fun r => AllB n r.2) (kas_descPart m r p) := by
  unfold kas_descPart
  refine okT.bind (fun a ha => ?_) (ok_desc _ _ _ h)
  split
  · exact ok_tail3 (AllB.rev ha _ _) _ _
  · exact ok_tail3 ha _ _
theorem ok_count {n : Nat} {p : Array Nat} (h : AllB n p) (r : Nat) : okT n (fun r => AllB n r.2) (kas_count r p) := by
  unfold kas_count
  refine okT.bind (fun a _ => ?_) (ok_asc h _ _)
  split
  · exact h
  · split
    · refine ⟨h.get _, h.get _, fun b => ?_⟩
      cases b with
      | true => exact h
      | false => exact ok_descPart (h.rev _ _) _ _
    · exact ok_descPart h _ _
theorem ok_place {n : Nat} {p : Array Nat} (h : AllB n p) (k : Nat) : ∀ (f l r : Nat), okT n (fun _ => True) (kas_place p k f l r)
  | 0, _, _ => trivial
  | f + 1, l, r => by
    unfold kas_place
    split
    · exact trivial
    · refine ⟨h.get _, h.get _, fun b => ?_⟩
      cases b with
      | true => exact ok_place h k f _ _
      | false => exact ok_place h k f _ _
theorem ok_bin {n : Nat} : ∀ (f : Nat) {p : Array Nat} (k : Nat), AllB n p → okT n (fun r => AllB n r) (kas_bin f p k)
  | 0, _, _, h => h
  | f + 1, p, k, h => by
    unfold kas_bin
    exact okT.bind (fun l _ => ok_bin f _ (h.bub _ _)) (ok_place h k _ _ _)
theorem ok_sort {n : Nat} (h0 : 0 < n) : okT n (fun r => AllB n r) (kas_sort n) := by
  unfold kas_sort
  refine okT.bind (fun r hr => ?_) (ok_count (p := List.toArray (List.range n)) ⟨h0, fun x hx => by simpa using hx⟩ n)
  split
  · exact ok_bin _ _ hr
  · exact hr
/-- pairs in the order of texts -/
noncomputable def lexK : List Str → List Str → Bool
  | [a, b], [c, d] => if a = c then (if b = d then false else decide (b.cps.toList < d.cps.toList)) else decide (a.cps.toList < c.cps.toList)
  | _, _ => false
/-- the places of the sorted keys -/
noncomputable def permK (ks : List (List Str)) : List Nat :=
  if ks.length < 2 then List.range ks.length else (evalT (fun i j => lexK (ks.getD i []) (ks.getD j [])) (kas_sort ks.length)).toList
theorem permK_lt {ks : List (List Str)} : ∀ i ∈ permK ks, i < ks.length := by
  intro i hi
  unfold permK at hi
  split at hi
  · exact List.mem_range.mp hi
  · have h : AllB ks.length _ := (ok_sort (n := ks.length) (by omega)).eval (lt := fun i j => lexK (ks.getD i []) (ks.getD j []))
    exact h.2 i (by simpa using hi)
section
variable {prog : Program} {w : World} {A : Around} {E : Value → Shared → Prop} {s : Shared}
theorem tup_obj {a b : Str} {ok : Obj} (t : TupKeyObj (PySem.strKind prog w) [a, b] ok) : ok.cls = .type "tuple" ∧ ∃ ta tb n, ok.data = .seq #[.str a ta, .str b tb] n := by
  obtain ⟨hc, items, n, hd, hi⟩ := t
  refine ⟨hc, ?_⟩
  generalize hl : items.toList = l at hi
  cases hi with
  | cons h1 r =>
    cases r with
    | cons h2 r =>
      cases r
      obtain ⟨ta, rfl⟩ := Value.isStrOf_shape h1
      obtain ⟨tb, rfl⟩ := Value.isStrOf_shape h2
      refine ⟨ta, tb, n, ?_⟩
      rw [hd]
      congr 1
      rw [← Array.toArray_toList (xs := items), hl]
theorem key_lt {x y : Addr} {ox oy : Obj} {a b c d : Str} {ta tb tc td : Tok} {n k : Nat} {Q : Bool → Shared → Prop} (hx : s.heap.get? x = some ox) (dx : ox.data = .seq #[.str a ta, .str b tb] n) (hy : s.heap.get? y = some oy) (dy : oy.data = .seq #[.str c tc, .str d td] k)
    (h : Q (lexK [a, b] [c, d]) s) : wpAny (model prog w) A (keyLt' (tuples' true) (.ref x) (.ref y)) Q E s := by
  refine kat_lt hx dx hy dy ?_
  show KatLex prog w A true false Q [(Value.str a ta, Value.str c tc), (Value.str b tb, Value.str d td)] 0 s
  refine kat_cons (wpAny_eqBool_str ?_)
  have hk : lexK [a, b] [c, d] = if a = c then (if b = d then false else decide (b.cps.toList < d.cps.toList)) else decide (a.cps.toList < c.cps.toList) := rfl
  rw [hk] at h
  by_cases e1 : a = c
  · rw [if_pos e1] at h
    rw [decide_eq_true e1]
    refine kat_yes (kat_cons (wpAny_eqBool_str ?_))
    by_cases e2 : b = d
    · rw [if_pos e2] at h
      rw [decide_eq_true e2]
      exact kat_yes (kat_nil h)
    · rw [if_neg e2] at h
      rw [decide_eq_false e2]
      exact kat_no (kat_one _ _ (PyProof.Rows.lt_str h))
  · rw [if_neg e1] at h
    rw [decide_eq_false e1]
    exact kat_no (oneLt_str h)
end
end
section
theorem range_getD {α : Type} {d : α} : ∀ (vs : List α), (List.range vs.length).map (fun i => vs.getD i d) = vs := by
  intro vs
  apply List.ext_getElem?
  intro i
  rw [List.getElem?_map]
  by_cases h : i < vs.length
  · simp [h]
  · simp [h]
theorem map_getD {α β : Type} {f : α → β} {d : β} {xs : List α} {i : Nat} (h : i < xs.length) : (xs.map f).getD i d = f xs[i] := by
  simp [h]
section
variable {prog : Program} {w : World} {A : Around} {E : Value → Shared → Prop} {s : Shared} {h₀ : Heap} {L : Addr} {m : Str → Option Value} {news : List (Addr × Obj)}
theorem lsort_short {D : Addr} {vs : List Value} {n : Nat} {g : Obj → List (Addr × Obj)} {Q : Value → Shared → Prop} (F : Fr h₀ L s.heap m) (N : News h₀ L s.heap news) (U : UpdF D (PySem.W.listOf vs.toArray n) news g) (h2 : vs.length < 2)
    (h : ∀ h' c, Fr h₀ L h' m → News h₀ L h' (g (PySem.W.listOf vs.toArray c)) → Q .none { s with heap := h' }) : wpAny (model prog w) A (call (.builtin "list.sort") [.ref D]) Q E s := by
  obtain ⟨pre, post, e0, hg, x1, x2⟩ := U.split
  rw [e0] at N
  have nz := N (D, PySem.W.listOf vs.toArray n) (List.mem_append_right _ (.head _))
  have ho : s.heap.get? D = some (seqObj "list" vs.toArray n) := nz.1
  have hD : D < s.heap.objs.size := Heap.lt_size ho
  refine wpAny_call_entry slot_list_sort ⟨_, nz.1, rfl⟩ entry_list_sort ?_ (args_list_sort _)
  rw [list_sort_plain]
  refine wpAny_bind (listItems_at ho rfl ?_)
  refine wpAny_bind (listUpdate_at ho rfl ?_ (by rw [List.size_toArray, sizeLine_eq]; omega) (Nat.zero_le _))
  have s1 := Heap.SameBut.update s.heap D (Obj.mapSeq fun _ => (#[] : Array Value))
  obtain ⟨e1, ho1⟩ : ∃ e1, (s.heap.update D (Obj.mapSeq fun _ => (#[] : Array Value))).get? D = some (seqObj "list" #[] e1) := ⟨_, get?_update_seq ho fun _ => #[]⟩
  refine wpAny_bind (seqEpoch_at ho1 rfl ?_)
  refine wpAny_bind (wpAny_newTuple ?_ (by show vs.length ≤ _; rw [sizeLine_eq]; omega))
  refine wpAny_bind (wpAny_newList ?_ (Nat.zero_le _))
  refine wpAny_holding ?_
  show wpAny (model prog w) A.in1 _ _ E { s with heap := ((s.heap.update D (Obj.mapSeq fun _ => (#[] : Array Value))).push (seqObj "tuple" vs.toArray 0)).push (seqObj "list" #[] 0) }
  dsimp only
  have hn2 : vs.toArray.size < 2 := by rw [List.size_toArray]; exact h2
  rw [if_pos hn2, if_pos hn2]
  refine wpAny_bind (wpAny_pure ?_)
  rw [StateT.run_pure]
  refine wpAny_bind (wpAny_pure ?_)
  dsimp only
  have ho6 : (((s.heap.update D (Obj.mapSeq fun _ => (#[] : Array Value))).push (seqObj "tuple" vs.toArray 0)).push (seqObj "list" #[] 0)).get? D = some (seqObj "list" #[] e1) := Heap.get?_push_of_some _ (Heap.get?_push_of_some _ ho1)
  have hout : (arrOf (SortSt.mk' general' (vs.toArray.zip vs.toArray) #[] 7 none)).map (·.2) = vs.toArray := by
    show (vs.toArray.zip vs.toArray).map (·.2) = vs.toArray
    apply Array.toList_inj.mp
    clear h U N e0 nz ho ho6 hn2
    rcases vs with _ | ⟨v, _ | ⟨v', r⟩⟩
    · simp
    · simp
    · simp only [List.length_cons] at h2; omega
  rw [hout]
  refine wpAny_bind (seqEpoch_at ho6 rfl ?_)
  refine wpAny_bind (listUpdate_at ho6 rfl ?_ (Nat.zero_le _) (by rw [List.size_toArray, sizeLine_eq]; omega))
  simp only [bne_self_eq_false, Bool.false_eq_true, if_false]
  have F3 : Fr h₀ L (((s.heap.update D (Obj.mapSeq fun _ => (#[] : Array Value))).push (seqObj "tuple" vs.toArray 0)).push (seqObj "list" #[] 0)) m := ((kas_fr F s1 nz.2.1 nz.2.2).push _).push _
  have N3 : News h₀ L (((s.heap.update D (Obj.mapSeq fun _ => (#[] : Array Value))).push (seqObj "tuple" vs.toArray 0)).push (seqObj "list" #[] 0)) (pre ++ (D, seqObj "list" #[] e1) :: post) :=
    (news_set N x1 x2 s1 ho1).grown fun b x e => Heap.get?_push_of_some _ (Heap.get?_push_of_some _ e)
  have s2 := Heap.SameBut.update (((s.heap.update D (Obj.mapSeq fun _ => (#[] : Array Value))).push (seqObj "tuple" vs.toArray 0)).push (seqObj "list" #[] 0)) D (Obj.mapSeq fun _ => vs.toArray)
  obtain ⟨c2, hc2⟩ : ∃ c2, ((((s.heap.update D (Obj.mapSeq fun _ => (#[] : Array Value))).push (seqObj "tuple" vs.toArray 0)).push (seqObj "list" #[] 0)).update D (Obj.mapSeq fun _ => vs.toArray)).get? D = some (seqObj "list" vs.toArray c2) := ⟨_, get?_update_seq ho6 fun _ => vs.toArray⟩
  refine wpAny_pure ⟨_, rfl, h _ c2 (kas_fr F3 s2 nz.2.1 nz.2.2) ?_⟩
  rw [hg]
  exact news_set N3 x1 x2 s2 hc2
end
section
variable {w : World} {A : Around} {E : Value → Shared → Prop} {s : Shared} {h₀ : Heap} {L : Addr} {m : Str → Option Value} {news : List (Addr × Obj)}
theorem KObj.raw {d : Addr} {ko : Obj} {xs : List (List Str × Addr × Value)} (D : KObj w ko xs) (N : News h₀ L s.heap news) (hm : (d, ko) ∈ news) : ∃ ep, RawD s.heap d (xs.map fun x => Value.ref x.2.1) ep := by
  obtain ⟨h1, ⟨es, ep, h2, h3⟩, h4⟩ := D
  refine ⟨ep, ko, es, N.get hm, h1, h2, ?_⟩
  rw [h3, List.map_map]
  rfl
theorem keys_at {xs : List (List Str × Addr × Value)} (N : News h₀ L s.heap news) (hk : KKeys w news xs) (two : ∀ x ∈ xs, ∃ a b, x.1 = [a, b]) {i : Nat} (hi : i < xs.length) :
    ∃ a b x o ta tb n, (xs.map (·.1)).getD i [] = [a, b] ∧ (xs.map fun x => Value.ref x.2.1).getD i Value.none = .ref x ∧ s.heap.get? x = some o ∧ o.cls = .type "tuple" ∧ o.data = .seq #[.str a ta, .str b tb] n := by
  have hmem : xs[i] ∈ xs := List.getElem_mem hi
  obtain ⟨a, b, e⟩ := two _ hmem
  obtain ⟨ok, hmk, t⟩ := hk _ hmem
  rw [e] at t
  obtain ⟨hc, ta, tb, n, hd⟩ := tup_obj t
  exact ⟨a, b, _, ok, ta, tb, n, by rw [map_getD hi, e], map_getD hi, N.get hmk, hc, hd⟩
theorem tups_at (N : News h₀ L s.heap news) : ∀ {xs : List (List Str × Addr × Value)}, KKeys w news xs → (∀ x ∈ xs, ∃ a b, x.1 = [a, b]) →
    ∃ fs, KatTups s.heap (xs.map fun x => Value.ref x.2.1) fs ∧ fs.length = xs.length ∧ ∀ v ∈ fs, ∃ y t, v = .str y t
  | [], _, _ => ⟨[], trivial, rfl, fun _ h => nomatch h⟩
  | x :: xs, hk, two => by
    obtain ⟨fs, h1, h2, h3⟩ := tups_at N (xs := xs) (fun y hy => hk y (.tail _ hy)) fun y hy => two y (.tail _ hy)
    obtain ⟨a, b, e⟩ := two x (.head _)
    obtain ⟨ok, hmk, t⟩ := hk x (.head _)
    rw [e] at t
    obtain ⟨hc, ta, tb, n, hd⟩ := tup_obj t
    exact ⟨.str a ta :: fs, KatTups.cons (N.get hmk) hc hd rfl h1, by simp [h2], fun v hv => (List.mem_cons.mp hv).elim (fun e => ⟨_, _, e⟩) (h3 v)⟩
theorem sorted_keys {d : Addr} {ko : Obj} {xs : List (List Str × Addr × Value)} {Q : Value → Shared → Prop} (hh : A.handled = none) (F : Fr h₀ L s.heap m) (N : News h₀ L s.heap news) (hm : (d, ko) ∈ news) (D : KObj w ko xs) (hk : KKeys w news xs)
    (two : ∀ x ∈ xs, ∃ a b, x.1 = [a, b]) (h64 : xs.length < 64) (lo : (d == sysModules) = false)
    (h : ∀ B c h' tk, Fr h₀ L h' m → News h₀ L h' ((B, PySem.W.listOf ((permK (xs.map (·.1))).map fun i => (xs.map fun x => Value.ref x.2.1).getD i Value.none).toArray c) :: news) → (∀ q ∈ news, q.1 < B) → Q (.ref B) { s with heap := h', toks := tk }) :
    wpAny (model PySem.Challenge.rw_pb0315_01.row.prog w) A (call (.builtin "sorted") [.ref d]) Q E s := by
  obtain ⟨ep, hraw⟩ := D.raw N hm
  refine kdu_sorted (raw_src lo) hh F N hraw (by rw [List.length_map, sizeLine_eq]; omega) fun B h' tk vs' F' N' l1 hl hv => ?_
  have hvs : vs' = xs.map fun x => Value.ref x.2.1 := by
    apply List.ext_getElem?
    intro j
    by_cases hj : j < vs'.length
    · rw [hv j _ (List.getElem?_eq_getElem hj), List.getElem?_eq_getElem hj]
    · rw [List.getElem?_eq_none (by omega), List.getElem?_eq_none (by omega)]
  subst hvs
  have hU : UpdF B (PySem.W.listOf (xs.map fun x => Value.ref x.2.1).toArray 0) ((B, PySem.W.listOf (xs.map fun x => Value.ref x.2.1).toArray 0) :: news) (fun o' => (B, o') :: news) := .head fun p hp => Nat.ne_of_lt (l1 p hp)
  have hk' : KKeys w ((B, PySem.W.listOf (xs.map fun x => Value.ref x.2.1).toArray 0) :: news) xs := hk.mono fun p hp => .tail _ hp
  by_cases h2 : xs.length < 2
  · refine lsort_short F' N' hU (by rw [List.length_map]; exact h2) fun h2' c F2 N2 => ?_
    refine h B c h2' tk F2 ?_ l1
    have e : (permK (xs.map (·.1))).map (fun i => (xs.map fun x => Value.ref x.2.1).getD i Value.none) = xs.map fun x => Value.ref x.2.1 := by
      unfold permK
      rw [if_pos (by rw [List.length_map]; exact h2), List.length_map]
      have := range_getD (d := Value.none) (xs.map fun x => Value.ref x.2.1)
      rwa [List.length_map] at this
    rw [e]
    exact N2
  · refine kat_lsort F' N' hU rfl (by rw [List.length_map]; omega) (by rw [List.length_map]; omega) fun e1 h2' F2 N2 => ?_
    have hk2 : KKeys w ((B, seqObj "list" #[] e1) :: news) xs := hk.mono fun p hp => .tail _ hp
    obtain ⟨fs, t1, t2, t3⟩ := tups_at (s := { s with heap := h2', toks := tk }) N2 hk2 two
    refine kat_kind (T := .type "str") t1 (by omega) (fun v hv => ?_) (by decide) ?_
    · obtain ⟨y, t, rfl⟩ := t3 v hv
      exact Looks.of_pure rfl
    · have hT : (Value.type "str" != Value.type "tuple") = true := by decide
      rw [hT, List.length_map]
      refine kas_det (n := xs.length) (lt := fun i j => lexK ((xs.map (·.1)).getD i []) ((xs.map (·.1)).getD j [])) (J := fun s' => s' = { s with heap := h2', toks := tk }) ?_ (ok_sort (by omega)) rfl ?_
      · rintro i j C s' hi hj rfl hC
        obtain ⟨a, b, x, o, ta, tb, n, k1, k2, k3, k4, k5⟩ := keys_at (s := { s with heap := h2', toks := tk }) N2 hk2 two hi
        obtain ⟨a', b', x', o', ta', tb', n', k1', k2', k3', k4', k5'⟩ := keys_at (s := { s with heap := h2', toks := tk }) N2 hk2 two hj
        have hC' := hC _ rfl
        rw [k1, k1'] at hC'
        unfold kas_ask
        rw [k2, k2']
        exact key_lt k3 k5 k3' k5' hC'
      · rintro s' rfl
        refine KasFin.intro F2 N2 (.head fun p hp => Nat.ne_of_lt (l1 p hp)) fun h3 c F3 N3 => ?_
        refine h B c h3 tk F3 ?_ l1
        have e : permK (xs.map (·.1)) = (evalT (fun i j => lexK ((xs.map (·.1)).getD i []) ((xs.map (·.1)).getD j [])) (kas_sort xs.length)).toList := by
          unfold permK
          rw [if_neg (by rw [List.length_map]; exact h2), List.length_map]
        rw [e]
        exact N3
end
end
section
theorem PairsAt.same {w : World} {T : List (Addr × Obj)} {n : Nat} : ∀ {xs ys : List (List Str × Addr × Value)}, PairsAt w T n xs ys → xs.map (·.1) = ys.map (·.1)
  | _, _, .nil => rfl
  | _, _, .cons _ _ _ _ _ _ _ _ _ r => congrArg (_ :: ·) r.same
def TwoK (xs : List (List Str × Addr × Value)) : Prop := ∀ x ∈ xs, ∃ a b, x.1 = [a, b] ∧ PyData.strOk a = true ∧ PyData.strOk b = true
theorem TwoK.one {xs : List (List Str × Addr × Value)} (h : TwoK xs) : ∀ x ∈ xs, ∃ a b, x.1 = [a, b] := fun x hx => let ⟨a, b, e, _⟩ := h x hx; ⟨a, b, e⟩
theorem PairsAt.two1 {w : World} {T : List (Addr × Obj)} {n : Nat} : ∀ {xs ys : List (List Str × Addr × Value)}, PairsAt w T n xs ys → TwoK xs
  | _, _, .nil => fun _ h => nomatch h
  | _, _, .cons a b _ _ _ _ _ _ _ r => fun x hx => (List.mem_cons.mp hx).elim (fun e => ⟨_, _, by rw [e], a, b⟩) (r.two1 x)
theorem PairsAt.two2 {w : World} {T : List (Addr × Obj)} {n : Nat} : ∀ {xs ys : List (List Str × Addr × Value)}, PairsAt w T n xs ys → TwoK ys
  | _, _, .nil => fun _ h => nomatch h
  | _, _, .cons a b _ _ _ _ _ _ _ r => fun x hx => (List.mem_cons.mp hx).elim (fun e => ⟨_, _, by rw [e], a, b⟩) (r.two2 x)
noncomputable def tupD : List Str → PyData
  | [a, b] => .tuple [.str a, .str b]
  | _ => .none
section
variable {w : World} {A : Around} {E : Value → Shared → Prop} {s : Shared} {h₀ : Heap} {L : Addr} {news : List (Addr × Obj)}
theorem reads_keys {xs : List (List Str × Addr × Value)} (N : News h₀ L s.heap news) (hk : KKeys w news xs) (two : TwoK xs) : ∀ (is : List Nat), (∀ i ∈ is, i < xs.length) →
    ∃ as, ReadsAll s.heap (is.map fun i => (xs.map fun x => Value.ref x.2.1).getD i Value.none) (is.map fun i => tupD ((xs.map (·.1)).getD i [])) as
  | [], _ => ⟨[], .nil⟩
  | i :: is, h => by
    obtain ⟨as, ih⟩ := reads_keys N hk two is fun j hj => h j (.tail _ hj)
    obtain ⟨a, b, x, o, ta, tb, n, k1, k2, k3, k4, k5⟩ := keys_at N hk two.one (h i (.head _))
    rw [List.map_cons, List.map_cons, k1, k2]
    exact ⟨_, .cons (.tuple k3 k4 k5 (.cons (.str _ _) (.cons (.str _ _) .nil))) ih⟩
theorem all_shaped : ∀ (ds : List PyData), (∀ d ∈ ds, d.canLay0 = true ∧ d.depth ≤ 1 ∧ d.eqv d = true) → PyData.canLayAll0 ds = true ∧ PyData.depthAll ds ≤ 1 ∧ PyData.eqvAll ds ds = true
  | [], _ => ⟨by simp [PyData.canLayAll0], by simp [PyData.depthAll], by simp [PyData.eqvAll]⟩
  | d :: ds, h => by
    obtain ⟨h1, h2, h3⟩ := all_shaped ds fun x hx => h x (.tail _ hx)
    obtain ⟨k1, k2, k3⟩ := h d (.head _)
    exact ⟨by simp [PyData.canLayAll0, h1, k1], by simp only [PyData.depthAll]; omega, by simp [PyData.eqvAll, h3, k3]⟩
theorem keys_shaped {xs : List (List Str × Addr × Value)} (two : TwoK xs) (is : List Nat) (h : ∀ i ∈ is, i < xs.length) :
    PyData.canLayAll0 (is.map fun i => tupD ((xs.map (·.1)).getD i [])) = true ∧ PyData.depthAll (is.map fun i => tupD ((xs.map (·.1)).getD i [])) ≤ 1 ∧ PyData.eqvAll (is.map fun i => tupD ((xs.map (·.1)).getD i [])) (is.map fun i => tupD ((xs.map (·.1)).getD i [])) = true := by
  refine all_shaped _ fun d hd => ?_
  obtain ⟨i, hi, rfl⟩ := List.mem_map.mp hd
  have hi' := h i hi
  obtain ⟨a, b, e, o1, o2⟩ := two xs[i] (List.getElem_mem hi')
  have k1 : (xs.map (·.1)).getD i [] = [a, b] := by rw [map_getD hi', e]
  rw [k1]
  exact ⟨by simp [PyData.canLayAll0, PyData.canLay0, tupD, o1, o2], by simp [PyData.depthAll, PyData.depth, tupD], by simp [PyData.eqvAll, PyData.eqv, tupD]⟩
theorem ne_sorted {B1 B2 : Addr} {c1 c2 : Nat} {xs ys : List (List Str × Addr × Value)} {Q : Value → Shared → Prop} (N : News h₀ L s.heap news)
    (m1 : (B1, PySem.W.listOf ((permK (xs.map (·.1))).map fun i => (xs.map fun x => Value.ref x.2.1).getD i Value.none).toArray c1) ∈ news)
    (m2 : (B2, PySem.W.listOf ((permK (ys.map (·.1))).map fun i => (ys.map fun x => Value.ref x.2.1).getD i Value.none).toArray c2) ∈ news)
    (k1 : KKeys w news xs) (k2 : KKeys w news ys) (t1 : TwoK xs) (t2 : TwoK ys) (e : xs.map (·.1) = ys.map (·.1)) (hu : A.units + 64 < cLine) (h : Q (.bool false) s) :
    wpAny (model PySem.Challenge.rw_pb0315_01.row.prog w) A (compareOp .NotEq (.ref B1) (.ref B2)) Q E s := by
  have l1 : ∀ i ∈ permK (xs.map (·.1)), i < xs.length := fun i hi => by simpa using permK_lt i hi
  have l2 : ∀ i ∈ permK (ys.map (·.1)), i < ys.length := fun i hi => by simpa using permK_lt i hi
  obtain ⟨as, r1⟩ := reads_keys N k1 t1 _ l1
  obtain ⟨bs, r2⟩ := reads_keys N k2 t2 _ l2
  obtain ⟨s1, s2, s3⟩ := keys_shaped t1 _ l1
  obtain ⟨s1', s2', _⟩ := keys_shaped t2 _ l2
  refine ne_dataH (Reads.list (N.get m1) rfl rfl r1) (Reads.list (N.get m2) rfl rfl r2) (Bool.and_eq_true_iff.mpr ⟨by simp only [PyData.canLay0]; exact s1, decide_eq_true (by simp only [PyData.depth]; omega)⟩) (Bool.and_eq_true_iff.mpr ⟨by simp only [PyData.canLay0]; exact s1', decide_eq_true (by simp only [PyData.depth]; omega)⟩) hu ?_
  rw [← e]
  simp only [PyData.eqv, s3, Bool.not_true]
  exact h
end
local macro_rules | `(tactic| walk_at "call builtin:sorted") => `(tactic| (k_here; (with_reducible show wpAny _ _ (call (Value.builtin _) [Value.ref _]) _ _ _); k_dflt (refine' sorted_keys (by rfl) (by k_asm) (by k_asm) (by k_mem) (by assumption) (by (refine KKeys.mono (by assumption) (fun p => ?_); (repeat (first | exact id | apply mem_tl)))) (by exact TwoK.one (by assumption)) (by omega) (by assumption) ?_; k_whole); intros; (try k_sweep)))
local macro_rules | `(tactic| walk_at "compareOp NotEq ref ref") => `(tactic| (k_here; (with_reducible show wpAny _ _ (compareOp CmpOp.NotEq (Value.ref _) (Value.ref _)) _ _ _); k_dflt (refine' ne_sorted (by k_asm) (by k_mem) (by k_mem) (by (refine KKeys.mono (by assumption) (fun p => ?_); (repeat (first | exact id | apply mem_tl)))) (by (refine KKeys.mono (by assumption) (fun p => ?_); (repeat (first | exact id | apply mem_tl)))) (by assumption) (by assumption) (by assumption) (by ktr_units) ?_; k_whole)))
noncomputable def lawTail1 : Stmt := match lawTail with
  | [a, _, _, _] => a
  | _ => .If (.Name (Str.ofString "") ⟨0, 0, 0, 0⟩) [] [] ⟨0, 0, 0, 0⟩
noncomputable def lawTail2 : Stmt := match lawTail with
  | [_, a, _, _] => a
  | _ => .If (.Name (Str.ofString "") ⟨0, 0, 0, 0⟩) [] [] ⟨0, 0, 0, 0⟩
noncomputable def lawTail3 : List Stmt := match lawTail with
  | [_, _, a, b] => [a, b]
  | _ => []
theorem lawTail_eq : lawTail = lawTail1 :: lawTail2 :: lawTail3 := rfl
set_option maxRecDepth 100000 in
set_option maxHeartbeats 8000000 in
theorem tail_sorted {w : World} {ce ty td kn md hn sh sd ob im rw c1 c2 : Addr} {b1 b2 b3 b4 b5 b6 b7 : Addr} {k1 k2 k3 k4 k5 k6 k7 k8 k9 q1 q2 q3 q4 p1 p2 : Tok} {cvs : List Value} {nc : Nat} {mean : ExcName → Option Value} {mg mb : Str → Option Value} {dp un : Nat} {gd : Option (List Code)} {cn : Str} {a : Addr} {ccd : Value} {outer : List Env} {A₀ : Around} {base h₀ : Heap} {L : Addr} {s : Shared}
    {Q : Flow → Shared → Prop} {E : Value → Shared → Prop} {n : Nat} {rest : List Stmt} {u : Str → Option Value} {tys us : List Value} {c : Int} {tc : Tok} {nm no nr : Nat} {xs ys : List (List Str × Addr × Value)} {ko ho o1 o2 : Obj} {tl : List (Addr × Obj)}
    (B : Below A₀ base outer h₀) (X : (Mine.hd.heap_39 w.params).In h₀)
    (T0 : Top Mine.hd.view_39 (looseW Mine.hd.view_39 []) mean mg mb h₀)
    (hd : dp + 20 < recursionLimit) (hu : un + 400 < cLine) (hP : (twelve ty td kn md hn ce sh sd ob rw c1 c2).Pairwise (@Ne Nat))
    (hn1 : n ≤ 30) (hb : InvB w cvs b2 n tys us c xs ys ko ho o1 o2 (twelve ty td kn md hn ce sh sd ob rw c1 c2) tl) (lo1 : (kn == sysModules) = false) (lo2 : (hn == sysModules) = false)
    (F : Fr h₀ L s.heap (kstB u [(Str.ofString "cells", Value.ref ce), (Str.ofString "types", Value.ref ty), (Str.ofString "made", Value.ref md), (Str.ofString "held_now", Value.ref hn), (Str.ofString "shown", Value.ref sh), (Str.ofString "rows", Value.ref rw)])) (N : News h₀ L s.heap ((ty, instObj 116 td) :: (td, dictOf (tsEs w c kn b1 b2 b3 b4 b5 b6 b7 tc k1 k2 k3 k4 k5 k6 k7 k8 k9) 9) :: (kn, ko) :: (md, listOf tys.toArray nm) :: (hn, ho) :: (ce, listOf cvs.toArray nc) :: (sh, instObj 80 sd) :: (sd, dictOf (ifEs w ob im q1 q2 q3 q4 p1 p2) 4) :: (ob, listOf us.toArray no) :: (rw, listOf us.toArray nr) :: (c1, o1) :: (c2, o2) :: tl))
    (hret : ∀ (h' : Heap) (tk' : Nat), Fr h₀ L h' (kstB u [(Str.ofString "cells", Value.ref ce), (Str.ofString "types", Value.ref ty), (Str.ofString "made", Value.ref md), (Str.ofString "held_now", Value.ref hn), (Str.ofString "shown", Value.ref sh), (Str.ofString "rows", Value.ref rw)]) → News h₀ L h' ((ty, instObj 116 td) :: (td, dictOf (tsEs w c kn b1 b2 b3 b4 b5 b6 b7 tc k1 k2 k3 k4 k5 k6 k7 k8 k9) 9) :: (kn, ko) :: (md, listOf tys.toArray nm) :: (hn, ho) :: (ce, listOf cvs.toArray nc) :: (sh, instObj 80 sd) :: (sd, dictOf (ifEs w ob im q1 q2 q3 q4 p1 p2) 4) :: (ob, listOf us.toArray no) :: (rw, listOf us.toArray nr) :: (c1, o1) :: (c2, o2) :: tl) → wpAny (model PySem.Challenge.rw_pb0315_01.row.prog w) (ktrTop dp un gd cn lawScope L a ccd [(Str.ofString "name", c2), (Str.ofString "one", c1)] outer) (execs rest (envX cn lawScope L a ccd [(Str.ofString "name", c2), (Str.ofString "one", c1)])) Q E { s with heap := h', toks := tk' }) :
    wpAny (model PySem.Challenge.rw_pb0315_01.row.prog w) (ktrTop dp un gd cn lawScope L a ccd [(Str.ofString "name", c2), (Str.ofString "one", c1)] outer) (execs (lawTail1 :: rest) (envX cn lawScope L a ccd [(Str.ofString "name", c2), (Str.ofString "one", c1)])) Q E s := by
  have D1 := hb.kob
  have D2 := hb.hob
  have K1 := hb.prs.keys1
  have K2 := hb.prs.keys2
  have t1 := hb.prs.two1
  have t2 := hb.prs.two2
  have e0 := hb.prs.same
  have x1 := hb.xsl
  have x2 := hb.prs.length
  clear hb
  revert X; k_fill; intro X
  dsimp only [lawTail1, lawTail, lawScope, lawBody, PySem.Challenge.pw_pb0315_01]
  (w_top off; k_steps)
  all_goals (show wpAny _ _ _ _ _ _)
  all_goals exact hret _ _ (by k_asm) (kst_newsOf (by k_asm) (fun p hp => .tail _ (.tail _ hp)))
end
section
local macro_rules | `(tactic| ktn_lt) => `(tactic| first | exact List.Mem.head _ | with_reducible assumption | (apply List.Mem.tail; ktn_lt) | (refine List.mem_append_left _ ?_; ktn_lt) | (refine List.mem_append_right _ ?_; ktn_lt))
local macro_rules | `(tactic| tb_look) => `(tactic| ((repeat (refine List.forall_mem_cons.mpr ⟨by ktn_lt, ?_⟩)); (intro p hp); (try (rcases List.mem_append.mp hp with hp | hp)); (try (rcases List.mem_append.mp hp with hp | hp)); (all_goals ktn_lt)))
section
theorem PairsAt.get {w : World} {T : List (Addr × Obj)} {n : Nat} : ∀ {xs ys : List (List Str × Addr × Value)} {i : Nat} {y : List Str × Addr × Value}, PairsAt w T n xs ys → ys[i]? = Option.some y →
    ∃ mo lab kt kt2 t j tj tt ok2, y = ([mo, lab], kt2, Value.int j tj) ∧ xs[i]? = Option.some ([mo, lab], kt, Value.ref t) ∧ (kt2, ok2) ∈ T ∧ TupKeyObj (PySem.strKind PySem.Challenge.rw_pb0315_01.row.prog w) [mo, lab] ok2 ∧ AttrAt 31 T t (Str.ofString "number") (Value.int (j + 1) tt)
  | _, _, _, _, .nil, h => by simp at h
  | _, _, 0, _, .cons a b c d e f g hh i r, h => by
    simp only [List.getElem?_cons_zero, Option.some.injEq] at h
    exact ⟨_, _, _, _, _, _, _, _, _, h.symm, rfl, e, f, g⟩
  | _, _, i + 1, _, .cons a b c d e f g hh _ r, h => by
    simp only [List.getElem?_cons_succ] at h ⊢
    exact r.get h
theorem ne_same {prog : Program} {w : World} {A : Around} {E : Value → Shared → Prop} {s : Shared} {x y : Int} {t u : Tok} {Q : Value → Shared → Prop} (e : x = y) (h : Q (.bool false) s) : wpAny (model prog w) A (compareOp .NotEq (.int x t) (.int y u)) Q E s := by
  refine PyProof.Rows.ne_int ?_
  rw [e, bne_self_eq_false]
  exact h
theorem item_known {w : World} {A : Around} {E : Value → Shared → Prop} {s : Shared} {value slice : PySem.Expr} {h₀ : Heap} {L d kt : Addr} {led : List (Addr × Obj)} {o ok : Obj} {xs : List (List Str × Addr × Value)} {ks : List Str} {p : Addr × Value} {Q : Value → Shared → Prop} (N : News h₀ L s.heap led) (hm : (d, o) ∈ led)
    (D : KObj w o xs) (hk : KKeys w led xs) (hka : (kt, ok) ∈ led) (tk : TupKeyObj (PySem.strKind PySem.Challenge.rw_pb0315_01.row.prog w) ks ok) (hp : atKey xs ks = some p) (hu : A.units + 1 < cLine) (h : ∀ tk', Q p.2 { s with toks := tk' })
    (hs : subscripted slice false (.ref d) (.ref kt) = operate [.ref d, .ref kt] (getItem (.ref d) (.ref kt))) (hg : ∀ r, letTemporaryGo value (.ref d) r = pure ()) :
    wpAny (model PySem.Challenge.rw_pb0315_01.row.prog w) A (subscriptTail value slice (.ref d) (.ref kt)) Q E s :=
  subscriptTail_builtin (D.at N hm hk).typeIs PySem.F.slot_dict_getitem.lookup (wpAny_getItem_heap (knd := tupleKind (PySem.strKind PySem.Challenge.rw_pb0315_01.row.prog w)) (tupleKind_room_in1 hu) (tk.key (N.get hka)) (D.at N hm hk) hp (h _)) hs hg
noncomputable def pairBody : List Stmt := match lawTail2 with
  | .For _ _ b _ _ => b
  | _ => []
noncomputable def pairIter : Expr := match lawTail2 with
  | .For _ e _ _ _ => e
  | _ => .Name (Str.ofString "") ⟨0, 0, 0, 0⟩
theorem lawTail2_eq : ∃ p p', lawTail2 = .For (.Name (Str.ofString "pair") p) pairIter pairBody [] p' := ⟨_, _, rfl⟩
local macro_rules | `(tactic| walk_at "subscriptTail") => `(tactic| (k_here; (with_reducible show wpAny _ _ (subscriptTail _ _ (Value.ref _) (Value.ref _)) _ _ _); k_dflt (refine' item_known (by k_asm) (by k_mem) (by assumption) (by (refine KKeys.mono (by assumption) (fun p => ?_); (repeat (first | exact id | apply mem_tl)))) (by ktn_lt) (by assumption) (by assumption) (by ktr_units) ?_ (by with_unfolding_all rfl) (by (intro _; with_unfolding_all rfl)); k_whole; intro t'; (try dsimp only))))
local macro_rules | `(tactic| walk_at "getAttr ref") => `(tactic| (k_here; k_dflt (refine' attr_get (by k_asm) (by k_asm) (by k_asm) (by (refine AttrAt.mono (by assumption) (fun p => ?_); (repeat (first | exact id | apply mem_tl)))) (by k_is) (by k_is) (by k_is) (by k_is) (by k_handed) ?_; k_whole)))
local macro_rules | `(tactic| walk_at "compareOp NotEq int int") => `(tactic| (k_here; k_dflt (refine ne_same (by omega) ?_)))
set_option maxRecDepth 100000 in
set_option maxHeartbeats 8000000 in
theorem pair_body {w : World} {ce ty td kn md hn sh sd ob im rw c1 c2 : Addr} {b1 b2 b3 b4 b5 b6 b7 : Addr} {k1 k2 k3 k4 k5 k6 k7 k8 k9 q1 q2 q3 q4 p1 p2 : Tok} {cvs : List Value} {nc : Nat} {mean : ExcName → Option Value} {mg mb : Str → Option Value} {dp un : Nat} {gd : Option (List Code)} {cn : Str} {a : Addr} {ccd : Value} {outer : List Env} {A₀ : Around} {base h₀ : Heap} {L : Addr} {s : Shared}
    {Q : Flow → Shared → Prop} {E : Value → Shared → Prop} {u : Str → Option Value} {tys us : List Value} {c : Int} {tc : Tok} {nm no nr : Nat} {xs ys : List (List Str × Addr × Value)} {ko ho o1 o2 ok2 : Obj} {tl : List (Addr × Obj)} {mo lab : Str} {kt kt2 t : Addr} {j : Int} {tj tt : Tok}
    (B : Below A₀ base outer h₀) (X : (Mine.hd.heap_39 w.params).In h₀)
    (T0 : Top Mine.hd.view_39 (looseW Mine.hd.view_39 []) mean mg mb h₀)
    (hd : dp + 20 < recursionLimit) (hu : un + 400 < cLine) (hP : (twelve ty td kn md hn ce sh sd ob rw c1 c2).Pairwise (@Ne Nat))
    (D1 : KObj w ko xs) (D2 : KObj w ho ys) (K1 : KKeys w tl xs) (K2 : KKeys w tl ys) (g1 : atKey xs [mo, lab] = some (kt, Value.ref t)) (g2 : atKey ys [mo, lab] = some (kt2, Value.int j tj)) (m1 : (kt2, ok2) ∈ tl) (m2 : TupKeyObj (PySem.strKind PySem.Challenge.rw_pb0315_01.row.prog w) [mo, lab] ok2) (m3 : AttrAt 31 tl t (Str.ofString "number") (Value.int (j + 1) tt))
    (F : Fr h₀ L s.heap (kstB u [(Str.ofString "pair", Value.ref kt2), (Str.ofString "cells", Value.ref ce), (Str.ofString "types", Value.ref ty), (Str.ofString "made", Value.ref md), (Str.ofString "held_now", Value.ref hn), (Str.ofString "shown", Value.ref sh), (Str.ofString "rows", Value.ref rw)])) (N : News h₀ L s.heap ((ty, instObj 116 td) :: (td, dictOf (tsEs w c kn b1 b2 b3 b4 b5 b6 b7 tc k1 k2 k3 k4 k5 k6 k7 k8 k9) 9) :: (kn, ko) :: (md, listOf tys.toArray nm) :: (hn, ho) :: (ce, listOf cvs.toArray nc) :: (sh, instObj 80 sd) :: (sd, dictOf (ifEs w ob im q1 q2 q3 q4 p1 p2) 4) :: (ob, listOf us.toArray no) :: (rw, listOf us.toArray nr) :: (c1, o1) :: (c2, o2) :: tl))
    (hret : ∀ (h' : Heap) (tk' : Nat), Fr h₀ L h' (kstB u [(Str.ofString "pair", Value.ref kt2), (Str.ofString "cells", Value.ref ce), (Str.ofString "types", Value.ref ty), (Str.ofString "made", Value.ref md), (Str.ofString "held_now", Value.ref hn), (Str.ofString "shown", Value.ref sh), (Str.ofString "rows", Value.ref rw)]) → News h₀ L h' ((ty, instObj 116 td) :: (td, dictOf (tsEs w c kn b1 b2 b3 b4 b5 b6 b7 tc k1 k2 k3 k4 k5 k6 k7 k8 k9) 9) :: (kn, ko) :: (md, listOf tys.toArray nm) :: (hn, ho) :: (ce, listOf cvs.toArray nc) :: (sh, instObj 80 sd) :: (sd, dictOf (ifEs w ob im q1 q2 q3 q4 p1 p2) 4) :: (ob, listOf us.toArray no) :: (rw, listOf us.toArray nr) :: (c1, o1) :: (c2, o2) :: tl) → Q .next { s with heap := h', toks := tk' }) :
    wpAny (model PySem.Challenge.rw_pb0315_01.row.prog w) (ktrTop dp un gd cn lawScope L a ccd [(Str.ofString "name", c2), (Str.ofString "one", c1)] outer) (execs pairBody (envX cn lawScope L a ccd [(Str.ofString "name", c2), (Str.ofString "one", c1)])) Q E s := by
  revert X; k_fill; intro X
  dsimp only [pairBody, lawTail2, lawTail, lawScope, lawBody, PySem.Challenge.pw_pb0315_01]
  (w_top off; k_steps)
  all_goals exact hret _ _ (by k_asm) (by k_asm)
end
section
set_option maxRecDepth 100000 in
set_option maxHeartbeats 8000000 in
theorem tail_pairs {w : World} {ce ty td kn md hn sh sd ob im rw c1 c2 : Addr} {b1 b2 b3 b4 b5 b6 b7 : Addr} {k1 k2 k3 k4 k5 k6 k7 k8 k9 q1 q2 q3 q4 p1 p2 : Tok} {cvs : List Value} {nc : Nat} {mean : ExcName → Option Value} {mg mb : Str → Option Value} {dp un : Nat} {gd : Option (List Code)} {cn : Str} {a : Addr} {ccd : Value} {outer : List Env} {A₀ : Around} {base h₀ : Heap} {L : Addr} {s : Shared}
    {Q : Flow → Shared → Prop} {E : Value → Shared → Prop} {n : Nat} {rest : List Stmt} {u : Str → Option Value} {tys us : List Value} {c : Int} {tc : Tok} {nm no nr : Nat} {xs ys : List (List Str × Addr × Value)} {ko ho o1 o2 : Obj} {tl : List (Addr × Obj)}
    (B : Below A₀ base outer h₀) (X : (Mine.hd.heap_39 w.params).In h₀)
    (T0 : Top Mine.hd.view_39 (looseW Mine.hd.view_39 []) mean mg mb h₀)
    (hd : dp + 20 < recursionLimit) (hu : un + 400 < cLine) (hP : (twelve ty td kn md hn ce sh sd ob rw c1 c2).Pairwise (@Ne Nat))
    (hb : InvB w cvs b2 n tys us c xs ys ko ho o1 o2 (twelve ty td kn md hn ce sh sd ob rw c1 c2) tl) (lo2 : (hn == sysModules) = false)
    (F : Fr h₀ L s.heap (kstB u [(Str.ofString "cells", Value.ref ce), (Str.ofString "types", Value.ref ty), (Str.ofString "made", Value.ref md), (Str.ofString "held_now", Value.ref hn), (Str.ofString "shown", Value.ref sh), (Str.ofString "rows", Value.ref rw)])) (N : News h₀ L s.heap ((ty, instObj 116 td) :: (td, dictOf (tsEs w c kn b1 b2 b3 b4 b5 b6 b7 tc k1 k2 k3 k4 k5 k6 k7 k8 k9) 9) :: (kn, ko) :: (md, listOf tys.toArray nm) :: (hn, ho) :: (ce, listOf cvs.toArray nc) :: (sh, instObj 80 sd) :: (sd, dictOf (ifEs w ob im q1 q2 q3 q4 p1 p2) 4) :: (ob, listOf us.toArray no) :: (rw, listOf us.toArray nr) :: (c1, o1) :: (c2, o2) :: tl))
    (hE : PassesOwn (model PySem.Challenge.rw_pb0315_01.row.prog w) (ktrTop dp un gd cn lawScope L a ccd [(Str.ofString "name", c2), (Str.ofString "one", c1)] outer) (envX cn lawScope L a ccd [(Str.ofString "name", c2), (Str.ofString "one", c1)]) E)
    (hret : ∀ (u' : Str → Option Value) (h' : Heap) (tk' : Nat), Fr h₀ L h' (kstB u' [(Str.ofString "cells", Value.ref ce), (Str.ofString "types", Value.ref ty), (Str.ofString "made", Value.ref md), (Str.ofString "held_now", Value.ref hn), (Str.ofString "shown", Value.ref sh), (Str.ofString "rows", Value.ref rw)]) → News h₀ L h' ((ty, instObj 116 td) :: (td, dictOf (tsEs w c kn b1 b2 b3 b4 b5 b6 b7 tc k1 k2 k3 k4 k5 k6 k7 k8 k9) 9) :: (kn, ko) :: (md, listOf tys.toArray nm) :: (hn, ho) :: (ce, listOf cvs.toArray nc) :: (sh, instObj 80 sd) :: (sd, dictOf (ifEs w ob im q1 q2 q3 q4 p1 p2) 4) :: (ob, listOf us.toArray no) :: (rw, listOf us.toArray nr) :: (c1, o1) :: (c2, o2) :: tl) → wpAny (model PySem.Challenge.rw_pb0315_01.row.prog w) (ktrTop dp un gd cn lawScope L a ccd [(Str.ofString "name", c2), (Str.ofString "one", c1)] outer) (execs rest (envX cn lawScope L a ccd [(Str.ofString "name", c2), (Str.ofString "one", c1)])) Q E { s with heap := h', toks := tk' }) :
    wpAny (model PySem.Challenge.rw_pb0315_01.row.prog w) (ktrTop dp un gd cn lawScope L a ccd [(Str.ofString "name", c2), (Str.ofString "one", c1)] outer) (execs (lawTail2 :: rest) (envX cn lawScope L a ccd [(Str.ofString "name", c2), (Str.ofString "one", c1)])) Q E s := by
  have hP' := hP
  obtain ⟨ep, hraw⟩ := hb.hob.raw N (.tail _ (.tail _ (.tail _ (.tail _ (.head _)))))
  have D1 := hb.kob
  have D2 := hb.hob
  have prs := hb.prs
  have n1 := D1.2.2
  have n2 := D2.2.2
  refine wpAny_execs_cons ?_
  obtain ⟨p, p', he⟩ := lawTail2_eq
  rw [he]
  refine For_invVF F rfl rfl ?_ (hE := hE)
  have hev : pairIter = .Name (Str.ofString "held_now") (match pairIter with | .Name _ q => q | _ => ⟨0, 0, 0, 0⟩) := rfl
  rw [hev]
  revert X; k_fill; intro X
  dsimp only [lawScope, PySem.Challenge.pw_pb0315_01]
  w_top off
  repeat' ((fail_if_success (with_reducible show wpAny _ _ (pyIter _) _ _ _)); first | (k_unfold; (try dsimp only)) | (k_end; wrow_close) | walk1 | (dsimp only; walk1) | (leave1; walk_say "STEP leave1"; try dsimp only))
  dsimp only
  refine raw_iter lo2 hraw ?_
  refine ⟨s.heap.objs.size, [s.heap.objs.size, hn], [s.heap.objs.size], (ys.map fun x => Value.ref x.2.1).length, _, _, _, (ty, instObj 116 td) :: (td, dictOf (tsEs w c kn b1 b2 b3 b4 b5 b6 b7 tc k1 k2 k3 k4 k5 k6 k7 k8 k9) 9) :: (kn, ko) :: (md, listOf tys.toArray nm) :: (hn, ho) :: (ce, listOf cvs.toArray nc) :: (sh, instObj 80 sd) :: (sd, dictOf (ifEs w ob im q1 q2 q3 q4 p1 p2) 4) :: (ob, listOf us.toArray no) :: (rw, listOf us.toArray nr) :: (c1, o1) :: (c2, o2) :: tl, (fun i m nx => (∃ u, m = kstB u [(Str.ofString "cells", Value.ref ce), (Str.ofString "types", Value.ref ty), (Str.ofString "made", Value.ref md), (Str.ofString "held_now", Value.ref hn), (Str.ofString "shown", Value.ref sh), (Str.ofString "rows", Value.ref rw)]) ∧ nx = (ty, instObj 116 td) :: (td, dictOf (tsEs w c kn b1 b2 b3 b4 b5 b6 b7 tc k1 k2 k3 k4 k5 k6 k7 k8 k9) 9) :: (kn, ko) :: (md, listOf tys.toArray nm) :: (hn, ho) :: (ce, listOf cvs.toArray nc) :: (sh, instObj 80 sd) :: (sd, dictOf (ifEs w ob im q1 q2 q3 q4 p1 p2) 4) :: (ob, listOf us.toArray no) :: (rw, listOf us.toArray nr) :: (c1, o1) :: (c2, o2) :: tl), rfl, raw_walks rfl _ hn (Nat.ne_of_lt hraw.lt) _ ep, ?_, ?_, ?_, ⟨⟨_, Heap.get?_push_size _ rfl, rfl, rfl⟩, hraw.at fun o e => Heap.get?_push_of_some _ e⟩, F.push _, (fun p hp => ⟨Heap.get?_push_of_some _ (N p hp).1, (N p hp).2⟩), ⟨⟨u, rfl⟩, rfl⟩, ?_, ?_⟩
  · intro hm
    rcases List.mem_cons.mp hm with e | hm
    · exact absurd F.ns.lt (e ▸ Nat.lt_irrefl _)
    · exact (N (hn, ho) (.tail _ (.tail _ (.tail _ (.tail _ (.head _)))))).2.1 ((List.mem_singleton.mp hm).symm)
  · intro b hb
    rw [List.mem_singleton.mp hb]
    exact next_is_new F
  · intro p hp hI
    exact absurd (Heap.lt_size (N p hp).1) ((List.mem_singleton.mp hI) ▸ Nat.lt_irrefl _)
  · rintro i v m₁ nx s₁ own ⟨hh', tk', rfl⟩ hi hP ⟨⟨u', rfl⟩, rfl⟩ hoff hown hget hfp hst F₁ N₁
    rw [List.getElem?_map] at hP
    obtain ⟨y, hy, rfl⟩ := Option.map_eq_some_iff.mp hP
    obtain ⟨mo, lab, kt, kt2, t, j, tj, tt, ok2, rfl, hx, w1, w2, w3⟩ := prs.get hy
    refine pair_body (s := { s with heap := hh', toks := tk' }) (tl := tl ++ own) (u := u') B X T0 hd hu hP' D1 D2 (prs.keys1.mono fun p hp => List.mem_append_left _ hp) (prs.keys2.mono fun p hp => List.mem_append_left _ hp) (atKey_of_get n1 hx) (atKey_of_get n2 hy) (List.mem_append_left _ w1) w2 (w3.mono fun p hp => List.mem_append_left _ hp) F₁ (kst_newsOf N₁ (by tb_look)) ?_
    intro h2 tk2 F2 N2
    exact ⟨rfl, h2, tk2, _, (ty, instObj 116 td) :: (td, dictOf (tsEs w c kn b1 b2 b3 b4 b5 b6 b7 tc k1 k2 k3 k4 k5 k6 k7 k8 k9) 9) :: (kn, ko) :: (md, listOf tys.toArray nm) :: (hn, ho) :: (ce, listOf cvs.toArray nc) :: (sh, instObj 80 sd) :: (sd, dictOf (ifEs w ob im q1 q2 q3 q4 p1 p2) 4) :: (ob, listOf us.toArray no) :: (rw, listOf us.toArray nr) :: (c1, o1) :: (c2, o2) :: tl, rfl, fr_six F2 (by kst_all), kst_newsOf N2 (all_app (fun p hp => .tail _ (.tail _ (.tail _ (.tail _ (.tail _ (.tail _ (.tail _ (.tail _ (.tail _ (.tail _ (.tail _ (.tail _ (List.mem_append_right _ hp))))))))))))) (by tb_look)), hoff, ⟨_, rfl⟩, rfl⟩
  · rintro h2 tk2 m' nx F2 N2 hoff ⟨⟨u', rfl⟩, rfl⟩
    exact hret u' h2 tk2 F2 N2
end
section
local macro_rules | `(tactic| walk_at "eval ListComp") => `(tactic| (k_here; k_dflt (lct_look; (refine LCt.ListComp_T (F₀ := by k_asm) (by with_unfolding_all rfl) (by decide) (by rfl) (by decide) (by rfl) ?_))))
local macro_rules | `(tactic| walk_at "subscriptTail") => `(tactic| (k_here; (with_reducible show wpAny _ _ (subscriptTail _ _ (Value.ref _) (Value.int _ _)) _ _ _); k_dflt (refine' item_led (by k_asm) (by k_mem) (by assumption) (by omega) (by assumption) ?_ (by with_unfolding_all rfl) (by (intro _; with_unfolding_all rfl)))))
local macro_rules | `(tactic| walk_at "storeName") => `(tactic| (k_here; k_dflt (refine' storeX_C (by k_asm) (by k_asm) (by exact rfl) (by k_updF) (by assumption) ?_ (by rfl) (by rfl); k_whole; intros; (try k_sweep))))
local macro_rules | `(tactic| walk_at "eval Name") => `(tactic| (k_here; (with_reducible show wpAny _ _ (eval (Expr.Name _ _) (envX _ _ _ _ _ _)) _ _ _); k_dflt (refine' nameX_C (by k_asm) (by exact rfl) (by k_mem) (by assumption) ?_ (by rfl) (by rfl) (by decide); k_whole)))
section
/-- the places of a name -/
noncomputable def plc (nm : Str) : List (Str × Int) → List Int
  | [] => []
  | r :: rs => if r.1 = nm then r.2 :: plc nm rs else plc nm rs
theorem fnd_plc {nm : Str} {T : List (Addr × Obj)} : ∀ {vs : List Value} {rs : List (Str × Int)}, ObjsAt T vs rs → (fnd nm vs rs = .none ∧ plc nm rs = []) ∨ ∃ a p t tl, fnd nm vs rs = .ref a ∧ plc nm rs = p :: tl ∧ AttrAt 52 T a (Str.ofString "place") (.int p t)
  | _, _, .nil => .inl ⟨rfl, rfl⟩
  | _, _, .cons (a := a) (nm := n) (p := p) (t2 := t2) h1 h2 r => by
    by_cases h : n = nm
    · exact .inr ⟨a, p, t2, _, by simp [fnd, h], (if_pos h : plc nm ((n, p) :: _) = _), h2⟩
    · rcases fnd_plc (nm := nm) r with ⟨e1, e2⟩ | ⟨a', p', t', tl, e1, e2, e3⟩
      · exact .inl ⟨by simp [fnd, h, e1], by simp [plc, h, e2]⟩
      · exact .inr ⟨a', p', t', tl, by simp [fnd, h, e1], by simp [plc, h, e2], e3⟩
theorem plc_length {nm : Str} : ∀ (rs : List (Str × Int)), (plc nm rs).length ≤ rs.length
  | [] => Nat.le_refl _
  | r :: rs => by
    unfold plc
    have := plc_length (nm := nm) rs
    split <;> simp only [List.length_cons] <;> omega
section
variable {prog : Program} {w : World} {A : Around} {s : Shared} {L : Addr} {h₀ : Heap} {m : Str → Option Value} {news : List (Addr × Obj)}
/-- [x.place for x in its if x.name == name]: the turns -/
theorem comp_test_rest {env : Env} {ct elt : Expr} {x : Str} {scope : Scope} {cl : List (Str × Addr)} {S : List (Addr × Obj) → Prop} {its : Array Value} {Fin : List Value → List (Addr × Obj) → Prop} {nm : Str} (hS : S news)
    (hT : ∀ (a : Addr) (n : Str) (t1 : Tok) (I : Addr) (oI : Obj) (C : Addr) (oC : Obj) (D : Addr) (ys : List Value) (m₂ : Str → Option Value) (h : Heap) (tk : Nat) (Q : Bool → Shared → Prop) (E' : Value → Shared → Prop), AttrAt 52 news a (Str.ofString "name") (.str n t1) → LCg.NsObj oC m₂ → m₂ x = some (.ref a) → Fr h₀ L h m →
      News h₀ L h ((I, oI) :: (C, oC) :: (D, LCg.lst ys) :: news) → (∀ tk', Q (n == nm) { s with heap := h, toks := tk' }) → wpAny (model prog w) A (isTrue ct (compEnvC scope cl C env) (eval ct (compEnvC scope cl C env))) Q E' { s with heap := h, toks := tk })
    (hV : ∀ (a : Addr) (p : Int) (t1 : Tok) (I : Addr) (oI : Obj) (C : Addr) (oC : Obj) (D : Addr) (ys : List Value) (m₂ : Str → Option Value) (h : Heap) (tk : Nat) (Q : Value → Shared → Prop) (E' : Value → Shared → Prop), AttrAt 52 news a (Str.ofString "place") (.int p t1) → LCg.NsObj oC m₂ → m₂ x = some (.ref a) → Fr h₀ L h m →
      News h₀ L h ((I, oI) :: (C, oC) :: (D, LCg.lst ys) :: news) → (∀ tk', Q (.int p t1) { s with heap := h, toks := tk' }) → wpAny (model prog w) A (eval elt (compEnvC scope cl C env)) Q E' { s with heap := h, toks := tk }) :
    ∀ (vs : List Value) (rs : List (Str × Int)) (ys : List Value) (i : Nat), (∀ j, its[i + j]? = vs[j]?) → ObjsAt news vs rs → (∀ ws, IntsAre ws (plc nm rs) → Fin (ys ++ ws) news) →
      LCt.CompRestT prog w A h₀ L m env ct elt x scope cl s S (fun i v => its[i]? = some v) Fin vs.length i ys news := by
  intro vs
  induction vs with
  | nil =>
    intro rs ys i _ hA hF
    cases hA
    have := hF [] .nil
    rw [List.append_nil] at this
    exact LCt.CompRestT.zero this
  | cons v vs ih =>
    intro rs ys i hi hA hF
    cases hA with
    | @cons a n p t1 t2 _ rs h1 h2 hA =>
      refine LCt.CompRestT.succ ?_
      intro v' I oI C' oC D m₂ h tk E' hP hNs hx F' N' off ne
      have e0 := hi 0
      simp only [Nat.add_zero, List.getElem?_cons_zero] at e0
      have hv : v' = .ref a := by rw [hP] at e0; exact Option.some.inj e0
      subst hv
      have hi' : ∀ j, its[i + 1 + j]? = vs[j]? := fun j => by
        have := hi (j + 1)
        rw [List.getElem?_cons_succ] at this
        rw [← this]
        congr 1
        omega
      refine hT a n t1 I oI C' oC D ys m₂ h tk _ E' h1 hNs hx F' N' fun tk' => ?_
      by_cases hb : n = nm
      · rw [if_pos (beq_iff_eq.mpr hb)]
        refine hV a p t2 I oI C' oC D ys m₂ h tk' _ E' h2 hNs hx F' N' fun tk'' => ?_
        refine LCg.CompEnd.intro F' N' news (fun p hp => hp) off hS ?_
        refine ih rs _ (i + 1) hi' hA fun ws hw => ?_
        rw [List.append_assoc]
        refine hF _ ?_
        simp only [plc, hb, if_true]
        exact .cons _ _ hw
      · rw [if_neg (by simp [hb])]
        refine LCg.CompEnd.intro F' N' news (fun p hp => hp) off hS ?_
        refine ih rs _ (i + 1) hi' hA fun ws hw => ?_
        refine hF _ ?_
        simp only [plc, hb, if_false]
        exact hw
end
local macro_rules | `(tactic| walk_at "compareOp Eq ref ref") => `(tactic| (k_here; k_dflt ((refine' ke_eq_ints (by kmk_list) (by kmk_list) (by assumption) IntsAre.nil (by ktr_units) ?_; k_whole); (simp only [List.take_nil, List.take_succ_cons, List.take_zero, reduceCtorEq, decide_true, decide_false]))))
local macro_rules | `(tactic| kmk_size) => `(tactic| (refine kmk_sz (by assumption) ?_; rw [sizeLine_eq]; omega))
local macro_rules | `(tactic| walk_at "call ref") => `(tactic| (k_here; k_dflt ((refine' find1 (by k_asm) (by k_asm) (by k_asm) (by exact kst_newsOf (by k_asm) (swap_mem (a := [_, _]) (b := [_, _, _]))) (by k_asm) (by first | exact rfl | assumption) (by ktr_room) (by ktr_units) (by (refine ObjsAt.mono (fun p => ?_) (by assumption); (repeat (first | exact id | apply mem_tl)))) ?_; k_whole); intro h' tk' F' N'; (try k_sweep); (rename fnd _ _ _ = _ => e9'); rw [e9'])))
local macro_rules | `(tactic| walk_at "getAttr ref") => `(tactic| (k_here; k_dflt (refine' attr_get (by k_asm) (by k_asm) (by k_asm) (by (refine AttrAt.mono (by with_reducible assumption) (fun p => ?_); (repeat (first | exact id | exact mem_ap | apply mem_tl)))) (by k_is) (by k_is) (by k_is) (by k_is) (by k_handed) ?_; k_whole)))
set_option maxRecDepth 100000 in
set_option maxHeartbeats 8000000 in
theorem arm_find {w : World} {mean : ExcName → Option Value} {mg mb : Str → Option Value} {dp un : Nat} {gd : Option (List Code)} {cn : Str} {a : Addr} {ccd : Value} {c1 c2 : Addr} {outer : List Env} {A₀ : Around} {base h₀ : Heap} {L : Addr} {T : List (Addr × Obj)} {s : Shared}
    {Q : Flow → Shared → Prop} {E : Value → Shared → Prop} {u : Str → Option Value} {ce ty td kn md hn sh rw b1 b2 b3 b4 b5 b6 b7 : Addr} {tc k1 k2 k3 k4 k5 k6 k7 k8 k9 : Tok} {c d k : Int} {td0 tm tl0 tf ts0 : Tok} {mo lab form : Str} {cvs us : List Value} {nc no nr : Nat} {e : Int} {te : Tok} {sd ob im : Addr} {q1 q2 q3 q4 p1 p2 : Tok} {o2 : Obj} {v2 : Option Value} {rs : List (Str × Int)}
    (B : Below A₀ base outer h₀) (F : Fr h₀ L s.heap (kstB u [(Str.ofString "form", Value.str form tf), (Str.ofString "label", Value.str lab tl0), (Str.ofString "module", Value.str mo tm), (Str.ofString "deed", Value.int d td0), (Str.ofString "step", Value.int k ts0), (Str.ofString "cells", Value.ref ce), (Str.ofString "types", Value.ref ty), (Str.ofString "made", Value.ref md), (Str.ofString "held_now", Value.ref hn), (Str.ofString "shown", Value.ref sh), (Str.ofString "rows", Value.ref rw)])) (X : (Mine.hd.heap_39 w.params).In h₀)
    (N : News h₀ L s.heap ((sh, instObj 80 sd) :: (sd, dictOf (ifEs w ob im q1 q2 q3 q4 p1 p2) 4) :: (ob, listOf us.toArray no) :: (rw, listOf us.toArray nr) :: (ce, listOf cvs.toArray nc) :: (c2, o2) :: T))
    (T0 : Top Mine.hd.view_39 (looseW Mine.hd.view_39 []) mean mg mb h₀)
    (hd : dp + 20 < recursionLimit) (hu : un + 400 < cLine)
    (m1 : @Ne Nat c2 sh) (m2 : @Ne Nat c2 sd) (m3 : @Ne Nat c2 ob) (m4 : @Ne Nat c2 rw) (m5 : @Ne Nat c2 ce) (a1 : ∀ p ∈ T, p.1 ≠ c2)
    (hk0 : 0 ≤ k) (hk1 : k < 100) (hci : cvs[k.toNat]? = some (Value.int e te)) (hus : us.length ≤ 100) (hc2 : o2.data = .cell v2) (hO : ObjsAt T us rs)
    (hret : ∀ (u' : Str → Option Value) (o2' : Obj) (v2' : Option Value) (h' : Heap) (tk' : Nat), Fr h₀ L h' (kstB u' [(Str.ofString "cells", Value.ref ce), (Str.ofString "types", Value.ref ty), (Str.ofString "made", Value.ref md), (Str.ofString "held_now", Value.ref hn), (Str.ofString "shown", Value.ref sh), (Str.ofString "rows", Value.ref rw)]) → News h₀ L h' ((sh, instObj 80 sd) :: (sd, dictOf (ifEs w ob im q1 q2 q3 q4 p1 p2) 4) :: (ob, listOf us.toArray no) :: (rw, listOf us.toArray nr) :: (ce, listOf cvs.toArray nc) :: (c2, o2') :: T) → o2'.data = .cell v2' → Q .next { s with heap := h', toks := tk' }) :
    wpAny (model PySem.Challenge.rw_pb0315_01.row.prog w) (ktrTop dp un gd cn lawScope L a ccd [(Str.ofString "name", c2), (Str.ofString "one", c1)] outer) (execs armFind (envX cn lawScope L a ccd [(Str.ofString "name", c2), (Str.ofString "one", c1)])) Q E s := by
  revert X; k_fill; intro X
  dsimp only [lawScope, armFind, lawLoop, lawBody, PySem.Challenge.pw_pb0315_01]
  (w_top off; k_steps)
  k_dflt (refine LCt.CompSrcT.ledger (by rfl) (by k_asm) (by k_asm) (by k_mem) (by rw [List.size_toArray, sizeLine_eq]; omega) (fun g9 => ?_))
  k_dflt (refine comp_test_rest (nm := Txt.item (Str.ofString "abc") ((e.fdiv 3).fmod 3)) (Or.inr ⟨_, by k_mem, rfl, _, rfl⟩) ?hT ?hV us rs [] 0 (fun j => by simp) (hO.mono (fun p => ?hs)) (fun ws9 hw9 => ?_))
  case hs => (repeat (first | exact id | apply mem_tl))
  case hT =>
    clear hret hO
    rename Fr h₀ L _ _ => F7
    rename News h₀ L _ _ => N7
    clear F7 N7
    intro a9 n9 t9 I9 oI9 C9 oC9 D9 ys9 m9 h9 tk9 Q9 E9 hA9 hC9 hx9 F' N' hq9
    (w_top off; k_steps)
    all_goals exact hq9 _
  case hV =>
    clear hret hO
    rename Fr h₀ L _ _ => F7
    rename News h₀ L _ _ => N7
    clear F7 N7
    intro a9 p9 t9 I9 oI9 C9 oC9 D9 ys9 m9 h9 tk9 Q9 E9 hA9 hC9 hx9 F' N' hq9
    (w_top off; k_steps)
    all_goals exact hq9 _
  simp only [List.nil_append]
  have hp9 := plc_length (nm := Txt.item (Str.ofString "abc") ((e.fdiv 3).fmod 3)) rs
  have hp8 := hO.length
  rcases fnd_plc (nm := Txt.item (Str.ofString "abc") ((e.fdiv 3).fmod 3)) hO with ⟨e1, e2⟩ | ⟨a8, p8, t8, tl8, e1, e2, e3⟩
  all_goals (rw [e2] at hw9 hp9)
  all_goals (w_top off; k_steps)
  all_goals first
    | exact hret _ _ _ _ _ (fr_six (by k_asm) (by kst_all)) (kst_newsOf (by k_asm) (drop_mid (x := [_]) (a := [_, _, _]) (b := [_, _]))) (by assumption)
    | (exfalso; (rename _ = true => hb9); simp at hb9; done)
    | (exfalso; simp_all; done)
end
section
local macro_rules | `(tactic| walk_at "getAttr ref") => `(tactic| (k_here; k_dflt (refine' attr_get (by k_asm) (by k_asm) (by k_asm) (by (refine AttrAt.mono (by with_reducible assumption) (fun p => ?_); (repeat (first | exact id | apply mem_tl)))) (by k_is) (by k_is) (by k_is) (by k_is) (by k_handed) ?_; k_whole)))
section
theorem nums_at : ∀ {T : List (Addr × Obj)} {tys nums : List Value} {ks : List Int} {i : Nat}, AttrsAt 31 T (Str.ofString "number") tys nums → IntsAre nums ks → i < tys.length →
    ∃ a t k, tys[i]? = some (.ref a) ∧ ks[i]? = some k ∧ AttrAt 31 T a (Str.ofString "number") (.int k t)
  | _, _, _, _, _, .nil, _, h => by simp at h
  | _, _, _, _, 0, .cons (a := a) h1 _ _, q, _ => by
    cases q with
    | cons k t q => exact ⟨a, t, k, rfl, rfl, h1⟩
  | _, _, _, _, i + 1, .cons _ _ r, q, h => by
    cases q with
    | cons k t q =>
      obtain ⟨a, t, k, e1, e2, e3⟩ := nums_at (i := i) r q (by simpa using h)
      exact ⟨a, t, k, by simpa using e1, by simpa using e2, e3⟩
theorem nums_z {T : List (Addr × Obj)} {tys nums : List Value} {z : Int} (hA : AttrsAt 31 T (Str.ofString "number") tys nums) (hI : IntsAre nums (rangeKs 1 tys.length)) (h0 : 0 ≤ z) (h1 : z < (tys.length : Int)) :
    ∃ a t, tys[z.toNat]? = some (.ref a) ∧ AttrAt 31 T a (Str.ofString "number") (.int (z + 1) t) := by
  obtain ⟨a, t, k, e1, e2, e3⟩ := nums_at (i := z.toNat) hA hI (by omega)
  have hk : k = z + 1 := by
    have hlt : z.toNat < tys.length := by omega
    simp only [rangeKs, List.getElem?_map, List.getElem?_range hlt, Option.map_some, Option.some.injEq] at e2
    omega
  exact ⟨a, t, e1, hk ▸ e3⟩
theorem filter_range {z : Int} : ∀ {n : Nat}, 0 ≤ z → z < (n : Int) → (rangeKs 1 n).filter (· = z + 1) = [z + 1]
  | 0, h0, h1 => by omega
  | n + 1, h0, h1 => by
    rw [rangeKs_succ, List.filter_append]
    by_cases hz : z = (n : Int)
    · have h2 : (rangeKs 1 n).filter (· = z + 1) = [] := by
        rw [List.filter_eq_nil_iff]
        intro k hk
        have := mem_rangeKs hk
        simp only [decide_eq_true_eq]
        omega
      rw [h2, List.nil_append]
      have h3 : (1 : Int) + (n : Int) = z + 1 := by omega
      simp [h3]
    · rw [filter_range (z := z) (n := n) h0 (by omega)]
      have h3 : ¬ ((1 : Int) + (n : Int) = z + 1) := by omega
      simp [h3]
section
variable {prog : Program} {w : World} {A : Around} {s : Shared} {L : Addr} {h₀ : Heap} {m : Str → Option Value} {news : List (Addr × Obj)}
/-- [x.number for x in its if same_type(x, one)]: the turns -/
theorem comp_same_rest {env : Env} {ct elt : Expr} {x : Str} {scope : Scope} {cl : List (Str × Addr)} {S : List (Addr × Obj) → Prop} {its : Array Value} {Fin : List Value → List (Addr × Obj) → Prop} {z : Int} (hS : S news)
    (hT : ∀ (a : Addr) (k : Int) (t1 : Tok) (I : Addr) (oI : Obj) (C : Addr) (oC : Obj) (D : Addr) (ys : List Value) (m₂ : Str → Option Value) (h : Heap) (tk : Nat) (Q : Bool → Shared → Prop) (E' : Value → Shared → Prop), AttrAt 31 news a (Str.ofString "number") (.int k t1) → LCg.NsObj oC m₂ → m₂ x = some (.ref a) → Fr h₀ L h m →
      News h₀ L h ((I, oI) :: (C, oC) :: (D, LCg.lst ys) :: news) → (∀ h' tk', Fr h₀ L h' m → News h₀ L h' ((I, oI) :: (C, oC) :: (D, LCg.lst ys) :: news) → Q (k == z) { s with heap := h', toks := tk' }) → wpAny (model prog w) A (isTrue ct (compEnvC scope cl C env) (eval ct (compEnvC scope cl C env))) Q E' { s with heap := h, toks := tk })
    (hV : ∀ (a : Addr) (k : Int) (t1 : Tok) (I : Addr) (oI : Obj) (C : Addr) (oC : Obj) (D : Addr) (ys : List Value) (m₂ : Str → Option Value) (h : Heap) (tk : Nat) (Q : Value → Shared → Prop) (E' : Value → Shared → Prop), AttrAt 31 news a (Str.ofString "number") (.int k t1) → LCg.NsObj oC m₂ → m₂ x = some (.ref a) → Fr h₀ L h m →
      News h₀ L h ((I, oI) :: (C, oC) :: (D, LCg.lst ys) :: news) → (∀ tk', Q (.int k t1) { s with heap := h, toks := tk' }) → wpAny (model prog w) A (eval elt (compEnvC scope cl C env)) Q E' { s with heap := h, toks := tk }) :
    ∀ (vs nums : List Value) (ks : List Int) (ys : List Value) (i : Nat), (∀ j, its[i + j]? = vs[j]?) → AttrsAt 31 news (Str.ofString "number") vs nums → IntsAre nums ks → (∀ ws, IntsAre ws (ks.filter (· = z)) → Fin (ys ++ ws) news) →
      LCt.CompRestT prog w A h₀ L m env ct elt x scope cl s S (fun i v => its[i]? = some v) Fin vs.length i ys news := by
  intro vs
  induction vs with
  | nil =>
    intro nums ks ys i _ hA hI hF
    cases hA
    cases hI
    have := hF [] .nil
    rw [List.append_nil] at this
    exact LCt.CompRestT.zero this
  | cons v vs ih =>
    intro nums ks ys i hi hA hI hF
    cases hA with
    | @cons a w₀ _ nums h1 h2 hA =>
      cases hI with
      | @cons k t _ ks hI =>
        refine LCt.CompRestT.succ ?_
        intro v' I oI C' oC D m₂ h tk E' hP hNs hx F' N' off ne
        have e0 := hi 0
        simp only [Nat.add_zero, List.getElem?_cons_zero] at e0
        have hv : v' = .ref a := by rw [hP] at e0; exact Option.some.inj e0
        subst hv
        have hi' : ∀ j, its[i + 1 + j]? = vs[j]? := fun j => by
          have := hi (j + 1)
          rw [List.getElem?_cons_succ] at this
          rw [← this]
          congr 1
          omega
        refine hT a k t I oI C' oC D ys m₂ h tk _ E' h1 hNs hx F' N' fun h' tk' F'' N'' => ?_
        by_cases hb : k = z
        · rw [if_pos (beq_iff_eq.mpr hb)]
          refine hV a k t I oI C' oC D ys m₂ h' tk' _ E' h1 hNs hx F'' N'' fun tk'' => ?_
          refine LCg.CompEnd.intro F'' N'' news (fun p hp => hp) off hS ?_
          refine ih nums ks _ (i + 1) hi' hA hI fun ws hw => ?_
          rw [List.append_assoc]
          refine hF _ ?_
          rw [List.filter_cons_of_pos (by simpa using hb)]
          exact .cons _ _ hw
        · rw [if_neg (by simp [hb])]
          refine LCg.CompEnd.intro F'' N'' news (fun p hp => hp) off hS ?_
          refine ih nums ks _ (i + 1) hi' hA hI fun ws hw => ?_
          refine hF _ ?_
          rw [List.filter_cons_of_neg (by simpa using hb)]
          exact hw
end
noncomputable def lawRet : List Stmt := match lawTail3 with
  | [_, b] => [b]
  | _ => []
set_option maxRecDepth 100000 in
set_option maxHeartbeats 8000000 in
theorem tail_ret {w : World} {ce ty td kn md hn sh sd ob im rw c1 c2 : Addr} {b1 b2 b3 b4 b5 b6 b7 : Addr} {k1 k2 k3 k4 k5 k6 k7 k8 k9 q1 q2 q3 q4 p1 p2 : Tok} {cvs : List Value} {nc : Nat} {mean : ExcName → Option Value} {mg mb : Str → Option Value} {dp un : Nat} {gd : Option (List Code)} {cn : Str} {a : Addr} {ccd : Value} {outer : List Env} {A₀ : Around} {base h₀ : Heap} {L : Addr} {s : Shared}
    {Q : Flow → Shared → Prop} {E : Value → Shared → Prop} {u : Str → Option Value} {tys us nums : List Value} {c : Int} {tc : Tok} {nm no nr : Nat} {ko ho o1 o2 : Obj} {tl : List (Addr × Obj)} {z : Int} {a8 : Addr} {t8 : Tok}
    (B : Below A₀ base outer h₀) (X : (Mine.hd.heap_39 w.params).In h₀)
    (T0 : Top Mine.hd.view_39 (looseW Mine.hd.view_39 []) mean mg mb h₀)
    (hd : dp + 20 < recursionLimit) (hu : un + 400 < cLine) (hP : (twelve ty td kn md hn ce sh sd ob rw c1 c2).Pairwise (@Ne Nat))
    (hA : AttrsAt 31 tl (Str.ofString "number") tys nums) (hI : IntsAre nums (rangeKs 1 tys.length)) (d1 : o1.data = .cell (some (Value.ref a8))) (A8 : AttrAt 31 tl a8 (Str.ofString "number") (Value.int (z + 1) t8)) (hz0 : 0 ≤ z) (hz1 : z < (tys.length : Int)) (htys : tys.length ≤ 100)
    (F : Fr h₀ L s.heap (kstB u [(Str.ofString "cells", Value.ref ce), (Str.ofString "types", Value.ref ty), (Str.ofString "made", Value.ref md), (Str.ofString "held_now", Value.ref hn), (Str.ofString "shown", Value.ref sh), (Str.ofString "rows", Value.ref rw)])) (N : News h₀ L s.heap ((ty, instObj 116 td) :: (td, dictOf (tsEs w c kn b1 b2 b3 b4 b5 b6 b7 tc k1 k2 k3 k4 k5 k6 k7 k8 k9) 9) :: (kn, ko) :: (md, listOf tys.toArray nm) :: (hn, ho) :: (ce, listOf cvs.toArray nc) :: (sh, instObj 80 sd) :: (sd, dictOf (ifEs w ob im q1 q2 q3 q4 p1 p2) 4) :: (ob, listOf us.toArray no) :: (rw, listOf us.toArray nr) :: (c1, o1) :: (c2, o2) :: tl))
    (hret : ∀ (u' : Str → Option Value) (h' : Heap) (tk' : Nat), Fr h₀ L h' (kstB u' [(Str.ofString "cells", Value.ref ce), (Str.ofString "types", Value.ref ty), (Str.ofString "made", Value.ref md), (Str.ofString "held_now", Value.ref hn), (Str.ofString "shown", Value.ref sh), (Str.ofString "rows", Value.ref rw)]) → Q (.ret (.bool true)) { s with heap := h', toks := tk' }) :
    wpAny (model PySem.Challenge.rw_pb0315_01.row.prog w) (ktrTop dp un gd cn lawScope L a ccd [(Str.ofString "name", c2), (Str.ofString "one", c1)] outer) (execs lawRet (envX cn lawScope L a ccd [(Str.ofString "name", c2), (Str.ofString "one", c1)])) Q E s := by
  revert X; k_fill; intro X
  dsimp only [lawRet, lawTail3, lawTail, lawScope, lawBody, PySem.Challenge.pw_pb0315_01]
  (w_top off; k_steps)
  k_dflt (refine LCt.CompSrcT.ledger (by rfl) (by k_asm) (by k_asm) (by k_mem) (by rw [List.size_toArray, sizeLine_eq]; omega) (fun g9 => ?_))
  k_dflt (refine comp_same_rest (z := z + 1) (Or.inr ⟨_, by k_mem, rfl, _, rfl⟩) ?hT ?hV tys nums (rangeKs 1 tys.length) [] 0 (fun j => by simp) (hA.mono (fun p => ?hs)) hI (fun ws9 hw9 => ?_))
  case hs => (repeat (first | exact id | apply mem_tl))
  case hT =>
    clear hret hA
    rename Fr h₀ L _ _ => F7
    rename News h₀ L _ _ => N7
    clear F7 N7
    intro a9 n9 t9 I9 oI9 C9 oC9 D9 ys9 m9 h9 tk9 Q9 E9 hA9 hC9 hx9 F' N' hq9
    (w_top off; k_steps)
    all_goals exact hq9 _ _ (by k_asm) (by k_asm)
  case hV =>
    clear hret hA
    rename Fr h₀ L _ _ => F7
    rename News h₀ L _ _ => N7
    clear F7 N7
    intro a9 p9 t9 I9 oI9 C9 oC9 D9 ys9 m9 h9 tk9 Q9 E9 hA9 hC9 hx9 F' N' hq9
    (w_top off; k_steps)
    all_goals exact hq9 _
  simp only [List.nil_append]
  rw [filter_range hz0 hz1] at hw9
  (w_top off; k_steps)
  all_goals exact hret _ _ _ (by k_asm)
end
section
set_option maxRecDepth 100000 in
set_option maxHeartbeats 8000000 in
theorem tail_last {w : World} {ce ty td kn md hn sh sd ob im rw c1 c2 : Addr} {b1 b2 b3 b4 b5 b6 b7 : Addr} {k1 k2 k3 k4 k5 k6 k7 k8 k9 q1 q2 q3 q4 p1 p2 : Tok} {cvs : List Value} {nc : Nat} {mean : ExcName → Option Value} {mg mb : Str → Option Value} {dp un : Nat} {gd : Option (List Code)} {cn : Str} {a : Addr} {ccd : Value} {outer : List Env} {A₀ : Around} {base h₀ : Heap} {L : Addr} {s : Shared}
    {Q : Flow → Shared → Prop} {E : Value → Shared → Prop} {n : Nat} {u : Str → Option Value} {tys us : List Value} {c : Int} {tc : Tok} {nm no nr : Nat} {xs ys : List (List Str × Addr × Value)} {ko ho o1 o2 : Obj} {tl : List (Addr × Obj)} {es : List Int}
    (B : Below A₀ base outer h₀) (X : (Mine.hd.heap_39 w.params).In h₀)
    (T0 : Top Mine.hd.view_39 (looseW Mine.hd.view_39 []) mean mg mb h₀)
    (hd : dp + 20 < recursionLimit) (hu : un + 400 < cLine) (hP : (twelve ty td kn md hn ce sh sd ob rw c1 c2).Pairwise (@Ne Nat))
    (hn1 : n ≤ 30) (hcv : IntsAre cvs es) (hcl : cvs.length ≤ 1000) (hb : InvB w cvs b2 n tys us c xs ys ko ho o1 o2 (twelve ty td kn md hn ce sh sd ob rw c1 c2) tl)
    (F : Fr h₀ L s.heap (kstB u [(Str.ofString "cells", Value.ref ce), (Str.ofString "types", Value.ref ty), (Str.ofString "made", Value.ref md), (Str.ofString "held_now", Value.ref hn), (Str.ofString "shown", Value.ref sh), (Str.ofString "rows", Value.ref rw)])) (N : News h₀ L s.heap ((ty, instObj 116 td) :: (td, dictOf (tsEs w c kn b1 b2 b3 b4 b5 b6 b7 tc k1 k2 k3 k4 k5 k6 k7 k8 k9) 9) :: (kn, ko) :: (md, listOf tys.toArray nm) :: (hn, ho) :: (ce, listOf cvs.toArray nc) :: (sh, instObj 80 sd) :: (sd, dictOf (ifEs w ob im q1 q2 q3 q4 p1 p2) 4) :: (ob, listOf us.toArray no) :: (rw, listOf us.toArray nr) :: (c1, o1) :: (c2, o2) :: tl))
    (hret : ∀ (u' : Str → Option Value) (h' : Heap) (tk' : Nat), Fr h₀ L h' (kstB u' [(Str.ofString "cells", Value.ref ce), (Str.ofString "types", Value.ref ty), (Str.ofString "made", Value.ref md), (Str.ofString "held_now", Value.ref hn), (Str.ofString "shown", Value.ref sh), (Str.ofString "rows", Value.ref rw)]) → Q (.ret (.bool true)) { s with heap := h', toks := tk' }) :
    wpAny (model PySem.Challenge.rw_pb0315_01.row.prog w) (ktrTop dp un gd cn lawScope L a ccd [(Str.ofString "name", c2), (Str.ofString "one", c1)] outer) (execs lawTail3 (envX cn lawScope L a ccd [(Str.ofString "name", c2), (Str.ofString "one", c1)])) Q E s := by
  have hP' := hP
  obtain ⟨nums, hA, hI⟩ := hb.nums
  obtain ⟨v1, d1⟩ := hb.d1
  have h7 := hb.h7
  have h7' := hb.h7'
  have hof := hb.off
  simp only [twelve, List.pairwise_cons, List.mem_cons, List.not_mem_nil, or_false, forall_eq_or_imp, forall_eq, false_imp_iff, implies_true, and_true, List.Pairwise.nil] at hP
  obtain ⟨⟨z_ty_td, z_ty_kn, z_ty_md, z_ty_hn, z_ty_ce, z_ty_sh, z_ty_sd, z_ty_ob, z_ty_rw, z_ty_c1, z_ty_c2⟩, ⟨z_td_kn, z_td_md, z_td_hn, z_td_ce, z_td_sh, z_td_sd, z_td_ob, z_td_rw, z_td_c1, z_td_c2⟩, ⟨z_kn_md, z_kn_hn, z_kn_ce, z_kn_sh, z_kn_sd, z_kn_ob, z_kn_rw, z_kn_c1, z_kn_c2⟩, ⟨z_md_hn, z_md_ce, z_md_sh, z_md_sd, z_md_ob, z_md_rw, z_md_c1, z_md_c2⟩, ⟨z_hn_ce, z_hn_sh, z_hn_sd, z_hn_ob, z_hn_rw, z_hn_c1, z_hn_c2⟩, ⟨z_ce_sh, z_ce_sd, z_ce_ob, z_ce_rw, z_ce_c1, z_ce_c2⟩, ⟨z_sh_sd, z_sh_ob, z_sh_rw, z_sh_c1, z_sh_c2⟩, ⟨z_sd_ob, z_sd_rw, z_sd_c1, z_sd_c2⟩, ⟨z_ob_rw, z_ob_c1, z_ob_c2⟩, ⟨z_rw_c1, z_rw_c2⟩, z_c1_c2⟩ := hP
  have a1 : ∀ p ∈ tl, p.1 ≠ c1 := hof.ne (by simp [twelve])
  clear hb hof
  revert X; k_fill; intro X
  dsimp only [lawTail3, lawTail, lawScope, lawBody, PySem.Challenge.pw_pb0315_01]
  cases hcv with
  | nil =>
    (w_top off; k_steps)
    all_goals first
      | (exfalso; simp only [List.size_toArray, List.length_cons] at *; omega)
      | (obtain ⟨a8, t8, g8, A8⟩ := nums_z (z := 0) hA hI (by omega) (by omega)
         refine item_led (by k_asm) (by k_mem) (by omega) (by omega) g8 ?_ (by with_unfolding_all rfl) (by intro _; with_unfolding_all rfl)
         refine' storeX_C ?F ?N ?c ?U ?d ?_ ?e1 ?e2; (case F => k_asm); (case N => k_asm); (case c => exact rfl); (case U => k_updF); (case d => assumption); (case e1 => rfl); (case e2 => rfl)
         intro h9 o9 F9 N9 d9
         exact tail_ret (u := u) (us := us) (c := c) (nm := nm) (no := no) (nr := nr) B X T0 hd hu hP' hA hI d9 A8 (by omega) (by omega) (by omega) F9 (kst_newsOf N9 (fun p hp => by simpa using hp)) (fun u' h' tk' => hret u' h' tk'))
  | cons e te hr =>
    (w_top off; k_steps)
    all_goals first
      | (exfalso; simp only [List.size_toArray, List.length_cons] at *; omega)
      | (obtain ⟨a8, t8, g8, A8⟩ := nums_z (z := ((e :: _).getD (Int.toNat 0) 0).fmod tys.toArray.size) hA hI (by exact fmod_lo _ (by simp only [List.size_toArray]; omega)) (by (refine Int.lt_of_lt_of_le (fmod_hi _ (by simp only [List.size_toArray]; omega)) (by simp only [List.size_toArray]; omega)))
         refine item_led (by k_asm) (by k_mem) (by exact fmod_lo _ (by simp only [List.size_toArray]; omega)) (by (refine Int.lt_trans (fmod_hi _ (by simp only [List.size_toArray]; omega)) (by simp only [List.size_toArray]; omega))) g8 ?_ (by with_unfolding_all rfl) (by intro _; with_unfolding_all rfl)
         refine' storeX_C ?F ?N ?c ?U ?d ?_ ?e1 ?e2; (case F => k_asm); (case N => k_asm); (case c => exact rfl); (case U => k_updF); (case d => assumption); (case e1 => rfl); (case e2 => rfl)
         intro h9 o9 F9 N9 d9
         exact tail_ret (u := u) (us := us) (c := c) (nm := nm) (no := no) (nr := nr) B X T0 hd hu hP' hA hI d9 A8 (by exact fmod_lo _ (by simp only [List.size_toArray]; omega)) (by (refine Int.lt_of_lt_of_le (fmod_hi _ (by simp only [List.size_toArray]; omega)) (by simp only [List.size_toArray]; omega))) (by omega) F9 (kst_newsOf N9 (fun p hp => by simpa using hp)) (fun u' h' tk' => hret u' h' tk'))
end
end
end
section
theorem own_new {own new tl : List (Addr × Obj)} {adr : List Addr} {dt : Addr} (h1 : ∀ p ∈ own, @LT.lt Nat _ p.1 dt) (h2 : ∀ p ∈ new, @LE.le Nat _ dt p.1) (h3 : OwnOff own (tl.map (·.1))) : OwnOff own ((new ++ tl).map (·.1)) := by
  intro p hp b hb
  obtain ⟨q, hq, rfl⟩ := List.mem_map.mp hb
  rcases List.mem_append.mp hq with hq | hq
  · exact Nat.ne_of_lt (Nat.lt_of_lt_of_le (h1 p hp) (h2 q hq))
  · exact h3 p hp _ (List.mem_map.mpr ⟨q, hq, rfl⟩)
theorem off_new {new tl : List (Addr × Obj)} {adr : List Addr} {dt : Addr} (h1 : ∀ b ∈ adr, @LT.lt Nat _ b dt) (h2 : ∀ p ∈ new, @LE.le Nat _ dt p.1) (h3 : OwnOff tl adr) : OwnOff (new ++ tl) adr := by
  intro p hp b hb
  rcases List.mem_append.mp hp with hp | hp
  · exact (Nat.ne_of_lt (Nat.lt_of_lt_of_le (h1 b hb) (h2 p hp))).symm
  · exact h3 p hp b hb
theorem mem_L {new tl : List (Addr × Obj)} : ∀ p ∈ new, p ∈ new ++ tl := fun _ h => List.mem_append_left _ h
theorem mem_R {new tl : List (Addr × Obj)} : ∀ p ∈ tl, p ∈ new ++ tl := fun _ h => List.mem_append_right _ h
theorem nums_snoc {new tl : List (Addr × Obj)} {tys nums : List Value} {t : Addr} {v : Tok} (hA : AttrsAt 31 tl (Str.ofString "number") tys nums) (hI : IntsAre nums (rangeKs 1 tys.length)) (A : AttrAt 31 new t (Str.ofString "number") (Value.int ((tys.length : Int) + 1) v)) :
    ∃ nums, AttrsAt 31 (new ++ tl) (Str.ofString "number") (tys ++ [Value.ref t]) nums ∧ IntsAre nums (rangeKs 1 (tys ++ [Value.ref t]).length) := by
  refine ⟨nums ++ [Value.int ((tys.length : Int) + 1) v], AttrsAt.append (.cons (A.mono mem_L) rfl .nil) (hA.mono mem_R), ?_⟩
  rw [List.length_append, List.length_singleton, rangeKs_succ, Int.add_comm 1 (tys.length : Int)]
  exact IntsAre.append hI (.cons _ _ .nil)
/-- a turn's end -/
theorem turn_fin {w : World} {ce ty td kn md hn sh sd ob im rw c1 c2 : Addr} {b1 b2 b3 b4 b5 b6 b7 : Addr} {k1 k2 k3 k4 k5 k6 k7 k8 k9 q1 q2 q3 q4 p1 p2 : Tok} {cvs : List Value} {nc : Nat} {h₀ : Heap} {L : Addr} {i : Nat} {u : Str → Option Value} {tys us : List Value} {c : Int} {tc : Tok} {nm no nr : Nat} {xs ys : List (List Str × Addr × Value)} {ko ho o1 o2 : Obj} {tl own news' : List (Addr × Obj)} {s₁ : Shared} {h' : Heap} {tk : Nat}
    (hb : InvB w cvs b2 i tys us c xs ys ko ho o1 o2 (twelve ty td kn md hn ce sh sd ob rw c1 c2) tl) (F : Fr h₀ L h' (kstB u [(Str.ofString "cells", Value.ref ce), (Str.ofString "types", Value.ref ty), (Str.ofString "made", Value.ref md), (Str.ofString "held_now", Value.ref hn), (Str.ofString "shown", Value.ref sh), (Str.ofString "rows", Value.ref rw)])) (N : News h₀ L h' news')
    (ho1 : OwnOff own (twelve ty td kn md hn ce sh sd ob rw c1 c2)) (ho2 : OwnOff own (tl.map (·.1))) (hN : ∀ p ∈ (ty, instObj 116 td) :: (td, dictOf (tsEs w c kn b1 b2 b3 b4 b5 b6 b7 tc k1 k2 k3 k4 k5 k6 k7 k8 k9) 9) :: (kn, ko) :: (md, listOf tys.toArray nm) :: (hn, ho) :: (ce, listOf cvs.toArray nc) :: (sh, instObj 80 sd) :: (sd, dictOf (ifEs w ob im q1 q2 q3 q4 p1 p2) 4) :: (ob, listOf us.toArray no) :: (rw, listOf us.toArray nr) :: (c1, o1) :: (c2, o2) :: tl, p ∈ news') (hO : ∀ p ∈ own, p ∈ news') :
    InvEndG h₀ L (Inv w cvs nc ce ty td kn md hn sh sd ob im rw c1 c2 b1 b2 b3 b4 b5 b6 b7 k1 k2 k3 k4 k5 k6 k7 k8 k9 q1 q2 q3 q4 p1 p2 i) own s₁ { s₁ with heap := h', toks := tk } := by
  refine InvEndG.intro F N ⟨u, tys, us, c, tc, nm, no, nr, xs, ys, ko, ho, o1, o2, tl, hb, rfl, rfl⟩ ?_ hN hO
  intro p hp b hq
  simp only [List.map_cons] at hq
  have h1 := ho1 p hp
  simp only [twelve] at h1
  rcases List.mem_append (s := twelve ty td kn md hn ce sh sd ob rw c1 c2) (t := tl.map (·.1)) |>.mp hq with hq | hq
  · exact ho1 p hp b hq
  · exact ho2 p hp b hq
set_option maxHeartbeats 4000000 in
/-- the arm and the check -/
theorem turn_arm {w : World} {ce ty td kn md hn sh sd ob im rw c1 c2 : Addr} {b1 b2 b3 b4 b5 b6 b7 : Addr} {k1 k2 k3 k4 k5 k6 k7 k8 k9 q1 q2 q3 q4 p1 p2 : Tok} {cvs : List Value} {nc : Nat} {mean : ExcName → Option Value} {mg mb : Str → Option Value} {dp un : Nat} {gd : Option (List Code)} {cn : Str} {a : Addr} {ccd : Value} {outer : List Env} {A₀ : Around} {base h₀ : Heap} {L : Addr} {s : Shared}
    {Q : Flow → Shared → Prop} {E : Value → Shared → Prop} {i : Nat} {k : Int} {ts0 : Tok} {e : Int} {te : Tok} {u : Str → Option Value} {tys us : List Value} {c : Int} {tc : Tok} {nm no nr : Nat} {xs ys : List (List Str × Addr × Value)} {ko ho o1 o2 : Obj} {tl own : List (Addr × Obj)} {d : Int} {mo lab form : Str} {td0 tm tl0 tf : Tok}
    (B : Below A₀ base outer h₀) (X : (Mine.hd.heap_39 w.params).In h₀)
    (T0 : Top Mine.hd.view_39 (looseW Mine.hd.view_39 []) mean mg mb h₀)
    (hd : dp + 20 < recursionLimit) (hu : un + 400 < cLine) (hP : (twelve ty td kn md hn ce sh sd ob rw c1 c2).Pairwise (@Ne Nat))
    (F : Fr h₀ L s.heap (kstB u [(Str.ofString "form", Value.str form tf), (Str.ofString "label", Value.str lab tl0), (Str.ofString "module", Value.str mo tm), (Str.ofString "deed", Value.int d td0), (Str.ofString "step", Value.int k ts0), (Str.ofString "cells", Value.ref ce), (Str.ofString "types", Value.ref ty), (Str.ofString "made", Value.ref md), (Str.ofString "held_now", Value.ref hn), (Str.ofString "shown", Value.ref sh), (Str.ofString "rows", Value.ref rw)])) (N : News h₀ L s.heap ((ty, instObj 116 td) :: (td, dictOf (tsEs w c kn b1 b2 b3 b4 b5 b6 b7 tc k1 k2 k3 k4 k5 k6 k7 k8 k9) 9) :: (kn, ko) :: (md, listOf tys.toArray nm) :: (hn, ho) :: (ce, listOf cvs.toArray nc) :: (sh, instObj 80 sd) :: (sd, dictOf (ifEs w ob im q1 q2 q3 q4 p1 p2) 4) :: (ob, listOf us.toArray no) :: (rw, listOf us.toArray nr) :: (c1, o1) :: (c2, o2) :: (tl ++ own)))
    (hi : i < 30) (hb : InvB w cvs b2 i tys us c xs ys ko ho o1 o2 (twelve ty td kn md hn ce sh sd ob rw c1 c2) tl) (ho1 : OwnOff own (twelve ty td kn md hn ce sh sd ob rw c1 c2)) (ho2 : OwnOff own (tl.map (·.1)))
    (hk0 : 0 ≤ k) (hk1 : k < 100) (hci : cvs[k.toNat]? = some (Value.int e te))
    (hd1 : -2 ≤ d) (hd2 : d ≤ 3) (so1 : PyData.strOk form = true) (so2 : PyData.strOk mo = true) (so3 : PyData.strOk lab = true) (hlab : lab ≠ Str.ofString "") (hJ : Q .next = InvEndG h₀ L (Inv w cvs nc ce ty td kn md hn sh sd ob im rw c1 c2 b1 b2 b3 b4 b5 b6 b7 k1 k2 k3 k4 k5 k6 k7 k8 k9 q1 q2 q3 q4 p1 p2 (i + 1)) own s) :
    wpAny (model PySem.Challenge.rw_pb0315_01.row.prog w) (ktrTop dp un gd cn lawScope L a ccd [(Str.ofString "name", c2), (Str.ofString "one", c1)] outer) (execs (armsIf armNew armString armObj armFind :: loopCheck) (envX cn lawScope L a ccd [(Str.ofString "name", c2), (Str.ofString "one", c1)])) Q E s := by
  obtain ⟨rfl, h7, h7', ⟨nums, hA, hI⟩, kob, hob, prs, xsl, ⟨rs, hO⟩, usl, ⟨v1, d1⟩, ⟨v2, d2⟩, ⟨vb, hb2⟩, hof⟩ := hb
  have hT := kd_off ho1 hof
  simp only [twelve, List.pairwise_cons, List.mem_cons, List.not_mem_nil, or_false, forall_eq_or_imp, forall_eq, false_imp_iff, implies_true, and_true, List.Pairwise.nil] at hP
  obtain ⟨⟨z_ty_td, z_ty_kn, z_ty_md, z_ty_hn, z_ty_ce, z_ty_sh, z_ty_sd, z_ty_ob, z_ty_rw, z_ty_c1, z_ty_c2⟩, ⟨z_td_kn, z_td_md, z_td_hn, z_td_ce, z_td_sh, z_td_sd, z_td_ob, z_td_rw, z_td_c1, z_td_c2⟩, ⟨z_kn_md, z_kn_hn, z_kn_ce, z_kn_sh, z_kn_sd, z_kn_ob, z_kn_rw, z_kn_c1, z_kn_c2⟩, ⟨z_md_hn, z_md_ce, z_md_sh, z_md_sd, z_md_ob, z_md_rw, z_md_c1, z_md_c2⟩, ⟨z_hn_ce, z_hn_sh, z_hn_sd, z_hn_ob, z_hn_rw, z_hn_c1, z_hn_c2⟩, ⟨z_ce_sh, z_ce_sd, z_ce_ob, z_ce_rw, z_ce_c1, z_ce_c2⟩, ⟨z_sh_sd, z_sh_ob, z_sh_rw, z_sh_c1, z_sh_c2⟩, ⟨z_sd_ob, z_sd_rw, z_sd_c1, z_sd_c2⟩, ⟨z_ob_rw, z_ob_c1, z_ob_c2⟩, ⟨z_rw_c1, z_rw_c2⟩, z_c1_c2⟩ := hP
  have key : ∀ {c' : Int} {tc' : Tok} {ko' ho' o1' o2' : Obj} {tys' us' : List Value} {nm' no' nr' : Nat} {xs' ys' : List (List Str × Addr × Value)} {new : List (Addr × Obj)} {h' : Heap} {tk' : Nat} {u' : Str → Option Value},
      Fr h₀ L h' (kstB u' [(Str.ofString "cells", Value.ref ce), (Str.ofString "types", Value.ref ty), (Str.ofString "made", Value.ref md), (Str.ofString "held_now", Value.ref hn), (Str.ofString "shown", Value.ref sh), (Str.ofString "rows", Value.ref rw)]) → News h₀ L h' ((ty, instObj 116 td) :: (td, dictOf (tsEs w c' kn b1 b2 b3 b4 b5 b6 b7 tc' k1 k2 k3 k4 k5 k6 k7 k8 k9) 9) :: (kn, ko') :: (md, listOf tys'.toArray nm') :: (hn, ho') :: (ce, listOf cvs.toArray nc) :: (sh, instObj 80 sd) :: (sd, dictOf (ifEs w ob im q1 q2 q3 q4 p1 p2) 4) :: (ob, listOf us'.toArray no') :: (rw, listOf us'.toArray nr') :: (c1, o1') :: (c2, o2') :: ((new ++ tl) ++ own)) → OwnOff own ((new ++ tl).map (·.1)) → InvB w cvs b2 (i + 1) tys' us' c' xs' ys' ko' ho' o1' o2' (twelve ty td kn md hn ce sh sd ob rw c1 c2) (new ++ tl) →
      wpAny (model PySem.Challenge.rw_pb0315_01.row.prog w) (ktrTop dp un gd cn lawScope L a ccd [(Str.ofString "name", c2), (Str.ofString "one", c1)] outer) (execs loopCheck (envX cn lawScope L a ccd [(Str.ofString "name", c2), (Str.ofString "one", c1)])) Q E { s with heap := h', toks := tk' } := by
    intro c' tc' ko' ho' o1' o2' tys' us' nm' no' nr' xs' ys' new h' tk' u' F' N' hof' hb'
    obtain ⟨nums', hA', hI'⟩ := hb'.nums
    have N2 : News h₀ L h' ((md, listOf tys'.toArray nm') :: (ty, instObj 116 td) :: (td, dictOf (tsEs w c' kn b1 b2 b3 b4 b5 b6 b7 tc' k1 k2 k3 k4 k5 k6 k7 k8 k9) 9) :: (kn, ko') :: (hn, ho') :: (ce, listOf cvs.toArray nc) :: (sh, instObj 80 sd) :: (sd, dictOf (ifEs w ob im q1 q2 q3 q4 p1 p2) 4) :: (ob, listOf us'.toArray no') :: (rw, listOf us'.toArray nr') :: (c1, o1') :: (c2, o2') :: ((new ++ tl) ++ own)) := kst_newsOf N' (by tb_look)
    refine loop_check (b1 := b1) (b2 := b2) (b3 := b3) (b4 := b4) (b5 := b5) (b6 := b6) (b7 := b7) (tc := tc') (k1 := k1) (k2 := k2) (k3 := k3) (k4 := k4) (k5 := k5) (k6 := k6) (k7 := k7) (k8 := k8) (k9 := k9) (c := d) (d := d) (k := k) (td0 := td0) (tm := tm) (tl0 := tl0) (tf := tf) (ts0 := ts0) (mo := mo) (lab := lab) (form := form) (ty := ty) (td := td) (kn := kn) B F' X N2 T0 hd hu (by have := hb'.h7'; omega) (hA'.mono fun p hp => ?_) hI' ?_
    · exact .tail _ (.tail _ (.tail _ (.tail _ (.tail _ (.tail _ (.tail _ (.tail _ (.tail _ (.tail _ (.tail _ (List.mem_append_left _ hp)))))))))))
    · intro u2 h2 tk2 F2 N3
      rw [hJ]
      exact turn_fin (s₁ := s) (nr := nr') (no := no') (tc := tc') (nm := nm') hb' F2 N3 ho1 hof' (by tb_look) (by tb_look)
  refine wpAny_execs_cons ?_
  refine arms_split (T := []) B F X (fun _ h => nomatch h) T0 hd hu hd1 hd2 ?_ ?_ ?_ ?_
  · intro hd0 Q' tk' hQ
    by_cases hz : d = 0
    · refine arm_new0 (xs := xs) (ys := ys) (T := ((ce, listOf cvs.toArray nc) :: (sh, instObj 80 sd) :: (sd, dictOf (ifEs w ob im q1 q2 q3 q4 p1 p2) 4) :: (ob, listOf us.toArray no) :: (rw, listOf us.toArray nr) :: (c1, o1) :: (c2, o2) :: (tl ++ own))) B F X (kst_newsOf N (by tb_look)) T0 hd hu z_ty_td z_ty_kn z_td_kn z_td_md z_td_hn z_kn_md z_kn_hn z_md_hn z_ty_md z_ty_hn (by repeat (first | exact hT.ne (by simp [twelve]) | refine List.forall_mem_cons.mpr ⟨by k_ne, ?_⟩)) (by repeat (first | exact hT.ne (by simp [twelve]) | refine List.forall_mem_cons.mpr ⟨by k_ne, ?_⟩)) (by repeat (first | exact hT.ne (by simp [twelve]) | refine List.forall_mem_cons.mpr ⟨by k_ne, ?_⟩)) (by repeat (first | exact hT.ne (by simp [twelve]) | refine List.forall_mem_cons.mpr ⟨by k_ne, ?_⟩)) hz so1 so2 (by omega) ?_
      intro u' t dt new h' tk' tc' v' F' N' A hl hg
      have hall := ktn_ltOf hl.2.2.2.2.2
      simp only [AllLt] at hl
      have hlt : ∀ b ∈ (twelve ty td kn md hn ce sh sd ob rw c1 c2), @LT.lt Nat _ b dt := by
        simp only [twelve, List.forall_mem_cons, List.not_mem_nil, false_imp_iff, implies_true, and_true]
        exact ⟨by simp only [hl], by simp only [hl], by simp only [hl], by simp only [hl], by simp only [hl], by simp only [hl], by simp only [hl], by simp only [hl], by simp only [hl], by simp only [hl], by simp only [hl], by simp only [hl]⟩
      refine hQ _ (key (new := new) F' (kst_newsOf N' (by tb_look)) (own_new (adr := []) (fun p hp => hall p (by ktn_lt)) hg ho2)
        ⟨by simp, by simp; omega, by simp; omega, nums_snoc hA hI A, kob, hob, prs.mono mem_R (by simp), by omega, ⟨rs, hO.mono mem_R⟩, by omega, ⟨v1, d1⟩, ⟨v2, d2⟩, ⟨vb, hb2.mono mem_R⟩, off_new hlt hg hof⟩)
    · refine arm_new1 (T := ((ce, listOf cvs.toArray nc) :: (sh, instObj 80 sd) :: (sd, dictOf (ifEs w ob im q1 q2 q3 q4 p1 p2) 4) :: (ob, listOf us.toArray no) :: (rw, listOf us.toArray nr) :: (c1, o1) :: (c2, o2) :: (tl ++ own))) (xs := xs) (ys := ys) B F X (kst_newsOf N (by tb_look)) T0 hd hu z_ty_td z_ty_kn z_td_kn z_td_md z_td_hn z_kn_md z_kn_hn z_md_hn z_ty_md z_ty_hn (by repeat (first | exact hT.ne (by simp [twelve]) | refine List.forall_mem_cons.mpr ⟨by k_ne, ?_⟩)) (by repeat (first | exact hT.ne (by simp [twelve]) | refine List.forall_mem_cons.mpr ⟨by k_ne, ?_⟩)) (by repeat (first | exact hT.ne (by simp [twelve]) | refine List.forall_mem_cons.mpr ⟨by k_ne, ?_⟩)) (by repeat (first | exact hT.ne (by simp [twelve]) | refine List.forall_mem_cons.mpr ⟨by k_ne, ?_⟩)) kob hob (prs.keys1.mono fun p hp => by ktn_lt) (prs.keys2.mono fun p hp => by ktn_lt) (by omega) (by have := prs.length; omega) hd1 (by omega) hlab so1 so2 so3 (by omega) ?_
      intro u' t kt kt2 dt ko' ho' new h' tk' tc' j' v' F' N' D1 D2 K A hl hg
      have hall := ktn_ltOf hl.2.2.2.2.2
      simp only [AllLt] at hl
      have hlt : ∀ b ∈ (twelve ty td kn md hn ce sh sd ob rw c1 c2), @LT.lt Nat _ b dt := by
        simp only [twelve, List.forall_mem_cons, List.not_mem_nil, false_imp_iff, implies_true, and_true]
        exact ⟨by simp only [hl], by simp only [hl], by simp only [hl], by simp only [hl], by simp only [hl], by simp only [hl], by simp only [hl], by simp only [hl], by simp only [hl], by simp only [hl], by simp only [hl], by simp only [hl]⟩
      obtain ⟨o5, e5, e6⟩ := K _ (.head _)
      obtain ⟨o7, e7, e8⟩ := K _ (.tail _ (.head _))
      refine hQ _ (key (new := new) F' (kst_newsOf N' (by tb_look)) (own_new (adr := []) (fun p hp => hall p (by ktn_lt)) hg ho2)
        ⟨by simp, by simp; omega, by simp; omega, nums_snoc hA hI A, D1, D2, PairsAt.stored (prs.mono mem_R (by simp)) so2 so3 (mem_L _ e5) e6 (mem_L _ e7) e8 (A.mono mem_L) (by omega) (by simp; omega), Nat.le_trans storedH_len (by omega), ⟨rs, hO.mono mem_R⟩, by omega, ⟨v1, d1⟩, ⟨v2, d2⟩, ⟨vb, hb2.mono mem_R⟩, off_new hlt hg hof⟩)
  · intro hd0 Q' tk' hQ
    refine arm_string (xs := xs) (ys := ys) (T := ((sh, instObj 80 sd) :: (sd, dictOf (ifEs w ob im q1 q2 q3 q4 p1 p2) 4) :: (ob, listOf us.toArray no) :: (rw, listOf us.toArray nr) :: (c1, o1) :: (c2, o2) :: (tl ++ own))) B F X (kst_newsOf N (by tb_look)) T0 hd hu z_ty_td z_ty_kn z_td_kn z_td_md z_td_hn z_kn_md z_kn_hn z_md_hn z_ty_md z_ty_hn (by repeat (first | exact hT.ne (by simp [twelve]) | refine List.forall_mem_cons.mpr ⟨by k_ne, ?_⟩)) (by repeat (first | exact hT.ne (by simp [twelve]) | refine List.forall_mem_cons.mpr ⟨by k_ne, ?_⟩)) (by repeat (first | exact hT.ne (by simp [twelve]) | refine List.forall_mem_cons.mpr ⟨by k_ne, ?_⟩)) (by repeat (first | exact hT.ne (by simp [twelve]) | refine List.forall_mem_cons.mpr ⟨by k_ne, ?_⟩)) (by assumption) (by assumption) hk0 hk1 hci (hb2.mono fun p hp => by ktn_lt) (by omega) ?_
    intro u' t dt new h' tk' tc' v' F' N' A hl hg
    have hall := ktn_ltOf hl.2.2.2.2.2.2
    simp only [AllLt] at hl
    have hlt : ∀ b ∈ (twelve ty td kn md hn ce sh sd ob rw c1 c2), @LT.lt Nat _ b dt := by
      simp only [twelve, List.forall_mem_cons, List.not_mem_nil, false_imp_iff, implies_true, and_true]
      exact ⟨by simp only [hl], by simp only [hl], by simp only [hl], by simp only [hl], by simp only [hl], by simp only [hl], by simp only [hl], by simp only [hl], by simp only [hl], by simp only [hl], by simp only [hl], by simp only [hl]⟩
    refine hQ _ (key (new := new) F' (kst_newsOf N' (by tb_look)) (own_new (adr := []) (fun p hp => hall p (by ktn_lt)) hg ho2)
      ⟨by simp, by simp; omega, by simp; omega, nums_snoc hA hI A, kob, hob, prs.mono mem_R (by simp), by omega, ⟨rs, hO.mono mem_R⟩, by omega, ⟨v1, d1⟩, ⟨v2, d2⟩, ⟨vb, hb2.mono mem_R⟩, off_new hlt hg hof⟩)
  · intro hd0 Q' tk' hQ
    refine arm_obj (T := ((kn, ko) :: (md, listOf tys.toArray nm) :: (hn, ho) :: (c2, o2) :: (tl ++ own))) B F X (kst_newsOf N (by tb_look)) T0 hd hu z_ty_ob.symm z_td_ob.symm z_ce_ob.symm z_sh_ob.symm z_sd_ob.symm z_ob_rw z_ob_c1 z_ty_rw.symm z_td_rw.symm z_ce_rw.symm z_sh_rw.symm z_sd_rw.symm z_rw_c1 z_ty_c1.symm z_td_c1.symm z_ce_c1.symm z_sh_c1.symm z_sd_c1.symm (by repeat (first | exact hT.ne (by simp [twelve]) | refine List.forall_mem_cons.mpr ⟨by k_ne, ?_⟩)) (by repeat (first | exact hT.ne (by simp [twelve]) | refine List.forall_mem_cons.mpr ⟨by k_ne, ?_⟩)) (by repeat (first | exact hT.ne (by simp [twelve]) | refine List.forall_mem_cons.mpr ⟨by k_ne, ?_⟩)) hk0 hk1 hci (by omega) rfl d1 ?_
    intro u' x dx o1' nm' new h' tk' y1 y2 F' N' hc A1 A2 hl hg
    have hall := ktn_ltOf hl.2.2.2.2.2.2.2.2
    simp only [AllLt] at hl
    have hlt : ∀ b ∈ (twelve ty td kn md hn ce sh sd ob rw c1 c2), @LT.lt Nat _ b dx := by
      simp only [twelve, List.forall_mem_cons, List.not_mem_nil, false_imp_iff, implies_true, and_true]
      exact ⟨by simp only [hl], by simp only [hl], by simp only [hl], by simp only [hl], by simp only [hl], by simp only [hl], by simp only [hl], by simp only [hl], by simp only [hl], by simp only [hl], by simp only [hl], by simp only [hl]⟩
    refine hQ _ (key (new := new) F' (kst_newsOf N' (by tb_look)) (own_new (adr := []) (fun p hp => hall p (by ktn_lt)) hg ho2)
      ⟨rfl, h7, by omega, ⟨nums, hA.mono mem_R, hI⟩, kob, hob, prs.mono mem_R (Nat.le_refl _), by omega, ⟨_, ObjsAt.append (.cons (A1.mono mem_L) (A2.mono mem_L) .nil) (hO.mono mem_R)⟩, by simp; omega, ⟨_, hc⟩, ⟨v2, d2⟩, ⟨vb, hb2.mono mem_R⟩, off_new hlt hg hof⟩)
  · intro hd0 Q' tk' hQ
    refine arm_find (b1 := b1) (b2 := b2) (b3 := b3) (b4 := b4) (b5 := b5) (b6 := b6) (b7 := b7) (tc := tc) (k1 := k1) (k2 := k2) (k3 := k3) (k4 := k4) (k5 := k5) (k6 := k6) (k7 := k7) (k8 := k8) (k9 := k9) (c := d) (td := td) (kn := kn) (T := ((ty, instObj 116 td) :: (td, dictOf (tsEs w (tys.length : Int) kn b1 b2 b3 b4 b5 b6 b7 tc k1 k2 k3 k4 k5 k6 k7 k8 k9) 9) :: (kn, ko) :: (md, listOf tys.toArray nm) :: (hn, ho) :: (c1, o1) :: (tl ++ own))) B F X (kst_newsOf N (by tb_look)) T0 hd hu z_sh_c2.symm z_sd_c2.symm z_ob_c2.symm z_rw_c2.symm z_ce_c2.symm (by repeat (first | exact hT.ne (by simp [twelve]) | refine List.forall_mem_cons.mpr ⟨by k_ne, ?_⟩)) hk0 hk1 hci (by omega) d2 (hO.mono fun p hp => by ktn_lt) ?_
    intro u' o2' v2' h' tk' F' N' hc
    refine hQ _ (key (new := []) F' (kst_newsOf N' (by tb_look)) ho2
      ⟨rfl, h7, by omega, ⟨nums, hA, hI⟩, kob, hob, prs, by omega, ⟨rs, hO⟩, by omega, ⟨v1, d1⟩, ⟨_, hc⟩, ⟨vb, hb2⟩, hof⟩)
end
section
theorem ints_get : ∀ {vs : List Value} {ns : List Int} {i : Nat}, IntsAre vs ns → i < vs.length → ∃ n t, vs[i]? = some (Value.int n t)
  | _, _, _, .nil, h => by simp at h
  | _, _, 0, .cons n t r, _ => ⟨n, t, rfl⟩
  | _, _, i + 1, .cons n t r, h => by
    obtain ⟨m, t', e⟩ := ints_get (i := i) r (by simpa using h)
    exact ⟨m, t', by simpa using e⟩
/-- a whole turn -/
theorem turn {w : World} {ce ty td kn md hn sh sd ob im rw c1 c2 : Addr} {b1 b2 b3 b4 b5 b6 b7 : Addr} {k1 k2 k3 k4 k5 k6 k7 k8 k9 q1 q2 q3 q4 p1 p2 : Tok} {cvs : List Value} {nc : Nat} {mean : ExcName → Option Value} {mg mb : Str → Option Value} {dp un : Nat} {gd : Option (List Code)} {cn : Str} {a : Addr} {ccd : Value} {outer : List Env} {A₀ : Around} {base h₀ : Heap} {L : Addr} {s : Shared}
    {Q : Flow → Shared → Prop} {E : Value → Shared → Prop} {i : Nat} {t : Tok} {es : List Int} {m₁ : Str → Option Value} {nx own : List (Addr × Obj)}
    (B : Below A₀ base outer h₀) (X : (Mine.hd.heap_39 w.params).In h₀)
    (T0 : Top Mine.hd.view_39 (looseW Mine.hd.view_39 []) mean mg mb h₀)
    (hd : dp + 20 < recursionLimit) (hu : un + 400 < cLine) (hP : (twelve ty td kn md hn ce sh sd ob rw c1 c2).Pairwise (@Ne Nat))
    (hi : i < 30) (hi2 : i < cvs.length) (hcv : IntsAre cvs es) (hoff : OwnOff own (nx.map (·.1))) (hJ : Inv w cvs nc ce ty td kn md hn sh sd ob im rw c1 c2 b1 b2 b3 b4 b5 b6 b7 k1 k2 k3 k4 k5 k6 k7 k8 k9 q1 q2 q3 q4 p1 p2 i m₁ nx)
    (F : Fr h₀ L s.heap (fun y => if y = Str.ofString "step" then some (Value.int ((i : Nat) : Int) t) else m₁ y)) (N : News h₀ L s.heap (nx ++ own)) :
    wpAny (model PySem.Challenge.rw_pb0315_01.row.prog w) (ktrTop dp un gd cn lawScope L a ccd [(Str.ofString "name", c2), (Str.ofString "one", c1)] outer) (execs lawLoop (envX cn lawScope L a ccd [(Str.ofString "name", c2), (Str.ofString "one", c1)])) (InvPostG h₀ L (Inv w cvs nc ce ty td kn md hn sh sd ob im rw c1 c2 b1 b2 b3 b4 b5 b6 b7 k1 k2 k3 k4 k5 k6 k7 k8 k9 q1 q2 q3 q4 p1 p2 (i + 1)) own s Q) E s := by
  obtain ⟨u, tys, us, c, tc, nm, no, nr, xs, ys, ko, ho, o1, o2, tl, hb, rfl, rfl⟩ := hJ
  obtain ⟨e, te, hci⟩ := ints_get hcv hi2
  have hoff' : OwnOff own ((twelve ty td kn md hn ce sh sd ob rw c1 c2) ++ tl.map (·.1)) := hoff
  have ho1 : OwnOff own (twelve ty td kn md hn ce sh sd ob rw c1 c2) := fun p hp b hb => hoff' p hp b (List.mem_append_left _ hb)
  have ho2 : OwnOff own (tl.map (·.1)) := fun p hp b hb => hoff' p hp b (List.mem_append_right _ hb)
  have N0 : News h₀ L s.heap ((ty, instObj 116 td) :: (td, dictOf (tsEs w c kn b1 b2 b3 b4 b5 b6 b7 tc k1 k2 k3 k4 k5 k6 k7 k8 k9) 9) :: (kn, ko) :: (md, listOf tys.toArray nm) :: (hn, ho) :: (ce, listOf cvs.toArray nc) :: (sh, instObj 80 sd) :: (sd, dictOf (ifEs w ob im q1 q2 q3 q4 p1 p2) 4) :: (ob, listOf us.toArray no) :: (rw, listOf us.toArray nr) :: (c1, o1) :: (c2, o2) :: (tl ++ own)) := N
  rw [lawLoop_eq]
  refine loop_head (k := ((i : Nat) : Int)) (ts0 := t) (T := ((ty, instObj 116 td) :: (td, dictOf (tsEs w c kn b1 b2 b3 b4 b5 b6 b7 tc k1 k2 k3 k4 k5 k6 k7 k8 k9) 9) :: (kn, ko) :: (md, listOf tys.toArray nm) :: (hn, ho) :: (sh, instObj 80 sd) :: (sd, dictOf (ifEs w ob im q1 q2 q3 q4 p1 p2) 4) :: (ob, listOf us.toArray no) :: (rw, listOf us.toArray nr) :: (c1, o1) :: (c2, o2) :: (tl ++ own))) B F X (kst_newsOf N0 (by tb_look)) T0 hd hu (by omega) (by omega) (by simpa using hci) ?_
  intro u' d mo lab form td0 tm tl0 tf h' tk' F' N' hd1 hd2 so1 so2 so3 hlab
  exact turn_arm (s := { s with heap := h', toks := tk' }) B X T0 hd hu hP F' (kst_newsOf N' (by tb_look)) hi hb ho1 ho2 (by omega) (by omega) (by simpa using hci) hd1 hd2 so1 so2 so3 hlab rfl
theorem lawBody_eq : lawBody = lawInit ++ (lawFor :: lawTail) := rfl
theorem law_iter {w : World} {ce ty td kn md hn sh sd ob im rw c1 c2 : Addr} {b1 b2 b3 b4 b5 b6 b7 : Addr} {k1 k2 k3 k4 k5 k6 k7 k8 k9 q1 q2 q3 q4 p1 p2 : Tok} {cvs : List Value} {nc : Nat} {mean : ExcName → Option Value} {mg mb : Str → Option Value} {dp un : Nat} {gd : Option (List Code)} {cn : Str} {a : Addr} {ccd : Value} {outer : List Env} {A₀ : Around} {base h₀ : Heap} {L : Addr} {s : Shared}
    {Q : Flow → Shared → Prop} {E : Value → Shared → Prop} {es : List Int} {r : Addr} {t₀ t₁ t₂ : Tok} {n : Nat} {m₀ : Str → Option Value} {nx news : List (Addr × Obj)}
    (B : Below A₀ base outer h₀) (X : (Mine.hd.heap_39 w.params).In h₀)
    (T0 : Top Mine.hd.view_39 (looseW Mine.hd.view_39 []) mean mg mb h₀)
    (hd : dp + 20 < recursionLimit) (hu : un + 400 < cLine) (hP : (twelve ty td kn md hn ce sh sd ob rw c1 c2).Pairwise (@Ne Nat))
    (hn1 : n ≤ 30) (hn2 : n ≤ cvs.length) (hcv : IntsAre cvs es) (hr : IsRange s.heap r 0 (n : Int) 1 t₀ t₁ t₂) (hJ : Inv w cvs nc ce ty td kn md hn sh sd ob im rw c1 c2 b1 b2 b3 b4 b5 b6 b7 k1 k2 k3 k4 k5 k6 k7 k8 k9 q1 q2 q3 q4 p1 p2 0 m₀ nx)
    (F : Fr h₀ L s.heap m₀) (N : News h₀ L s.heap news) (hs : ∀ p ∈ nx, p ∈ news) (hh : Around.handled (ktrTop dp un gd cn lawScope L a ccd [(Str.ofString "name", c2), (Str.ofString "one", c1)] outer) = none)
    (hret : ∀ (m : Str → Option Value) (nx : List (Addr × Obj)) (h' : Heap) (tk' : Nat), Inv w cvs nc ce ty td kn md hn sh sd ob im rw c1 c2 b1 b2 b3 b4 b5 b6 b7 k1 k2 k3 k4 k5 k6 k7 k8 k9 q1 q2 q3 q4 p1 p2 n m nx → Fr h₀ L h' m → News h₀ L h' nx → Q .next { s with heap := h', toks := tk' }) :
    wpAny (model PySem.Challenge.rw_pb0315_01.row.prog w) (ktrTop dp un gd cn lawScope L a ccd [(Str.ofString "name", c2), (Str.ofString "one", c1)] outer) (pyIter (.ref r)) (fun it s₂ => LoopAtV PySem.Challenge.rw_pb0315_01.row.prog w (ktrTop dp un gd cn lawScope L a ccd [(Str.ofString "name", c2), (Str.ofString "one", c1)] outer) h₀ (envX cn lawScope L a ccd [(Str.ofString "name", c2), (Str.ofString "one", c1)]) (Str.ofString "step") lawLoop Q E it s₂) E s := by
  have hsz : Builtin.Range.rangeSize 0 (n : Int) 1 = (n : Int) := (rangeSize_nat _ _).trans (by simp)
  refine wpAny_pyIter_range hr (small_one (by omega) (by omega) (by omega) (by omega)) ?_
  have W : Walks PySem.Challenge.rw_pb0315_01.row.prog w (ktrTop dp un gd cn lawScope L a ccd [(Str.ofString "name", c2), (Str.ofString "one", c1)] outer) s.heap.objs.size [s.heap.objs.size] [s.heap.objs.size] n (fun i v => i < n ∧ ∃ t, v = .int (0 + i * 1) t)
      (fun i h => IsRangeIter h s.heap.objs.size (0 + (i : Nat) * 1) ((n : Int) - (i : Nat)) 1) := (Walks.range hh _ 0 1 n).bound
  refine kdr_loop (fun i m nx => Inv w cvs nc ce ty td kn md hn sh sd ob im rw c1 c2 b1 b2 b3 b4 b5 b6 b7 k1 k2 k3 k4 k5 k6 k7 k8 k9 q1 q2 q3 q4 p1 p2 i m nx) W (fun _ h => h) (fun _ h => h) ?_ ?_ ?_ ?_ (by show IsRangeIter _ _ _ _ _; rw [hsz]; simpa using Heap.get?_push_size _ rfl) (F.push _) (fun p hp => ⟨Heap.get?_push_of_some _ (N p (hs p hp)).1, (N p (hs p hp)).2⟩) hJ ?_ ?_
  · intro i h hi b hb
    rw [List.mem_singleton.mp hb]
    exact ⟨_, hi⟩
  · intro hm
    exact absurd F.ns.lt ((List.mem_singleton.mp hm) ▸ Nat.lt_irrefl _)
  · intro b hb
    rw [List.mem_singleton.mp hb]
    exact next_is_new F
  · intro p hp hI
    exact absurd (Heap.lt_size (N p (hs p hp)).1) ((List.mem_singleton.mp hI) ▸ Nat.lt_irrefl _)
  · rintro i v m₁ nx h tk own hi ⟨_, t, rfl⟩ hoff hJ' F₁ N₁
    have e1 : (0 : Int) + (i : Int) * 1 = (i : Int) := by omega
    rw [e1] at F₁
    exact turn (s := { s with heap := h, toks := tk }) B X T0 hd hu hP (by omega) (by omega) hcv hoff hJ' F₁ N₁
  · intro m₁ nx h tk hJ' F₁ N₁
    exact hret m₁ nx h tk hJ' F₁ N₁
end
section
local macro_rules | `(tactic| walk_at "call builtin:len") => `(tactic| (k_here; k_dflt (refine' len_led (by k_asm) (by k_mem) (by first | assumption | (simp only [List.size_toArray]; omega)) ?_; k_whole; intro k' k'')))
local macro_rules | `(tactic| walk_at "exec For Name Call cons nil") => `(tactic| (k_here; (k_dflt ((rename Fr _ _ _ _ => lF'); (refine' For_invVF lF' (by exact rfl) (by exact rfl) ?_; k_whole)))))
theorem ints_len : ∀ {vs : List Value} {ns : List Int}, IntsAre vs ns → vs.length = ns.length
  | _, _, .nil => rfl
  | _, _, .cons _ _ r => congrArg (· + 1) (ints_len r)
noncomputable def lawIter : Expr := match lawFor with
  | .For _ e _ _ _ => e
  | _ => .Name (Str.ofString "") ⟨0, 0, 0, 0⟩
theorem lawFor_eq : ∃ p p', lawFor = .For (.Name (Str.ofString "step") p) lawIter lawLoop [] p' := ⟨_, _, rfl⟩
set_option maxRecDepth 100000 in
set_option maxHeartbeats 8000000 in
theorem law_for {w : World} {ce ty td kn md hn sh sd ob im rw c1 c2 : Addr} {b1 b2 b3 b4 b5 b6 b7 : Addr} {k1 k2 k3 k4 k5 k6 k7 k8 k9 q1 q2 q3 q4 p1 p2 : Tok} {cvs : List Value} {nc : Nat} {mean : ExcName → Option Value} {mg mb : Str → Option Value} {dp un : Nat} {gd : Option (List Code)} {cn : Str} {a : Addr} {ccd : Value} {outer : List Env} {A₀ : Around} {base h₀ : Heap} {L : Addr} {s : Shared}
    {Q : Flow → Shared → Prop} {E : Value → Shared → Prop} {es : List Int} {u : Str → Option Value} {tys us : List Value} {c : Int} {tc : Tok} {nm no nr : Nat} {xs ys : List (List Str × Addr × Value)} {ko ho o1 o2 : Obj} {tl : List (Addr × Obj)}
    (B : Below A₀ base outer h₀) (X : (Mine.hd.heap_39 w.params).In h₀)
    (T0 : Top Mine.hd.view_39 (looseW Mine.hd.view_39 []) mean mg mb h₀)
    (hd : dp + 20 < recursionLimit) (hu : un + 400 < cLine) (hP : (twelve ty td kn md hn ce sh sd ob rw c1 c2).Pairwise (@Ne Nat))
    (hcv : IntsAre cvs es) (hcl : cvs.length ≤ 1000) (hb : InvB w cvs b2 0 tys us c xs ys ko ho o1 o2 (twelve ty td kn md hn ce sh sd ob rw c1 c2) tl)
    (F : Fr h₀ L s.heap (kstB u [(Str.ofString "cells", Value.ref ce), (Str.ofString "types", Value.ref ty), (Str.ofString "made", Value.ref md), (Str.ofString "held_now", Value.ref hn), (Str.ofString "shown", Value.ref sh), (Str.ofString "rows", Value.ref rw)])) (N : News h₀ L s.heap ((ty, instObj 116 td) :: (td, dictOf (tsEs w c kn b1 b2 b3 b4 b5 b6 b7 tc k1 k2 k3 k4 k5 k6 k7 k8 k9) 9) :: (kn, ko) :: (md, listOf tys.toArray nm) :: (hn, ho) :: (ce, listOf cvs.toArray nc) :: (sh, instObj 80 sd) :: (sd, dictOf (ifEs w ob im q1 q2 q3 q4 p1 p2) 4) :: (ob, listOf us.toArray no) :: (rw, listOf us.toArray nr) :: (c1, o1) :: (c2, o2) :: tl))
    (hE : PassesOwn (model PySem.Challenge.rw_pb0315_01.row.prog w) (ktrTop dp un gd cn lawScope L a ccd [(Str.ofString "name", c2), (Str.ofString "one", c1)] outer) (envX cn lawScope L a ccd [(Str.ofString "name", c2), (Str.ofString "one", c1)]) E)
    (hret : ∀ (n : Nat) (m : Str → Option Value) (nx : List (Addr × Obj)) (h' : Heap) (tk' : Nat), n ≤ 30 → Inv w cvs nc ce ty td kn md hn sh sd ob im rw c1 c2 b1 b2 b3 b4 b5 b6 b7 k1 k2 k3 k4 k5 k6 k7 k8 k9 q1 q2 q3 q4 p1 p2 n m nx → Fr h₀ L h' m → News h₀ L h' nx → Q .next { s with heap := h', toks := tk' }) :
    wpAny (model PySem.Challenge.rw_pb0315_01.row.prog w) (ktrTop dp un gd cn lawScope L a ccd [(Str.ofString "name", c2), (Str.ofString "one", c1)] outer) (exec lawFor (envX cn lawScope L a ccd [(Str.ofString "name", c2), (Str.ofString "one", c1)])) Q E s := by
  revert X; k_fill; intro X
  have hJ : Inv w cvs nc ce ty td kn md hn sh sd ob im rw c1 c2 b1 b2 b3 b4 b5 b6 b7 k1 k2 k3 k4 k5 k6 k7 k8 k9 q1 q2 q3 q4 p1 p2 0 (kstB u [(Str.ofString "cells", Value.ref ce), (Str.ofString "types", Value.ref ty), (Str.ofString "made", Value.ref md), (Str.ofString "held_now", Value.ref hn), (Str.ofString "shown", Value.ref sh), (Str.ofString "rows", Value.ref rw)]) ((ty, instObj 116 td) :: (td, dictOf (tsEs w c kn b1 b2 b3 b4 b5 b6 b7 tc k1 k2 k3 k4 k5 k6 k7 k8 k9) 9) :: (kn, ko) :: (md, listOf tys.toArray nm) :: (hn, ho) :: (ce, listOf cvs.toArray nc) :: (sh, instObj 80 sd) :: (sd, dictOf (ifEs w ob im q1 q2 q3 q4 p1 p2) 4) :: (ob, listOf us.toArray no) :: (rw, listOf us.toArray nr) :: (c1, o1) :: (c2, o2) :: tl) := ⟨u, tys, us, c, tc, nm, no, nr, xs, ys, ko, ho, o1, o2, tl, hb, rfl, rfl⟩
  generalize hLED : ((ty, instObj 116 td) :: (td, dictOf (tsEs w c kn b1 b2 b3 b4 b5 b6 b7 tc k1 k2 k3 k4 k5 k6 k7 k8 k9) 9) :: (kn, ko) :: (md, listOf tys.toArray nm) :: (hn, ho) :: (ce, listOf cvs.toArray nc) :: (sh, instObj 80 sd) :: (sd, dictOf (ifEs w ob im q1 q2 q3 q4 p1 p2) 4) :: (ob, listOf us.toArray no) :: (rw, listOf us.toArray nr) :: (c1, o1) :: (c2, o2) :: tl) = nx0 at hJ
  obtain ⟨p, p', he⟩ := lawFor_eq
  rw [he]
  refine For_invVF F rfl rfl ?_ (hE := hE)
  dsimp only [lawIter, lawFor, lawScope, lawBody, PySem.Challenge.pw_pb0315_01]
  w_top off
  repeat' ((fail_if_success (with_reducible show wpAny _ _ (pyIter _) _ _ _)); first | (k_unfold; (try dsimp only)) | (k_end; wrow_close) | walk1 | (dsimp only; walk1) | (leave1; walk_say "STEP leave1"; try dsimp only))
  have hm : (if (es.length : Int) < 30 then (es.length : Int) else 30) = ((min es.length 30 : Nat) : Int) := by split <;> omega
  have hI : IntsAre cvs es := by assumption
  have hle := ints_len hI
  rename IsRange _ _ _ _ _ _ _ _ => R'
  rename Fr _ _ _ _ => F'
  rename News _ _ _ _ => N'
  rw [hm] at R'
  refine law_iter B X T0 hd hu hP (by omega) (by omega) hI R' hJ F' N' (by subst hLED; exact fun p hp => hp) rfl ?_
  intro m nx h' tk' hJ' F'' N''
  exact hret _ m nx h' tk' (by omega) hJ' F'' N''
end
section
theorem law_main {w : World} {ce ty td kn md hn sh sd ob im rw c1 c2 : Addr} {b1 b2 b3 b4 b5 b6 b7 : Addr} {k1 k2 k3 k4 k5 k6 k7 k8 k9 q1 q2 q3 q4 p1 p2 : Tok} {cvs : List Value} {nc : Nat} {mean : ExcName → Option Value} {mg mb : Str → Option Value} {dp un : Nat} {gd : Option (List Code)} {cn : Str} {a : Addr} {ccd : Value} {outer : List Env} {A₀ : Around} {base h₀ : Heap} {L : Addr} {s : Shared}
    {Q : Flow → Shared → Prop} {E : Value → Shared → Prop} {es : List Int} {u : Str → Option Value} {tys us : List Value} {c : Int} {tc : Tok} {nm no nr : Nat} {xs ys : List (List Str × Addr × Value)} {ko ho o1 o2 : Obj} {tl : List (Addr × Obj)}
    (B : Below A₀ base outer h₀) (X : (Mine.hd.heap_39 w.params).In h₀)
    (T0 : Top Mine.hd.view_39 (looseW Mine.hd.view_39 []) mean mg mb h₀)
    (hd : dp + 20 < recursionLimit) (hu : un + 400 < cLine) (hP : (twelve ty td kn md hn ce sh sd ob rw c1 c2).Pairwise (@Ne Nat))
    (hcv : IntsAre cvs es) (hcl : cvs.length ≤ 1000) (hb : InvB w cvs b2 0 tys us c xs ys ko ho o1 o2 (twelve ty td kn md hn ce sh sd ob rw c1 c2) tl) (lo1 : (kn == sysModules) = false) (lo2 : (hn == sysModules) = false)
    (F : Fr h₀ L s.heap (kstB u [(Str.ofString "cells", Value.ref ce), (Str.ofString "types", Value.ref ty), (Str.ofString "made", Value.ref md), (Str.ofString "held_now", Value.ref hn), (Str.ofString "shown", Value.ref sh), (Str.ofString "rows", Value.ref rw)])) (N : News h₀ L s.heap ((ty, instObj 116 td) :: (td, dictOf (tsEs w c kn b1 b2 b3 b4 b5 b6 b7 tc k1 k2 k3 k4 k5 k6 k7 k8 k9) 9) :: (kn, ko) :: (md, listOf tys.toArray nm) :: (hn, ho) :: (ce, listOf cvs.toArray nc) :: (sh, instObj 80 sd) :: (sd, dictOf (ifEs w ob im q1 q2 q3 q4 p1 p2) 4) :: (ob, listOf us.toArray no) :: (rw, listOf us.toArray nr) :: (c1, o1) :: (c2, o2) :: tl))
    (hE : PassesOwn (model PySem.Challenge.rw_pb0315_01.row.prog w) (ktrTop dp un gd cn lawScope L a ccd [(Str.ofString "name", c2), (Str.ofString "one", c1)] outer) (envX cn lawScope L a ccd [(Str.ofString "name", c2), (Str.ofString "one", c1)]) E)
    (hret : ∀ (u' : Str → Option Value) (h' : Heap) (tk' : Nat), Fr h₀ L h' (kstB u' [(Str.ofString "cells", Value.ref ce), (Str.ofString "types", Value.ref ty), (Str.ofString "made", Value.ref md), (Str.ofString "held_now", Value.ref hn), (Str.ofString "shown", Value.ref sh), (Str.ofString "rows", Value.ref rw)]) → Q (.ret (.bool true)) { s with heap := h', toks := tk' }) :
    wpAny (model PySem.Challenge.rw_pb0315_01.row.prog w) (ktrTop dp un gd cn lawScope L a ccd [(Str.ofString "name", c2), (Str.ofString "one", c1)] outer) (execs (lawFor :: lawTail) (envX cn lawScope L a ccd [(Str.ofString "name", c2), (Str.ofString "one", c1)])) Q E s := by
  refine wpAny_execs_cons ?_
  refine law_for B X T0 hd hu hP hcv hcl hb F N hE ?_
  rintro n m nx h' tk' hn1 ⟨u', tys', us', c', tc', nm', no', nr', xs', ys', ko', ho', o1', o2', tl', hb', rfl, rfl⟩ F' N'
  show wpAny _ _ (execs lawTail _) Q E _
  rw [lawTail_eq]
  refine tail_sorted (n := n) B X T0 hd hu hP hn1 hb' lo1 lo2 F' N' ?_
  intro h2 tk2 F2 N2
  refine tail_pairs (n := n) (s := { s with heap := h2, toks := tk2 }) B X T0 hd hu hP hb' lo2 F2 N2 hE ?_
  intro u3 h3 tk3 F3 N3
  exact tail_last (n := n) (s := { s with heap := h3, toks := tk3 }) B X T0 hd hu hP hn1 hcv hcl hb' F3 N3 fun u4 h4 tk4 => hret u4 h4 tk4
end
section
local macro_rules | `(tactic| walk_at "call ref") => `(tactic| (k_here; k_dflt (refine' types0 (by k_asm) (by k_asm) (by k_asm) (by k_asm) (by k_asm) (by first | exact rfl | assumption) (by ktr_room) (by ktr_units) ?_; k_whole); intros; (try k_sweep)))
/-- what a Type of the ledger is not -/
theorem AttrAt.filt {h₀ h : Heap} {L : Addr} {T : List (Addr × Obj)} {C a : Addr} {nm : Str} {v : Value} {bad : List Addr} (N : News h₀ L h T) (hb : ∀ b ∈ bad, ∃ o, (b, o) ∈ T ∧ (∀ dx, o ≠ instObj C dx) ∧ ∀ es n, o ≠ dictOf es n) (x : AttrAt C T a nm v) :
    AttrAt C (T.filter fun p => decide (p.1 ∉ bad)) a nm v := by
  obtain ⟨dx, es, n, h1, h2, h3⟩ := x
  refine ⟨dx, es, n, List.mem_filter.mpr ⟨h1, decide_eq_true fun hm => ?_⟩, List.mem_filter.mpr ⟨h2, decide_eq_true fun hm => ?_⟩, h3⟩
  · obtain ⟨o, m1, m2, m3⟩ := hb _ hm
    exact m2 dx (Option.some.inj ((N.get m1).symm.trans (N.get h1)))
  · obtain ⟨o, m1, m2, m3⟩ := hb _ hm
    exact m3 es n (Option.some.inj ((N.get m1).symm.trans (N.get h2)))
theorem TysB.filt {h₀ h : Heap} {L : Addr} {T : List (Addr × Obj)} {bad : List Addr} (N : News h₀ L h T) (hb : ∀ b ∈ bad, ∃ o, (b, o) ∈ T ∧ (∀ dx, o ≠ instObj 31 dx) ∧ ∀ es n, o ≠ dictOf es n) : ∀ {ts : List Value} {is : List (Int × Str × Int)}, TysB T ts is → TysB (T.filter fun p => decide (p.1 ∉ bad)) ts is
  | _, _, .nil => .nil
  | _, _, .cons a b c r => .cons (a.filt N hb) (b.filt N hb) (c.filt N hb) (r.filt N hb)
theorem allLt_all {d : Addr} : ∀ {l : List (Addr × Obj)}, (∀ p ∈ l, p.1 < d) → AllLt d l
  | [], _ => trivial
  | q :: l, h => ⟨h q (.head _), allLt_all fun p hp => h p (.tail _ hp)⟩
theorem init1_pack {h₀ h : Heap} {L ba ty td kn ce c1 c2 x : Addr} {ko o o1 o2 ob1 ob2 ob3 : Obj} {ys : List Value} {nw : List (Addr × Obj)} {ts : List Value} {is : List (Int × Str × Int)}
    (N : News h₀ L h ((ba, ob1) :: (ty, ob2) :: (td, ob3) :: (kn, ko) :: nw)) (S : ∀ p ∈ [(ce, LCg.lst ys), (x, o), (c2, o2), (c1, o1)], p ∈ nw) (e1 : ∀ p ∈ nw, p.1 ≠ ty) (e2 : ∀ p ∈ nw, p.1 ≠ td) (e3 : ∀ p ∈ nw, p.1 ≠ kn)
    (l1 : @LT.lt Nat _ td ty) (l2 : @LT.lt Nat _ ty kn) (H : TysB nw ts is) (l3 : @LT.lt Nat _ ty ba ∧ @LT.lt Nat _ td ba ∧ @LT.lt Nat _ kn ba ∧ AllLt ba nw) (n0 : x ≠ ce ∧ c2 ≠ ce ∧ c1 ≠ ce) (dc1 : ∃ v, o1.data = .cell v) (dc2 : ∃ v, o2.data = .cell v) (nc12 : @Ne Nat c1 c2) :
    ∃ tl, News h₀ L h ((ba, ob1) :: (ty, ob2) :: (td, ob3) :: (kn, ko) :: (ce, listOf ys.toArray ys.length) :: (c1, o1) :: (c2, o2) :: tl) ∧ OwnOff tl [ty, td, kn, ce, c1, c2] ∧ TysB tl ts is ∧ [ty, td, kn, ce, c1, c2].Pairwise (@Ne Nat) ∧ (∀ b ∈ [ty, td, kn, ce, c1, c2], @LT.lt Nat _ b ba) ∧ AllLt ba tl := by
  have s1 := S _ (.head _)
  have s2 := S _ (.tail _ (.tail _ (.head _)))
  have s3 := S _ (.tail _ (.tail _ (.tail _ (.head _))))
  have hall := ktn_ltOf l3.2.2.2
  have Nw : News h₀ L h nw := fun p hp => N p (.tail _ (.tail _ (.tail _ (.tail _ hp))))
  obtain ⟨v1, d1⟩ := dc1
  obtain ⟨v2, d2⟩ := dc2
  refine ⟨nw.filter fun p => decide (p.1 ∉ [ce, c1, c2]), ?_, ?_, ?_, ?_, ?_, ?_⟩
  · intro p hp
    simp only [List.mem_cons] at hp
    rcases hp with rfl | rfl | rfl | rfl | rfl | rfl | rfl | hp
    · exact N _ (.head _)
    · exact N _ (.tail _ (.head _))
    · exact N _ (.tail _ (.tail _ (.head _)))
    · exact N _ (.tail _ (.tail _ (.tail _ (.head _))))
    · exact Nw _ s1
    · exact Nw _ s3
    · exact Nw _ s2
    · exact Nw _ (List.mem_filter.mp hp).1
  · intro p hp b hb
    have h1 := (List.mem_filter.mp hp).1
    have h2 := of_decide_eq_true (List.mem_filter.mp hp).2
    simp only [List.mem_cons, List.not_mem_nil, or_false] at hb
    rcases hb with rfl | rfl | rfl | hb
    · exact e1 p h1
    · exact e2 p h1
    · exact e3 p h1
    · intro e
      exact h2 (by rw [e]; simpa using hb)
  · refine H.filt Nw fun b hb => ?_
    simp only [List.mem_cons, List.not_mem_nil, or_false] at hb
    rcases hb with rfl | rfl | rfl
    · exact ⟨_, s1, fun dx e => (nomatch congrArg Obj.data e), fun es n e => (nomatch congrArg Obj.data e)⟩
    · exact ⟨_, s3, fun dx e => (nomatch d1.symm.trans (congrArg Obj.data e)), fun es n e => (nomatch d1.symm.trans (congrArg Obj.data e))⟩
    · exact ⟨_, s2, fun dx e => (nomatch d2.symm.trans (congrArg Obj.data e)), fun es n e => (nomatch d2.symm.trans (congrArg Obj.data e))⟩
  · have q1 := e1 _ s1
    have q2 := e2 _ s1
    have q3 := e3 _ s1
    have q4 := e1 _ s2
    have q5 := e2 _ s2
    have q6 := e3 _ s2
    have q7 := e1 _ s3
    have q8 := e2 _ s3
    have q9 := e3 _ s3
    simp only [List.pairwise_cons, List.mem_cons, List.not_mem_nil, or_false, forall_eq_or_imp, forall_eq, false_imp_iff, implies_true, and_true, List.Pairwise.nil]
    exact ⟨⟨(Nat.ne_of_lt l1).symm, Nat.ne_of_lt l2, q1.symm, q7.symm, q4.symm⟩, ⟨Nat.ne_of_lt (Nat.lt_trans l1 l2), q2.symm, q8.symm, q5.symm⟩, ⟨q3.symm, q9.symm, q6.symm⟩, ⟨n0.2.2.symm, n0.2.1.symm⟩, nc12⟩
  · intro b hb
    simp only [List.mem_cons, List.not_mem_nil, or_false] at hb
    rcases hb with rfl | rfl | rfl | rfl | rfl | rfl
    · exact l3.1
    · exact l3.2.1
    · exact l3.2.2.1
    · exact hall _ s1
    · exact hall _ s3
    · exact hall _ s2
  · exact allLt_all fun p hp => hall p (List.mem_filter.mp hp).1
noncomputable def lawInit1 : List Stmt := match lawInit with
  | [a, b, c, _, _, _, _, _, _] => [a, b, c]
  | _ => []
noncomputable def lawInit2 : List Stmt := match lawInit with
  | [_, _, _, d, e, _, _, _, _] => [d, e]
  | _ => []
noncomputable def lawInit3 : List Stmt := match lawInit with
  | [_, _, _, _, _, f, g, h, i] => [f, g, h, i]
  | _ => []
set_option maxRecDepth 100000 in
set_option maxHeartbeats 8000000 in
theorem law_init1 {w : World} {c1 c2 : Addr} {mean : ExcName → Option Value} {mg mb : Str → Option Value} {dp un : Nat} {gd : Option (List Code)} {cn : Str} {a : Addr} {ccd : Value} {outer : List Env} {A₀ : Around} {base h₀ : Heap} {L : Addr} {s : Shared}
    {Q : Flow → Shared → Prop} {E : Value → Shared → Prop} {rest : List Stmt} {l : Addr} {vs : List Value} {ns : List Int} {u : Str → Option Value} {o1 o2 : Obj}
    (B : Below A₀ base outer h₀) (X : (Mine.hd.heap_39 w.params).In h₀)
    (T0 : Top Mine.hd.view_39 (looseW Mine.hd.view_39 []) mean mg mb h₀)
    (hd : dp + 20 < recursionLimit) (hu : un + 400 < cLine)
    (F : Fr h₀ L s.heap (kstB u [(Str.ofString "script", Value.ref l)])) (N : News h₀ L s.heap [(c2, o2), (c1, o1)]) (hl : h₀.IsList l vs.toArray) (hI : IntsAre vs ns) (hlen : ns.length ≤ 63)
    (dc1 : ∃ v, o1.data = .cell v) (dc2 : ∃ v, o2.data = .cell v) (nc12 : @Ne Nat c1 c2)
    (hret : ∀ (u' : Str → Option Value) (ba ce ty td kn b1 b2 b3 b4 b5 b6 b7 : Addr) (k1 k2 k3 k4 k5 k6 k7 k8 k9 tc : Tok) (ko : Obj) (cvs : List Value) (es : List Int) (nc : Nat) (tl : List (Addr × Obj)) (h' : Heap) (tk' : Nat),
      Fr h₀ L h' (kstB u' [(Str.ofString "basic", Value.ref ba), (Str.ofString "types", Value.ref ty), (Str.ofString "cells", Value.ref ce)]) →
      News h₀ L h' ((ba, listOf #[Value.ref b1, Value.ref b2, Value.ref b3, Value.ref b4, Value.ref b5, Value.ref b6, Value.ref b7] 0) :: (ty, instObj 116 td) :: (td, dictOf (tsEs w 7 kn b1 b2 b3 b4 b5 b6 b7 tc k1 k2 k3 k4 k5 k6 k7 k8 k9) 9) :: (kn, ko) :: (ce, listOf cvs.toArray nc) :: (c1, o1) :: (c2, o2) :: tl) → KObj w ko [] → IntsAre cvs es → cvs.length ≤ 1000 → OwnOff tl [ty, td, kn, ce, c1, c2] → TysB tl [Value.ref b1, Value.ref b2, Value.ref b3, Value.ref b4, Value.ref b5, Value.ref b6, Value.ref b7] [(1, Str.ofString "boolean", 1), (2, Str.ofString "char", 1), (3, Str.ofString "byte", 1), (4, Str.ofString "integer", 4), (5, Str.ofString "set", 4), (6, Str.ofString "nil", 4), (7, Str.ofString "none", 0)] → [ty, td, kn, ce, c1, c2].Pairwise (@Ne Nat) → (∀ b ∈ [ty, td, kn, ce, c1, c2], @LT.lt Nat _ b ba) → AllLt ba tl → (kn == sysModules) = false →
      wpAny (model PySem.Challenge.rw_pb0315_01.row.prog w) (ktrTop dp un gd cn lawScope L a ccd [(Str.ofString "name", c2), (Str.ofString "one", c1)] outer) (execs rest (envX cn lawScope L a ccd [(Str.ofString "name", c2), (Str.ofString "one", c1)])) Q E { s with heap := h', toks := tk' }) :
    wpAny (model PySem.Challenge.rw_pb0315_01.row.prog w) (ktrTop dp un gd cn lawScope L a ccd [(Str.ofString "name", c2), (Str.ofString "one", c1)] outer) (execs (lawInit1 ++ rest) (envX cn lawScope L a ccd [(Str.ofString "name", c2), (Str.ofString "one", c1)])) Q E s := by
  revert X; k_fill; intro X
  dsimp only [lawInit1, lawInit, lawScope, lawBody, PySem.Challenge.pw_pb0315_01, List.cons_append, List.nil_append]
  (w_top off; k_steps)
  obtain ⟨tl, P1, P2, P3, P4, P5, P6⟩ := init1_pack (o1 := o1) (o2 := o2) (by k_asm) (by assumption) (by assumption) (by assumption) (by assumption) (by assumption) (by assumption) (by assumption) (by assumption) (by assumption) dc1 dc2 nc12
  exact hret _ _ _ _ _ _ _ _ _ _ _ _ _ _ _ _ _ _ _ _ _ _ _ _ _ _ _ _ _ _ (fr_six (by k_asm) (by kst_all)) P1 (by assumption) (by assumption) (by simp only [List.length_map] at *; omega) P2 P3 P4 P5 P6 (by assumption)
end
section
local macro_rules | `(tactic| walk_at "eval ListComp") => `(tactic| (k_here; k_dflt (lcg_look; (refine LCg.ListComp_U (F₀ := by k_asm) (by rfl) (by decide) (by rfl) (by decide) (by rfl) ?_))))
local macro_rules | `(tactic| walk_at "CompSrc") => `(tactic| (k_here; k_dflt ((refine LCg.CompSrc.ledger (by rfl) (by k_asm) (by k_asm) (by k_mem) (by rw [sizeLine_eq]; simp only [List.size_toArray, List.length_cons, List.length_nil]; omega) (fun g9 => ?_)); (refine' comp_attr_rest (C := 31) (attr := none) ?X (fun _ => rfl) (fun _ => rfl) (by decide) ?g ?h ?a ?n (Or.inr ⟨_, by k_mem, rfl, _, rfl⟩) _ _ [] 0 (fun j => by simp) (AttrsAt.mono (fun p => ?m) (by assumption)) ?_); (case X => k_asm); (case g => k_is); (case h => k_is); (case a => k_is); (case n => k_is); (case m => (repeat (first | exact id | apply mem_tl))); (simp only [List.nil_append]))))
local macro_rules | `(tactic| walk_at "compareOp NotEq ref ref") => `(tactic| (k_here; (with_reducible show wpAny _ _ (compareOp CmpOp.NotEq (Value.ref _) (Value.ref _)) _ _ _); k_dflt (refine' ne_dataH (by ke_read) (by ke_read) (by first | rfl | decide | decide +kernel) (by first | rfl | decide | decide +kernel) (by ktr_units) ?_); (try simp only [PyData.eqv, PyData.eqvAll, beq_self_eq_true, Bool.and_true, Bool.true_and, Bool.and_false, Bool.false_and, Bool.not_true, Bool.not_false, decide_true, decide_false])))
theorem KObj.noKey {w : World} {o : Obj} {K : Type} [DecidableEq K] {knd : KeyKind PySem.Challenge.rw_pb0315_01.row.prog w K} (D : KObj w o []) : o.IsDictOf knd [] := by
  obtain ⟨hc, ⟨es, ep, hdat, he⟩, _⟩ := D
  have h0 : es.toList = [] := he
  refine ⟨es, ep, hc, hdat, fun e hm => ?_, ?_, List.nodup_nil⟩
  · have : e ∈ es.toList := by simpa using hm
    rw [h0] at this
    exact nomatch this
  · rw [h0]
    exact .nil
theorem ne_empty {w : World} {A : Around} {E : Value → Shared → Prop} {s : Shared} {h₀ : Heap} {L a b : Addr} {oa ob : Obj} {news : List (Addr × Obj)} {Q : Value → Shared → Prop} (N : News h₀ L s.heap news) (pa : (a, oa) ∈ news) (pb : (b, ob) ∈ news) (D : KObj w oa []) (db : ob.IsDictOf (PySem.strKind PySem.Challenge.rw_pb0315_01.row.prog w) []) (la : (a == sysModules) = false) (lb : (b == sysModules) = false) (hu : A.units < cLine)
    (h : Q (.bool false) s) : wpAny (model PySem.Challenge.rw_pb0315_01.row.prog w) A (compareOp .NotEq (.ref a) (.ref b)) Q E s :=
  kne_pairs (knd := PySem.strKind PySem.Challenge.rw_pb0315_01.row.prog w) N pa pb D.noKey db la lb rfl hu KeqHits.nil h
local macro_rules | `(tactic| walk_at "compareOp NotEq ref ref") => `(tactic| (k_here; (with_reducible show wpAny _ _ (compareOp CmpOp.NotEq (Value.ref _) (Value.ref _)) _ _ _); k_dflt (refine' ne_empty (by k_asm) (by k_mem) (by k_mem) (by assumption) (by assumption) (by assumption) (by assumption) (by ktr_units) ?_; k_whole)))
set_option maxRecDepth 100000 in
set_option maxHeartbeats 8000000 in
theorem law_init2 {w : World} {c1 c2 : Addr} {mean : ExcName → Option Value} {mg mb : Str → Option Value} {dp un : Nat} {gd : Option (List Code)} {cn : Str} {a : Addr} {ccd : Value} {outer : List Env} {A₀ : Around} {base h₀ : Heap} {L : Addr} {s : Shared}
    {Q : Flow → Shared → Prop} {E : Value → Shared → Prop} {rest : List Stmt} {u : Str → Option Value} {ba ce ty td kn b1 b2 b3 b4 b5 b6 b7 : Addr} {k1 k2 k3 k4 k5 k6 k7 k8 k9 tc : Tok} {ko o1 o2 : Obj} {cvs : List Value} {nc : Nat} {tl : List (Addr × Obj)}
    (B : Below A₀ base outer h₀) (X : (Mine.hd.heap_39 w.params).In h₀)
    (T0 : Top Mine.hd.view_39 (looseW Mine.hd.view_39 []) mean mg mb h₀)
    (hd : dp + 20 < recursionLimit) (hu : un + 400 < cLine)
    (F : Fr h₀ L s.heap (kstB u [(Str.ofString "basic", Value.ref ba), (Str.ofString "types", Value.ref ty), (Str.ofString "cells", Value.ref ce)])) (N : News h₀ L s.heap ((ba, listOf #[Value.ref b1, Value.ref b2, Value.ref b3, Value.ref b4, Value.ref b5, Value.ref b6, Value.ref b7] 0) :: (ty, instObj 116 td) :: (td, dictOf (tsEs w 7 kn b1 b2 b3 b4 b5 b6 b7 tc k1 k2 k3 k4 k5 k6 k7 k8 k9) 9) :: (kn, ko) :: (ce, listOf cvs.toArray nc) :: (c1, o1) :: (c2, o2) :: tl)) (D1 : KObj w ko []) (H : TysB tl [Value.ref b1, Value.ref b2, Value.ref b3, Value.ref b4, Value.ref b5, Value.ref b6, Value.ref b7] [(1, Str.ofString "boolean", 1), (2, Str.ofString "char", 1), (3, Str.ofString "byte", 1), (4, Str.ofString "integer", 4), (5, Str.ofString "set", 4), (6, Str.ofString "nil", 4), (7, Str.ofString "none", 0)]) (lo : (kn == sysModules) = false)
    (hret : ∀ (u' : Str → Option Value) (h' : Heap) (tk' : Nat), Fr h₀ L h' (kstB u' [(Str.ofString "basic", Value.ref ba), (Str.ofString "types", Value.ref ty), (Str.ofString "cells", Value.ref ce)]) → News h₀ L h' ((ba, listOf #[Value.ref b1, Value.ref b2, Value.ref b3, Value.ref b4, Value.ref b5, Value.ref b6, Value.ref b7] 0) :: (ty, instObj 116 td) :: (td, dictOf (tsEs w 7 kn b1 b2 b3 b4 b5 b6 b7 tc k1 k2 k3 k4 k5 k6 k7 k8 k9) 9) :: (kn, ko) :: (ce, listOf cvs.toArray nc) :: (c1, o1) :: (c2, o2) :: tl) →
      wpAny (model PySem.Challenge.rw_pb0315_01.row.prog w) (ktrTop dp un gd cn lawScope L a ccd [(Str.ofString "name", c2), (Str.ofString "one", c1)] outer) (execs rest (envX cn lawScope L a ccd [(Str.ofString "name", c2), (Str.ofString "one", c1)])) Q E { s with heap := h', toks := tk' }) :
    wpAny (model PySem.Challenge.rw_pb0315_01.row.prog w) (ktrTop dp un gd cn lawScope L a ccd [(Str.ofString "name", c2), (Str.ofString "one", c1)] outer) (execs (lawInit2 ++ rest) (envX cn lawScope L a ccd [(Str.ofString "name", c2), (Str.ofString "one", c1)])) Q E s := by
  rcases H with _ | ⟨a1, f1, s1, _ | ⟨a2, f2, s2, _ | ⟨a3, f3, s3, _ | ⟨a4, f4, s4, _ | ⟨a5, f5, s5, _ | ⟨a6, f6, s6, _ | ⟨a7, f7, s7, _⟩⟩⟩⟩⟩⟩⟩
  have A1 : AttrsAt 31 tl (Str.ofString "form") [Value.ref b1, Value.ref b2, Value.ref b3, Value.ref b4, Value.ref b5, Value.ref b6, Value.ref b7] _ := .cons f1 rfl (.cons f2 rfl (.cons f3 rfl (.cons f4 rfl (.cons f5 rfl (.cons f6 rfl (.cons f7 rfl .nil))))))
  have A2 : AttrsAt 31 tl (Str.ofString "size") [Value.ref b1, Value.ref b2, Value.ref b3, Value.ref b4, Value.ref b5, Value.ref b6, Value.ref b7] _ := .cons s1 rfl (.cons s2 rfl (.cons s3 rfl (.cons s4 rfl (.cons s5 rfl (.cons s6 rfl (.cons s7 rfl .nil))))))
  have A3 : AttrsAt 31 tl (Str.ofString "number") [Value.ref b1, Value.ref b2, Value.ref b3, Value.ref b4, Value.ref b5, Value.ref b6, Value.ref b7] _ := .cons a1 rfl (.cons a2 rfl (.cons a3 rfl (.cons a4 rfl (.cons a5 rfl (.cons a6 rfl (.cons a7 rfl .nil))))))
  clear a1 a2 a3 a4 a5 a6 a7 f1 f2 f3 f4 f5 f6 f7 s1 s2 s3 s4 s5 s6 s7
  revert X; k_fill; intro X
  dsimp only [lawInit2, lawInit, lawScope, lawBody, PySem.Challenge.pw_pb0315_01, List.cons_append, List.nil_append]
  (w_top off; k_steps)
  all_goals exact hret _ _ _ (fr_six (by k_asm) (by kst_all)) (kst_newsOf (by k_asm) (fun p hp => by repeat (first | exact hp | apply List.Mem.tail)))
end
section
set_option maxRecDepth 100000 in
set_option maxHeartbeats 8000000 in
theorem law_init3 {w : World} {c1 c2 : Addr} {mean : ExcName → Option Value} {mg mb : Str → Option Value} {dp un : Nat} {gd : Option (List Code)} {cn : Str} {a : Addr} {ccd : Value} {outer : List Env} {A₀ : Around} {base h₀ : Heap} {L : Addr} {s : Shared}
    {Q : Flow → Shared → Prop} {E : Value → Shared → Prop} {rest : List Stmt} {u : Str → Option Value} {ba ce ty td kn b1 b2 b3 b4 b5 b6 b7 : Addr} {k1 k2 k3 k4 k5 k6 k7 k8 k9 tc : Tok} {ko o1 o2 : Obj} {cvs : List Value} {nc : Nat} {tl : List (Addr × Obj)}
    (B : Below A₀ base outer h₀) (X : (Mine.hd.heap_39 w.params).In h₀)
    (T0 : Top Mine.hd.view_39 (looseW Mine.hd.view_39 []) mean mg mb h₀)
    (hd : dp + 20 < recursionLimit) (hu : un + 400 < cLine)
    (F : Fr h₀ L s.heap (kstB u [(Str.ofString "basic", Value.ref ba), (Str.ofString "types", Value.ref ty), (Str.ofString "cells", Value.ref ce)])) (N : News h₀ L s.heap ((ba, listOf #[Value.ref b1, Value.ref b2, Value.ref b3, Value.ref b4, Value.ref b5, Value.ref b6, Value.ref b7] 0) :: (ty, instObj 116 td) :: (td, dictOf (tsEs w 7 kn b1 b2 b3 b4 b5 b6 b7 tc k1 k2 k3 k4 k5 k6 k7 k8 k9) 9) :: (kn, ko) :: (ce, listOf cvs.toArray nc) :: (c1, o1) :: (c2, o2) :: tl))
    (hlt : (∀ b ∈ [ty, td, kn, ce, c1, c2], @LT.lt Nat _ b ba))
    (hret : ∀ (u' : Str → Option Value) (md hn sh sd ob im rw : Addr) (nm : Nat) (ho : Obj) (q1 q2 q3 q4 p1 p2 : Tok) (h' : Heap) (tk' : Nat), Fr h₀ L h' (kstB u' [(Str.ofString "cells", Value.ref ce), (Str.ofString "types", Value.ref ty), (Str.ofString "made", Value.ref md), (Str.ofString "held_now", Value.ref hn), (Str.ofString "shown", Value.ref sh), (Str.ofString "rows", Value.ref rw)]) → News h₀ L h' ((ty, instObj 116 td) :: (td, dictOf (tsEs w 7 kn b1 b2 b3 b4 b5 b6 b7 tc k1 k2 k3 k4 k5 k6 k7 k8 k9) 9) :: (kn, ko) :: (md, listOf [Value.ref b1, Value.ref b2, Value.ref b3, Value.ref b4, Value.ref b5, Value.ref b6, Value.ref b7].toArray nm) :: (hn, ho) :: (ce, listOf cvs.toArray nc) :: (sh, instObj 80 sd) :: (sd, dictOf (ifEs w ob im q1 q2 q3 q4 p1 p2) 4) :: (ob, listOf ([] : List Value).toArray 0) :: (rw, listOf ([] : List Value).toArray 0) :: (c1, o1) :: (c2, o2) :: tl) → KObj w ho [] → (hn == sysModules) = false →
      @LT.lt Nat _ ba md → @LT.lt Nat _ md hn → @LT.lt Nat _ hn sd → @LT.lt Nat _ sd sh → @LT.lt Nat _ sh ob → @LT.lt Nat _ ob im → @LT.lt Nat _ im rw →
      wpAny (model PySem.Challenge.rw_pb0315_01.row.prog w) (ktrTop dp un gd cn lawScope L a ccd [(Str.ofString "name", c2), (Str.ofString "one", c1)] outer) (execs rest (envX cn lawScope L a ccd [(Str.ofString "name", c2), (Str.ofString "one", c1)])) Q E { s with heap := h', toks := tk' }) :
    wpAny (model PySem.Challenge.rw_pb0315_01.row.prog w) (ktrTop dp un gd cn lawScope L a ccd [(Str.ofString "name", c2), (Str.ofString "one", c1)] outer) (execs (lawInit3 ++ rest) (envX cn lawScope L a ccd [(Str.ofString "name", c2), (Str.ofString "one", c1)])) Q E s := by
  revert X; k_fill; intro X
  dsimp only [lawInit3, lawInit, lawScope, lawBody, PySem.Challenge.pw_pb0315_01, List.cons_append, List.nil_append]
  (w_top off; k_steps)
  all_goals exact hret _ _ _ _ _ _ _ _ _ _ _ _ _ _ _ _ _ _ (fr_six (by k_asm) (by kst_all)) (kst_newsOf (by k_asm) (by tb_look)) (kobj_nil (by assumption)) (by assumption) (by omega) (by omega) (by omega) (by omega) (by omega) (by omega) (by omega)
end
section
theorem TysB.nums {T : List (Addr × Obj)} : ∀ {ts : List Value} {is : List (Int × Str × Int)}, TysB T ts is → ∃ nums, AttrsAt 31 T (Str.ofString "number") ts nums ∧ IntsAre nums (is.map (·.1))
  | _, _, .nil => ⟨[], .nil, .nil⟩
  | _, _, .cons a b c r => by
    obtain ⟨nums, h1, h2⟩ := r.nums
    exact ⟨_, .cons a rfl h1, .cons _ _ h2⟩
theorem ne_lt2 {a b c : Nat} (h1 : a < b) (h2 : b < c) : a ≠ c := Nat.ne_of_lt (Nat.lt_trans h1 h2)
set_option maxRecDepth 100000 in
theorem law_all {w : World} {c1 c2 : Addr} {mean : ExcName → Option Value} {mg mb : Str → Option Value} {dp un : Nat} {gd : Option (List Code)} {cn : Str} {a : Addr} {ccd : Value} {outer : List Env} {A₀ : Around} {base h₀ : Heap} {L : Addr} {s : Shared}
    {Q : Flow → Shared → Prop} {E : Value → Shared → Prop} {l : Addr} {vs : List Value} {ns : List Int} {u : Str → Option Value} {o1 o2 : Obj}
    (B : Below A₀ base outer h₀) (X : (Mine.hd.heap_39 w.params).In h₀)
    (T0 : Top Mine.hd.view_39 (looseW Mine.hd.view_39 []) mean mg mb h₀)
    (hd : dp + 20 < recursionLimit) (hu : un + 400 < cLine)
    (F : Fr h₀ L s.heap (kstB u [(Str.ofString "script", Value.ref l)])) (N : News h₀ L s.heap [(c2, o2), (c1, o1)]) (hl : h₀.IsList l vs.toArray) (hI : IntsAre vs ns) (hlen : ns.length ≤ 63)
    (dc1 : ∃ v, o1.data = .cell v) (dc2 : ∃ v, o2.data = .cell v) (nc12 : @Ne Nat c1 c2)
    (hE : PassesOwn (model PySem.Challenge.rw_pb0315_01.row.prog w) (ktrTop dp un gd cn lawScope L a ccd [(Str.ofString "name", c2), (Str.ofString "one", c1)] outer) (envX cn lawScope L a ccd [(Str.ofString "name", c2), (Str.ofString "one", c1)]) E)
    (hret : ∀ (m : Str → Option Value) (h' : Heap) (tk' : Nat), Fr h₀ L h' m → Q (.ret (.bool true)) { s with heap := h', toks := tk' }) :
    wpAny (model PySem.Challenge.rw_pb0315_01.row.prog w) (ktrTop dp un gd cn lawScope L a ccd [(Str.ofString "name", c2), (Str.ofString "one", c1)] outer) (execs lawBody (envX cn lawScope L a ccd [(Str.ofString "name", c2), (Str.ofString "one", c1)])) Q E s := by
  have eI : lawInit = lawInit1 ++ (lawInit2 ++ (lawInit3 ++ [])) := rfl
  rw [lawBody_eq, eI, List.append_assoc, List.append_assoc, List.append_assoc, List.nil_append]
  refine law_init1 B X T0 hd hu F N hl hI hlen dc1 dc2 nc12 ?_
  intro u1 ba ce ty td kn b1 b2 b3 b4 b5 b6 b7 k1 k2 k3 k4 k5 k6 k7 k8 k9 tc ko cvs es nc tl h1 tk1 F1 N1 D1 hcv hcl hof H hpw hlt hal lo1
  refine law_init2 (s := { s with heap := h1, toks := tk1 }) B X T0 hd hu F1 N1 D1 H lo1 ?_
  intro u2 h2 tk2 F2 N2
  refine law_init3 (s := { s with heap := h2, toks := tk2 }) B X T0 hd hu F2 N2 hlt ?_
  intro u3 md hn sh sd ob im rw nm ho q1 q2 q3 q4 p1 p2 h3 tk3 F3 N3 D2 lo2 g1 g2 g3 g4 g5 g6 g7
  have hall := ktn_ltOf hal
  simp only [List.pairwise_cons, List.forall_mem_cons, List.mem_cons, List.not_mem_nil, or_false, forall_eq_or_imp, forall_eq, false_imp_iff, implies_true, and_true, List.Pairwise.nil] at hpw hlt
  obtain ⟨⟨r1, r2, r3, r4, r5⟩, ⟨r6, r7, r8, r9⟩, ⟨r10, r11, r12⟩, ⟨r13, r14⟩, r15⟩ := hpw
  obtain ⟨t1, t2, t3, t4, t5, t6⟩ := hlt
  have hP : (twelve ty td kn md hn ce sh sd ob rw c1 c2).Pairwise (@Ne Nat) := by
    simp only [twelve, List.pairwise_cons, List.mem_cons, List.not_mem_nil, or_false, forall_eq_or_imp, forall_eq, false_imp_iff, implies_true, and_true, List.Pairwise.nil]
    have e0 := Nat.lt_trans g6 g7
    have m2 := Nat.lt_trans g1 g2
    have m3 := Nat.lt_trans m2 g3
    have m4 := Nat.lt_trans m3 g4
    have m5 := Nat.lt_trans m4 g5
    have m6 := Nat.lt_trans m5 e0
    have d1 := Nat.lt_trans g2 g3
    have d2 := Nat.lt_trans d1 g4
    have d3 := Nat.lt_trans d2 g5
    have f1 := Nat.lt_trans g3 g4
    have f2 := Nat.lt_trans f1 g5
    have f3 := Nat.lt_trans g4 g5
    exact ⟨⟨r1, r2, ne_lt2 t1 g1, ne_lt2 t1 m2, r3, ne_lt2 t1 m4, ne_lt2 t1 m3, ne_lt2 t1 m5, ne_lt2 t1 m6, r4, r5⟩,
      ⟨r6, ne_lt2 t2 g1, ne_lt2 t2 m2, r7, ne_lt2 t2 m4, ne_lt2 t2 m3, ne_lt2 t2 m5, ne_lt2 t2 m6, r8, r9⟩,
      ⟨ne_lt2 t3 g1, ne_lt2 t3 m2, r10, ne_lt2 t3 m4, ne_lt2 t3 m3, ne_lt2 t3 m5, ne_lt2 t3 m6, r11, r12⟩,
      ⟨Nat.ne_of_lt g2, (ne_lt2 t4 g1).symm, Nat.ne_of_lt d2, Nat.ne_of_lt d1, Nat.ne_of_lt d3, ne_lt2 d3 e0, (ne_lt2 t5 g1).symm, (ne_lt2 t6 g1).symm⟩,
      ⟨(ne_lt2 t4 m2).symm, Nat.ne_of_lt f1, Nat.ne_of_lt g3, Nat.ne_of_lt f2, ne_lt2 f2 e0, (ne_lt2 t5 m2).symm, (ne_lt2 t6 m2).symm⟩,
      ⟨ne_lt2 t4 m4, ne_lt2 t4 m3, ne_lt2 t4 m5, ne_lt2 t4 m6, r13, r14⟩,
      ⟨(Nat.ne_of_lt g4).symm, Nat.ne_of_lt g5, ne_lt2 g5 e0, (ne_lt2 t5 m4).symm, (ne_lt2 t6 m4).symm⟩,
      ⟨Nat.ne_of_lt f3, ne_lt2 f3 e0, (ne_lt2 t5 m3).symm, (ne_lt2 t6 m3).symm⟩,
      ⟨Nat.ne_of_lt e0, (ne_lt2 t5 m5).symm, (ne_lt2 t6 m5).symm⟩, ⟨(ne_lt2 t5 m6).symm, (ne_lt2 t6 m6).symm⟩, r15⟩
  have hoff : OwnOff tl (twelve ty td kn md hn ce sh sd ob rw c1 c2) := by
    intro p hp b hb
    have q0 : @LT.lt Nat _ p.1 ba := hall p hp
    simp only [twelve, List.mem_cons, List.not_mem_nil, or_false] at hb
    rcases hb with rfl | rfl | rfl | rfl | rfl | rfl | rfl | rfl | rfl | rfl | rfl | rfl
    · exact hof p hp _ (by simp)
    · exact hof p hp _ (by simp)
    · exact hof p hp _ (by simp)
    · exact ne_lt2 q0 g1
    · exact ne_lt2 q0 (Nat.lt_trans g1 g2)
    · exact hof p hp _ (by simp)
    · exact ne_lt2 q0 (Nat.lt_trans (Nat.lt_trans (Nat.lt_trans g1 g2) g3) g4)
    · exact ne_lt2 q0 (Nat.lt_trans (Nat.lt_trans g1 g2) g3)
    · exact ne_lt2 q0 (Nat.lt_trans (Nat.lt_trans (Nat.lt_trans (Nat.lt_trans g1 g2) g3) g4) g5)
    · exact ne_lt2 q0 (Nat.lt_trans (Nat.lt_trans (Nat.lt_trans (Nat.lt_trans (Nat.lt_trans (Nat.lt_trans g1 g2) g3) g4) g5) g6) g7)
    · exact hof p hp _ (by simp)
    · exact hof p hp _ (by simp)
  obtain ⟨nums, hA, hI2⟩ := H.nums
  have hb2 : ∃ vb, AttrAt 31 tl b2 (Str.ofString "number") (Value.int 2 vb) := by
    rcases H with _ | ⟨_, _, _, _ | ⟨x, _, _, _⟩⟩
    exact ⟨_, x⟩
  refine law_main (s := { s with heap := h3, toks := tk3 }) B X T0 hd hu hP hcv hcl (xs := []) (ys := []) ⟨by simp, by simp, by simp, ⟨nums, hA, hI2⟩, D1, D2, .nil, Nat.le_refl _, ⟨[], .nil⟩, Nat.le_refl _, dc1, dc2, hb2, hoff⟩ lo1 lo2 F3 N3 hE ?_
  intro u4 h4 tk4 F4
  exact hret _ h4 tk4 F4
end
end
end Mine
set_option maxRecDepth 100000 in
set_option maxHeartbeats 8000000 in
theorem PySem.Challenge.cw_pb0315_01_holds : PySem.Challenge.rw_pb0315_01.Holds := by
  refine Mine.hd ?_
  k_go0
  (try dsimp only)
  refine' Mine.law_all (outer := []) ?zB ?zX ?zT ?zD ?zU (Mine.fr_six ?zG ?zF) ?zN ?zH ?zI ?zL ?zc1 ?zc2 (Nat.ne_of_lt (Nat.lt_succ_self _)) ?zE ?zR
  case zB => assumption
  case zX => assumption
  case zT => assumption
  case zG => assumption
  case zN => assumption
  case zH => assumption
  case zI => assumption
  case zc1 => exact ⟨_, by assumption⟩
  case zc2 => exact ⟨_, by assumption⟩
  case zD => decide
  case zU =>
    have hc9 := cLine_is
    show 4 + 3 + 400 < cLine
    omega
  case zF =>
    intro p hp
    cases List.mem_singleton.mp hp
    with_unfolding_all rfl
  case zL => omega
  case zE => exact PassesOwn.leaving
  case zR =>
    intro m h' tk' F'
    (try dsimp only)
    k_end
    wrow_close
