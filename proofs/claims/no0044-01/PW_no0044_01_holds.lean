import PyProof.Rows.All
import Wide.All
import OpenK.AllK
import Wide.FinOn
import PySem.Challenge.RW_no0044_01
set_option Elab.async false
section HdPart
open PySem PySem.W PyProof.Rows
namespace Mine
set_option maxRecDepth 100000 in
set_option maxHeartbeats 8000000 in
open_top hd for PySem.Challenge.rw_no0044_01
end Mine
end HdPart
open PySem PySem.W PyProof.Rows in
theorem Mine.walkOff : True := by
  w_top off
  trivial
section TakePart
open PySem PySem.W PySem.Calls PyProof.Rows PyProof.V
set_option maxRecDepth 100000
namespace Mine

section
variable {prog : Program} {w : World} {A : Around} {E : Value → Shared → Prop} {s : Shared} {h₀ : Heap} {L D : Addr} {m : Str → Option Value} {news news' : List (Addr × Obj)} {n : Nat}
theorem pop_head {v : Value} {vs : List Value} {u : Tok} {Q : Value → Shared → Prop} (F : Fr h₀ L s.heap m) (N : News h₀ L s.heap news)
    (U : Upd D (listOf (v :: vs).toArray n) (listOf vs.toArray (n + 1)) news news') (hz : vs.length ≤ 40)
    (h : ∀ h', Fr h₀ L h' m → News h₀ L h' news' → Q v { s with heap := h' }) : wpAny (model prog w) A (call (.builtin "list.pop") [.ref D, .int 0 u]) Q E s := by
  refine kl_popAt (its := (v :: vs).toArray) (k := 0) (p := []) (q := vs) (y := v) F N rfl ?_ rfl U ?_ h
  · simp [seqIndex?]
  · rw [sizeLine_eq]; simp only [List.length_cons]; omega
end
end Mine

local macro_rules | `(tactic| walk_at "call builtin:list.pop") => `(tactic| (k_here; (with_reducible show wpAny _ _ (call (Value.builtin _) [Value.ref _, Value.int _ _]) _ _ _); k_dflt (refine' Mine.pop_head ?F ?N ?U ?z ?_; (case F => k_asm); (case N => k_asm); (case U => k_upd); (case z => assumption); k_whole); intro h' F' N'))

namespace Mine
set_option maxHeartbeats 4000000 in
theorem take_cons {s₀ : Shared} {w : World} {mg mb : Str → Option Value} {dp un : Nat} {gd : Option (List Code)} {cn : Str} {cs : Scope} {a : Addr} {ccd : Value} {cl : List (Str × Addr)} {outer : List Env} {A₀ : Around}
    {base h₀ : Heap} {L : Addr} {m : Str → Option Value} {s : Shared} {Q E : Value → Shared → Prop} {b d : Addr} {v₀ : Int} {tv : Tok} {vs : List Value} {ns : List Int} {c n : Nat} {seed wide : Int} {t u : Tok} {rest : List (Addr × Obj)}
    (B : Below A₀ base outer h₀) (F : Fr h₀ L s.heap m) (X : (Mine.hd.heap_39 w.params).In h₀)
    (N : News h₀ L s.heap ((b, listOf #[.ref d, .int seed t] n) :: (d, listOf (Value.int v₀ tv :: vs).toArray c) :: rest))
    (T : Top Mine.hd.view_39 (looseW Mine.hd.view_39 []) (ExcName.means s₀.heap) mg mb h₀)
    (hk : cs.kind = .function) (hbd : @Ne Nat b d) (hoff : OwnOff rest [b, d]) (hI : IntsAre vs ns) (hlen : vs.length ≤ 40) (hlen2 : ns.length ≤ 40) (hw : 0 < wide) (hd : dp + 1 < recursionLimit) (hu : un + 8 < cLine)
    (ret : ∀ r tr h' tk' vs' ns' c' seed' t', Fr h₀ L h' m → News h₀ L h' ((b, listOf #[.ref d, .int seed' t'] n) :: (d, listOf vs'.toArray c') :: rest) → IntsAre vs' ns' → ns'.length ≤ 40 → 0 ≤ r → r < wide → Q (.int r tr) { s with heap := h', toks := tk' }) :
    wpAny (model PySem.Challenge.rw_no0044_01.row.prog w) (ktrTop dp un gd cn cs L a ccd cl outer) (call (.ref 104) [.ref b, .int wide u]) Q E s := by
  revert X; k_fill; intro X
  refine wpAny_call ?_
  k_dflt cell_enter
  k_steps
  refine ret _ _ _ _ _ _ _ _ _ (by k_asm) (by k_asm) hI hlen2 (fmod_lo _ hw) (fmod_hi _ hw)
set_option maxHeartbeats 4000000 in
theorem take_nil {s₀ : Shared} {w : World} {mg mb : Str → Option Value} {dp un : Nat} {gd : Option (List Code)} {cn : Str} {cs : Scope} {a : Addr} {ccd : Value} {cl : List (Str × Addr)} {outer : List Env} {A₀ : Around}
    {base h₀ : Heap} {L : Addr} {m : Str → Option Value} {s : Shared} {Q E : Value → Shared → Prop} {b d : Addr}  {c n : Nat} {seed wide : Int} {t u : Tok} {rest : List (Addr × Obj)}
    (B : Below A₀ base outer h₀) (F : Fr h₀ L s.heap m) (X : (Mine.hd.heap_39 w.params).In h₀)
    (N : News h₀ L s.heap ((b, listOf #[.ref d, .int seed t] n) :: (d, listOf ([] : List Value).toArray c) :: rest))
    (T : Top Mine.hd.view_39 (looseW Mine.hd.view_39 []) (ExcName.means s₀.heap) mg mb h₀)
    (hk : cs.kind = .function) (hbd : @Ne Nat b d) (hoff : OwnOff rest [b, d]) (hw : 0 < wide) (hd : dp + 1 < recursionLimit) (hu : un + 8 < cLine)
    (ret : ∀ r tr h' tk' vs' ns' c' seed' t', Fr h₀ L h' m → News h₀ L h' ((b, listOf #[.ref d, .int seed' t'] n) :: (d, listOf vs'.toArray c') :: rest) → IntsAre vs' ns' → ns'.length ≤ 40 → 0 ≤ r → r < wide → Q (.int r tr) { s with heap := h', toks := tk' }) :
    wpAny (model PySem.Challenge.rw_no0044_01.row.prog w) (ktrTop dp un gd cn cs L a ccd cl outer) (call (.ref 104) [.ref b, .int wide u]) Q E s := by
  revert X; k_fill; intro X
  refine wpAny_call ?_
  k_dflt cell_enter
  k_steps
  all_goals (refine ret _ _ _ _ [] [] _ _ _ (by k_asm) (by k_asm) IntsAre.nil (Nat.zero_le _) (fmod_lo _ hw) (fmod_hi _ hw))
set_option maxHeartbeats 4000000 in
theorem take_spec {s₀ : Shared} {w : World} {mg mb : Str → Option Value} {dp un : Nat} {gd : Option (List Code)} {cn : Str} {cs : Scope} {a : Addr} {ccd : Value} {cl : List (Str × Addr)} {outer : List Env} {A₀ : Around}
    {base h₀ : Heap} {L : Addr} {m : Str → Option Value} {s : Shared} {Q E : Value → Shared → Prop} {b d : Addr}  {vs : List Value} {ns : List Int} {c n : Nat} {seed wide : Int} {t u : Tok} {rest : List (Addr × Obj)}
    (B : Below A₀ base outer h₀) (F : Fr h₀ L s.heap m) (X : (Mine.hd.heap_39 w.params).In h₀)
    (N : News h₀ L s.heap ((b, listOf #[.ref d, .int seed t] n) :: (d, listOf vs.toArray c) :: rest))
    (T : Top Mine.hd.view_39 (looseW Mine.hd.view_39 []) (ExcName.means s₀.heap) mg mb h₀)
    (hk : cs.kind = .function) (hbd : @Ne Nat b d) (hoff : OwnOff rest [b, d]) (hI : IntsAre vs ns) (hlen : ns.length ≤ 40) (hw : 0 < wide) (hd : dp + 1 < recursionLimit) (hu : un + 8 < cLine)
    (ret : ∀ r tr h' tk' vs' ns' c' seed' t', Fr h₀ L h' m → News h₀ L h' ((b, listOf #[.ref d, .int seed' t'] n) :: (d, listOf vs'.toArray c') :: rest) → IntsAre vs' ns' → ns'.length ≤ 40 → 0 ≤ r → r < wide → Q (.int r tr) { s with heap := h', toks := tk' }) :
    wpAny (model PySem.Challenge.rw_no0044_01.row.prog w) (ktrTop dp un gd cn cs L a ccd cl outer) (call (.ref 104) [.ref b, .int wide u]) Q E s := by
  cases hI with
  | nil => exact take_nil B F X N T hk hbd hoff hw hd hu ret
  | cons v t r => exact take_cons B F X N T hk hbd hoff r (by have := r.length; simp only [List.length_cons] at hlen; omega) (by simp only [List.length_cons] at hlen; omega) hw hd hu ret
end Mine
end TakePart
section SpentPart
local macro_rules | `(tactic| walk_at "mine_pad_0") => `(tactic| skip)
open PySem PySem.W PySem.Calls PyProof.Rows PyProof.V
set_option maxRecDepth 100000
local macro_rules | `(tactic| k_room) => `(tactic| ktr_room)
namespace Mine
abbrev cdict (P : Params) (k₁ k₂ k₃ : Tok) (limit used : Int) (t₁ t₂ : Tok) (told : Value) : Obj :=
  dictOf [⟨PyData.keyHash P (Str.ofString "limit"), .str (Str.ofString "limit") k₁, .int limit t₁⟩, ⟨PyData.keyHash P (Str.ofString "used"), .str (Str.ofString "used") k₂, .int used t₂⟩, ⟨PyData.keyHash P (Str.ofString "told_at"), .str (Str.ofString "told_at") k₃, told⟩] 3

set_option maxHeartbeats 4000000 in
theorem spent_yes {s₀ : Shared} {w : World} {mg mb : Str → Option Value} {dp un : Nat} {gd : Option (List Code)} {cn : Str} {cs : Scope} {a : Addr} {ccd : Value} {cl : List (Str × Addr)} {outer : List Env} {A₀ : Around}
    {base h₀ : Heap} {L : Addr} {m : Str → Option Value} {s : Shared} {Q E : Value → Shared → Prop} {x d : Addr} {limit used many : Int} {k₁ k₂ k₃ t₁ t₂ u : Tok} {told : Value} {rest : List (Addr × Obj)}
    (B : Below A₀ base outer h₀) (F : Fr h₀ L s.heap m) (X : (Mine.hd.heap_39 w.params).In h₀)
    (N : News h₀ L s.heap ((x, instObj 86 d) :: (d, cdict w.params k₁ k₂ k₃ limit used t₁ t₂ told) :: rest))
    (T : Top Mine.hd.view_39 (looseW Mine.hd.view_39 []) (ExcName.means s₀.heap) mg mb h₀)
    (hk : cs.kind = .function) (hxd : @Ne Nat x d) (hoff : OwnOff rest [x, d]) (hle : used + many ≤ limit) (hd : dp + 3 < recursionLimit)
    (ret : ∀ t' h' tk', Fr h₀ L h' m → News h₀ L h' ((x, instObj 86 d) :: (d, cdict w.params k₁ k₂ k₃ limit (used + many) t₁ t' told) :: rest) → Q (.bool true) { s with heap := h', toks := tk' }) :
    wpAny (model PySem.Challenge.rw_no0044_01.row.prog w) (ktrTop dp un gd cn cs L a ccd cl outer) (call (.ref 111) [.ref x, .int many u]) Q E s := by
  revert X; k_fill; intro X
  refine wpAny_call ?_
  k_dflt cell_enter
  k_steps
  exact ret _ _ _ (by k_asm) (by k_asm)
end Mine
end SpentPart
section Exc1Part
open PySem PySem.W PySem.Calls PyProof.Rows PyProof.V
open PySem.Builtin.ObjectAttr
set_option maxRecDepth 100000
namespace Mine

abbrev excO (C : Addr) (dct : Option Addr) (t : Addr) : Obj := { cls := .ref C, dict := dct, data := .fields #[.ref t, .none, .none, .none, .bool false, .none] }
section
variable {prog : Program} {w : World} {A : Around} {E : Value → Shared → Prop} {h : Heap} {g : Array GenState} {d : Drawn} {t : Nat} {os : OsState}
variable {nm q : Str} {C N : Addr} {bs : List Value} {sn : List Str} {sub : List Value} {ab : Bool} {col : Option Bool} {dd : Option Addr} {k0 k1 k2 k3 k5 : Option Value} {newId : String}

theorem exc_init_call {e a : Addr} {dct : Option Addr} {v : Value} {Q : Value → Shared → Prop} (hC : h.get? C = some (excClassObj nm q C N bs [.type "Exception", .type "BaseException", .type "object"] true sn sub ab col dd k0 k1 k2 k3 k5 "Exception.__new__"))
    (he : h.get? e = some (excO C dct a))
    (hq : Q .none ⟨(h.push { cls := .type "tuple", data := .seq #[v] }).update e (Obj.mapFields (·.setIfInBounds 0 (.ref h.objs.size))), g, d, t, os⟩) :
    wpAny (model prog w) A (call (.builtin "Exception.__init__") [.ref e, v]) Q E ⟨h, g, d, t, os⟩ := by
  have F := PySem.F.excBase_Exception
  refine wpAny_call (codeAny_call_builtin F.init.plain F.initEntry (wpAny_check_init_sub F hC he rfl ?_))
  have he' := Heap.get?_push_of_some { cls := .type "tuple", data := .seq #[v] } he
  wp_walk
  exact hq

variable {bm : List Value} {B sa owner : String} {mN : Str → Option Value}
set_option maxHeartbeats 1000000 in
theorem exc_set_first {e : Addr} {oe : Obj} {vs : Array Value} {name : Str} {v : Value} {Q : Unit → Shared → Prop} (SF : StoreFacts B bm sa owner) (hC : h.get? C = some (excClassObj nm q C N bs bm true sn sub ab col dd k0 k1 k2 k3 k5 newId))
    (hn : h.Ns N mN) (hns : mN "__setattr__" = none) (hna : mN name = none) (hB : typeLookup (.type B) name = pure none) (he : h.get? e = some oe) (hc : oe.cls = .ref C) (hdn : oe.dict = none) (hda : oe.data = .fields vs)
    (hq : Q () ⟨((h.push (dictOf [] 0)).update e fun o => { o with dict := some h.objs.size }).update h.objs.size (Obj.putName name (PyData.keyHash w.params name) (.str name (t + 1)) v), g, d, t + 2, os⟩) :
    wpAny (model prog w) A (setAttr (.ref e) name v) Q E ⟨h, g, d, t, os⟩ := by
  have f3 := SF.slot.bind (.ref e)
  unfold setAttr callSpecial? specialOf
  repeat (any_goals (first | with_reducible assumption | (with_reducible refine wpAny_loadPart_at he ?_; rw [hc]) | (with_reducible refine wpAny_typeLookup_exc hC hn SF.mro SF.slot.lookup ?_; rw [hns]) | wp_step))
  show codeAny _ _ (.call (.builtin sa) ⟨[.ref e, .str name t, v], []⟩) _ _
  refine codeAny_call_builtin SF.slot.plain SF.entry (wpAny_check_sa SF hC he hc ?_)
  have hpass := SF.passes (.ref e)
  unfold Builtin.«object.__setattr__»
  repeat (first | rw [refuse_eq] | (rw [refuseLoop_ref, hpass]) | (with_reducible refine wpAny_loadPart_at he ?_; rw [hc]) | with_reducible refine wpAny_mroOf_exc hC ?_ | (with_reducible refine wpAny_typeLookup_exc hC hn SF.mro hB ?_; rw [hna]) | wp_step)
  rw [hdn, if_neg (by simp [typeHasDict])]
  dsimp only
  rw [hda]
  have he₁ := Heap.get?_push_of_some (dictOf [] 0) he
  have hne : e ≠ h.objs.size := Nat.ne_of_lt (Heap.lt_size he)
  have D : ((h.push (dictOf [] 0)).update e fun o => { o with dict := some h.objs.size }).get? h.objs.size = some (dictOf [] 0) :=
    (Heap.get?_update_other _ _ hne).trans (Heap.get?_push_size _ rfl)
  have D' : (((h.push (dictOf [] 0)).update e fun o => { o with dict := some h.objs.size }).update h.objs.size (Obj.putName name (PyData.keyHash w.params name) (.str name (t + 1)) v)).get? h.objs.size = some (dictOf [⟨PyData.keyHash w.params name, .str name (t + 1), v⟩] 1) := by
    rw [Heap.get?_update_self _ D (by rw [putName_dict]; rfl), putName_dict]
    rfl
  refine wpAny_bind (wpAny_alloc' ?_)
  refine wpAny_bind (wpAny_update' he₁ ?_)
  refine wpAny_pure ?_
  show wpAny _ _ (storeInDict h.objs.size (.str name t) name v) _ _ _
  unfold storeInDict newKeyGuard
  refine wpAny_bind (wpAny_pure (wpAny_bind ?_))
  unfold nsSet
  refine wpAny_bind (wpAny_bind (wpAny_askSetting (wpAny_pure (wpAny_bind (wpAny_mkText (wpAny_bind (wpAny_loadPart D ?_)))))))
  dsimp only
  rw [aRefKeyMayBeTheName_at, if_neg (by simp)]
  refine wpAny_updatePart D ?_
  refine wpAny_bind (wpAny_lookBehind D' (pastItsLine_dict (by rw [sizeLine_eq, List.size_toArray]; exact Nat.le_of_ble_eq_true rfl)) ?_)
  wp_walk
  exact hq

set_option maxHeartbeats 1000000 in
theorem exc_set_next {e D : Addr} {oe : Obj} {es : List DictEntry} {n : Nat} {name : Str} {v : Value} {Q : Unit → Shared → Prop} (SF : StoreFacts B bm sa owner) (hC : h.get? C = some (excClassObj nm q C N bs bm true sn sub ab col dd k0 k1 k2 k3 k5 newId))
    (hn : h.Ns N mN) (hns : mN "__setattr__" = none) (hna : mN name = none) (hB : typeLookup (.type B) name = pure none) (he : h.get? e = some oe) (hc : oe.cls = .ref C) (hde : oe.dict = some D) (hD : h.get? D = some (dictOf es n))
    (hk : es.any (·.refKey) = false) (hz : (putL name (PyData.keyHash w.params name) (.str name (t + 1)) v es).length ≤ 1000)
    (hq : Q () ⟨h.update D (Obj.putName name (PyData.keyHash w.params name) (.str name (t + 1)) v), g, d, t + 2, os⟩) :
    wpAny (model prog w) A (setAttr (.ref e) name v) Q E ⟨h, g, d, t, os⟩ := by
  have f3 := SF.slot.bind (.ref e)
  unfold setAttr callSpecial? specialOf
  repeat (any_goals (first | with_reducible assumption | (with_reducible refine wpAny_loadPart_at he ?_; rw [hc]) | (with_reducible refine wpAny_typeLookup_exc hC hn SF.mro SF.slot.lookup ?_; rw [hns]) | wp_step))
  show codeAny _ _ (.call (.builtin sa) ⟨[.ref e, .str name t, v], []⟩) _ _
  refine codeAny_call_builtin SF.slot.plain SF.entry (wpAny_check_sa SF hC he hc ?_)
  have hpass := SF.passes (.ref e)
  unfold Builtin.«object.__setattr__»
  repeat (first | rw [refuse_eq] | (rw [refuseLoop_ref, hpass]) | (with_reducible refine wpAny_loadPart_at he ?_; rw [hc]) | with_reducible refine wpAny_mroOf_exc hC ?_ | (with_reducible refine wpAny_typeLookup_exc hC hn SF.mro hB ?_; rw [hna]) | wp_step)
  rw [hde]
  dsimp only
  have D' : (h.update D (Obj.putName name (PyData.keyHash w.params name) (.str name (t + 1)) v)).get? D = some (dictOf (putL name (PyData.keyHash w.params name) (.str name (t + 1)) v es) (putN name es n)) := by
    rw [Heap.get?_update_self _ hD (by rw [putName_dict]; rfl), putName_dict]
  refine wpAny_pure ?_
  show wpAny _ _ (storeInDict D (.str name t) name v) _ _ _
  unfold storeInDict newKeyGuard
  refine wpAny_bind (wpAny_pure (wpAny_bind ?_))
  unfold nsSet
  refine wpAny_bind (wpAny_bind (wpAny_askSetting (wpAny_pure (wpAny_bind (wpAny_mkText (wpAny_bind (wpAny_loadPart hD ?_)))))))
  dsimp only
  rw [aRefKeyMayBeTheName_at, if_neg (by rw [show (es.toArray.any (·.refKey)) = es.any (·.refKey) from by simp, hk]; simp)]
  refine wpAny_updatePart hD ?_
  refine wpAny_bind (wpAny_lookBehind D' (pastItsLine_dict (by rw [sizeLine_eq, List.size_toArray]; omega)) ?_)
  wp_walk
  exact hq

set_option maxHeartbeats 1000000 in
theorem exc_get {e D : Addr} {oe : Obj} {vs : Array Value} {es : List DictEntry} {n : Nat} {name : Str} {i : Int} {tk : Tok} {expr : Bool} {Q : Value → Shared → Prop} (FB : ExcAttrBase B bm) (hC : h.get? C = some (excClassObj nm q C N bs bm true sn sub ab col dd k0 k1 k2 k3 k5 newId))
    (hn : h.Ns N mN) (hng : mN "__getattribute__" = none) (hnh : mN "__getattr__" = none) (hna : mN name = none) (hB : typeLookup (.type B) name = pure none) (he : h.get? e = some oe) (hc : oe.cls = .ref C) (hda : oe.data = .fields vs) (hde : oe.dict = some D) (hD : h.get? D = some (dictOf es n))
    (hl : getL name es = some (some (.int i tk))) (hq : Q (.int i tk) ⟨h, g, d, t + 1, os⟩) :
    wpAny (model prog w) A (getAttr (.ref e) name expr) Q E ⟨h, g, d, t, os⟩ := by
  have T : OwnTailQ h bm bm := .base
  have f3 := FB.ga.bind (.ref e)
  have hx0 : (expr && onTheHeap (Value.builtin "BaseException.__getattribute__")) = false := by cases expr <;> rfl
  have hx2 : (Value.builtin "BaseException.__getattribute__" == Value.builtin "object.__getattribute__") = false := by decide +kernel
  have hx1 : (onTheHeap (Value.ref C) && Value.builtin "BaseException.__getattribute__" == Value.builtin "object.__getattribute__") = false := by rw [hx2]; rfl
  unfold getAttr getAttrBy
  repeat (any_goals (first | with_reducible assumption | (with_reducible refine wpAny_loadPart_at he ?_; rw [hc]) | (with_reducible refine wpAny_typeLookup_exc hC hn FB.mro FB.ga.lookup ?_; rw [hng]) | (with_reducible refine wpAny_typeLookup_exc hC hn FB.mro FB.noGetattr ?_; rw [hnh]) | wp_step))
  show codeAny _ _ (.call (.builtin "BaseException.__getattribute__") ⟨[.ref e, .str name t], []⟩) _ _
  refine codeAny_call_builtin FB.ga.plain F.entry_bexc_ga (wpAny_check_ga_own FB hC T he hc ?_)
  unfold Builtin.«object.__getattribute__»
  repeat (any_goals (first | with_reducible assumption | (with_reducible refine wpAny_loadPart_at he ?_; rw [hc]) | (with_reducible refine wpAny_typeLookup_exc hC hn FB.mro hB ?_; rw [hna]) | wp_step))
  rw [hda]
  dsimp only
  unfold instanceDict
  repeat (any_goals (first | (with_reducible refine wpAny_loadPart_at he ?_; rw [hc]) | with_reducible refine wpAny_loadPart_at hC ?_ | wp_step))
  rw [hde]
  refine wpAny_pure (a := some D) ?_
  refine wpAny_bind (wpAny_loadPart hD ?_)
  rw [nsLook_of (show lookIn name (dictOf es n) = some (some (.int i tk)) from hl)]
  repeat (any_goals (first | assumption | wp_step))
end
end Mine
end Exc1Part
section TamePart
open PySem PySem.W PySem.Calls PyProof.Rows PyProof.V
set_option maxRecDepth 100000
namespace Mine
/-- a tree that calls nothing and whose updates leave an object's dict where it was -/
def Tame {α : Type} : Sem α → Prop
  | .pure _ => True
  | .raise _ => True
  | .unsupported _ => True
  | .finish _ => True
  | .rule _ k => Tame (k ())
  | .at _ k => Tame (k ())
  | .load _ _ k => ∀ o, Tame (k o)
  | .update _ _ f k => (∀ o, (f o).dict = o.dict ∧ (o.isFreed = false → (f o).isFreed = false)) ∧ Tame (k ())
  | .alloc _ k => ∀ a, Tame (k a)
  | .point _ k => Tame (k ())
  | .fresh k => ∀ t, Tame (k t)
  | .ask k => ∀ x, Tame (k x)
  | .handled _ k => ∀ x, Tame (k x)
  | .stack k => ∀ x, Tame (k x)
  | _ => False

theorem Tame.bind {α β : Type} {m : Sem α} {f : α → Sem β} (hm : Tame m) (hf : ∀ a, Tame (f a)) : Tame (m >>= f) := by
  show Tame (m.bind f)
  induction m with
  | pure a => exact hf a
  | raise e => trivial
  | unsupported w => trivial
  | finish e => trivial
  | rule _ k ih => exact ih () hm
  | «at» _ k ih => exact ih () hm
  | load _ _ k ih => exact fun o => ih o (hm o)
  | update _ _ f k ih => exact ⟨hm.1, ih () hm.2⟩
  | alloc _ k ih => exact fun o => ih o (hm o)
  | point _ k ih => exact ih () hm
  | fresh k ih => exact fun o => ih o (hm o)
  | ask k ih => exact fun o => ih o (hm o)
  | handled _ k ih => exact fun o => ih o (hm o)
  | stack k ih => exact fun o => ih o (hm o)
  | _ => exact hm.elim

/-- what stands in h stands in h', with the same dict -/
def SameDicts (h h' : Heap) : Prop := ∀ b o, h.get? b = some o → ∃ o', h'.get? b = some o' ∧ o'.dict = o.dict

theorem SameDicts.refl (h : Heap) : SameDicts h h := fun _ o e => ⟨o, e, rfl⟩
theorem SameDicts.push {h₀ h : Heap} (x : SameDicts h₀ h) (o : Obj) : SameDicts h₀ (h.push o) := fun b o₀ e =>
  let ⟨o', e', d⟩ := x b o₀ e; ⟨o', Heap.get?_push_of_some _ e', d⟩
theorem SameDicts.update {h₀ h : Heap} (x : SameDicts h₀ h) {f : Obj → Obj} (hf : ∀ o, (f o).dict = o.dict ∧ (o.isFreed = false → (f o).isFreed = false)) (a : Addr) : SameDicts h₀ (h.update a f) := fun b o₀ e => by
  obtain ⟨o', e', d⟩ := x b o₀ e
  by_cases q : a = b
  · subst q
    exact ⟨f o', Heap.get?_update_self _ e' ((hf o').2 (Heap.get?_some_iff.mp e').2), (hf o').1.trans d⟩
  · exact ⟨o', (Heap.get?_update_other _ _ q).trans e', d⟩

theorem wp_tame {α : Type} {M : Model} {Γ : Ctx} {t : Sem α} {Q : α → Pos → Shared → Prop} {E : Value → Pos → Shared → Prop} {h₀ : Heap} (ht : Tame t) : ∀ {p : Pos} {s : Shared}, SameDicts h₀ s.heap → Sem.wp M Γ t Q E p s →
    Sem.wp M Γ t (fun a p' s' => Q a p' s' ∧ SameDicts h₀ s'.heap) (fun e p' s' => E e p' s' ∧ SameDicts h₀ s'.heap) p s := by
  induction t with
  | pure a => intro p s d h; exact ⟨h, d⟩
  | raise e => intro p s d h; exact ⟨h, d⟩
  | unsupported w => intro p s d h; exact h
  | finish e => intro p s d h; exact h
  | rule _ k ih => intro p s d h; exact ih () ht d h
  | «at» _ k ih => intro p s d h; exact ih () ht (p := _) d h
  | load _ _ k ih => intro p s d h; obtain ⟨o, ho, h⟩ := h; exact ⟨o, ho, ih o (ht o) d h⟩
  | update a _ f k ih => intro p s d h; exact ⟨h.1, ih () ht.2 (s := { s with heap := s.heap.update a f }) (d.update ht.1 a) h.2⟩
  | alloc o k ih => intro p s d h; exact ih _ (ht _) (s := { s with heap := s.heap.push o }) (d.push o) h
  | point _ k ih => intro p s d h; exact ih () ht d h
  | fresh k ih => intro p s d h; exact ih _ (ht _) (s := { s with toks := s.toks + 1 }) d h
  | ask k ih => intro p s d h; exact ih _ (ht _) d h
  | handled _ k ih => intro p s d h; exact ih _ (ht _) d h
  | stack k ih => intro p s d h; exact ih _ (ht _) d h
  | _ => exact ht.elim

theorem wpAny_tame {α : Type} {M : Model} {A : Around} {t : Sem α} {Q : α → Shared → Prop} {E : Value → Shared → Prop} {s : Shared} (ht : Tame t) (h : wpAny M A t Q E s) :
    wpAny M A t (fun a s' => Q a s' ∧ SameDicts s.heap s'.heap) (fun e s' => E e s' ∧ SameDicts s.heap s'.heap) s := fun Γ p hΓ =>
  wp_tame ht (.refl _) (h Γ p hΓ)

section
theorem tame_pure {α : Type} (a : α) : Tame (pure a : Sem α) := trivial
theorem tame_load (a : Addr) : Tame (load a) := fun _ => trivial
theorem tame_un {α : Type} (w : String) : Tame (unsupported w : Sem α) := trivial
theorem tame_ite {α : Type} {c : Prop} [Decidable c] {a b : Sem α} (ha : Tame a) (hb : Tame b) : Tame (if c then a else b) := by split <;> assumption
theorem mapFields_dict (f : Array Value → Array Value) : ∀ o : Obj, (Obj.mapFields f o).dict = o.dict ∧ (o.isFreed = false → (Obj.mapFields f o).isFreed = false) := by
  rintro ⟨c, d, dt, sl⟩
  cases dt <;> exact ⟨rfl, id⟩
theorem tame_fieldsOf (v : Value) : Tame (fieldsOf v) := by
  unfold fieldsOf
  cases v <;> first | exact trivial | skip
  refine Tame.bind (tame_load _) fun o => ?_
  cases o.data <;> exact trivial
theorem tame_field (v : Value) (i : Nat) : Tame (field v i) := by
  unfold field
  refine Tame.bind (tame_fieldsOf _) fun o => ?_
  split <;> exact trivial
theorem tame_setField (v : Value) (i : Nat) (x : Value) : Tame (setField v i x) := by
  unfold setField
  cases v <;> first | exact trivial | skip
  show Tame (updateField _ _ _)
  unfold updateField
  refine Tame.bind (tame_load _) fun o => ?_
  split
  · exact tame_ite ⟨mapFields_dict _, trivial⟩ trivial
  · exact trivial
theorem tame_setFlight (e : Value) (f : Option Addr) : Tame (setFlight e f) := by
  unfold setFlight
  refine Tame.bind (tame_field _ _) fun o => ?_
  exact tame_ite (tame_setField _ _ _) trivial
theorem tame_frameEnvs : Tame frameEnvs := fun _ => trivial
theorem tame_keptBack (env : Env) (b : Bool) (l : List Env) : Tame (keptBack env b l) := by
  cases l with
  | nil =>
    unfold keptBack
    exact tame_ite trivial (Tame.bind (Tame.bind (fun _ => trivial) fun _ => trivial) fun _ => trivial)
  | cons c r => exact trivial
theorem tame_behindIsImport (env : Env) (l : List Env) : Tame (behindIsImport env l) := by
  unfold behindIsImport
  refine tame_ite trivial (tame_ite trivial (Tame.bind (tame_field _ _) fun _ => trivial))
theorem tame_readyFrames : ∀ l : List Env, Tame (readyFrames l)
  | [] => trivial
  | env :: outer => by
    unfold readyFrames
    cases env.frame with
    | none => exact trivial
    | some f =>
      refine Tame.bind (tame_load _) fun o => tame_ite trivial ?_
      refine Tame.bind (tame_behindIsImport _ _) fun i => Tame.bind (tame_keptBack _ _ _) fun b => ?_
      refine Tame.bind ⟨fun o => ⟨rfl, fun h => ?_⟩, trivial⟩ fun _ => tame_readyFrames outer
      obtain ⟨c, d, dt, sl⟩ := o
      cases dt <;> exact h
theorem tame_frameObject (l : List Env) : Tame (frameObject l) := by
  cases l with
  | nil => exact trivial
  | cons e r => exact Tame.bind (tame_readyFrames _) fun _ => trivial
theorem tame_frameOf (env : Env) : Tame (PySem.frameOf env) := by
  unfold PySem.frameOf
  refine Tame.bind tame_frameEnvs fun l => Tame.bind (tame_frameObject _) fun o => ?_
  cases o <;> exact trivial
theorem tame_entryPlaceOf (f : Addr) (b : Bool) : Tame (entryPlaceOf f b) := by
  unfold entryPlaceOf
  refine Tame.bind (fun _ => trivial) fun l => ?_
  split <;> exact trivial
theorem tame_newFields (ty : String) (vs : List Value) : Tame (newFields ty vs) := by
  unfold newFields newObj
  have hn : Tame (newObjAsIs (.type ty) (.fields vs.toArray) none) := fun _ => trivial
  dsimp only
  refine tame_ite (Tame.bind trivial fun _ => hn) hn
theorem tame_noteFrame (e : Value) (env : Env) : Tame (noteFrame e env) := by
  unfold noteFrame
  cases env.frame with
  | none => exact trivial
  | some f =>
    refine Tame.bind (tame_field _ _) fun head => ?_
    have fin : ∀ b, Tame (do setField e 1 (← EntryCells.newEntry head (← PySem.frameOf env) .none (rawInt f) .none (← entryPlaceOf f b))) := fun b =>
      Tame.bind (tame_frameOf _) fun _ => Tame.bind (tame_entryPlaceOf _ _) fun _ => Tame.bind (tame_newFields _ _) fun _ => tame_setField _ _ _
    refine tame_ite (Tame.bind (tame_field _ _) fun _ => tame_ite trivial (Tame.bind (tame_setField _ _ _) fun _ => fin _)) (fin _)
theorem tame_leaving (env : Env) (e : Value) : Tame (leaving env e) := Tame.bind (tame_noteFrame _ _) fun _ => tame_setFlight _ _
end
end Mine
end TamePart
section FlyPart
open PySem PySem.W PySem.Calls PyProof.Rows PyProof.V
set_option maxRecDepth 100000
namespace Mine
/-- an exception of class C whose own dict is D flies over the frames l; news stands under it -/
def RaisedD (base G : Heap) (l : List Env) (e C D : Addr) (news : List (Addr × Obj)) (h : Heap) : Prop :=
  ∃ B a0, base.StaysIn B ∧ (∀ b o, G.get? b = some o → b ∉ l.filterMap (·.frame) → B.get? b = some o) ∧ (∀ q ∈ news, B.get? q.1 = some q.2 ∧ G.get? q.1 = none ∧ base.get? q.1 = none) ∧
    Heap.FlyingW B l e (.ref C) a0 h ∧ ∃ oe, h.get? e = some oe ∧ oe.dict = some D

section
variable {M : Model} {A : Around} {E : Value → Shared → Prop} {s' : Shared} {base g : Heap} {outer : List Env} {L a e t C D : Addr} {m : Str → Option Value} {name : Str} {scope : Scope} {cd : Value} {Q : Unit → Shared → Prop} {news : List (Addr × Obj)}

theorem leaveD (K : Below A base outer g) (F : Fr g L s'.heap m) (N : News g L s'.heap ((e, excO C (some D) t) :: news)) (hne : ∀ p ∈ news, p.1 ≠ e)
    (hQ : ∀ h', RaisedD base g outer e C D news h' → g.UpToSlots h' → Q () { s' with heap := h' }) (hk : scope.kind = .function := by rfl) :
    wpAny M (A.deeper (envOf name scope L a cd)) (leaving (envOf name scope L a cd) (.ref e)) Q E s' := by
  have K' := K.push (name := name) (a := a) (cd := cd) F hk
  have he := N _ (.head _)
  have bne : ∀ {b : Addr} {o : Obj}, g.get? b = some o → b ≠ e := fun q z => by rw [z, he.2.2] at q; cases q
  generalize hfs : (envOf name scope L a cd :: outer).filterMap (·.frame) = fs
  have inF : ∀ {b : Addr}, b ∈ fs → base.get? b = none := fun hb => (K'.frames.mem (hfs ▸ hb)).1
  have gF : ∀ {b : Addr} {o : Obj}, g.get? b = some o → b ∉ outer.filterMap (·.frame) → b ∉ fs := fun {b} {o} q nm hb => by
    rcases kts_mem (hfs ▸ hb) with z | z
    · rw [z, kts_self F] at q; cases q
    · exact nm z
  have st : base.StaysIn (hideAll s'.heap (e :: fs)) := fun b o q => hideAll_get _ (K'.stays b o q) fun hm => by
    rcases List.mem_cons.mp hm with z | z
    · exact bne (K.stays b o q) z
    · rw [inF z] at q; cases q
  have sg : ∀ b o, g.get? b = some o → b ∉ outer.filterMap (·.frame) → (hideAll s'.heap (e :: fs)).get? b = some o := fun b o q nm => hideAll_get _ (F.keep b o q) fun hm => by
    rcases List.mem_cons.mp hm with z | z
    · exact bne q z
    · exact gF q nm z
  have hl : ∀ q ∈ news, (hideAll s'.heap (e :: fs)).get? q.1 = some q.2 ∧ g.get? q.1 = none ∧ base.get? q.1 = none := fun q hq => by
    have n := N q (.tail _ hq)
    refine ⟨hideAll_get _ n.1 fun hm => ?_, n.2.2, fresh_of_stays K.stays n.2.2⟩
    rcases List.mem_cons.mp hm with z | z
    · exact hne q hq z
    · rcases kts_mem (hfs ▸ z) with y | y
      · exact n.2.1 y
      · obtain ⟨o, ho, _⟩ := (K.frames.mem y).2
        rw [n.2.2] at ho; cases ho
  have hf := funFrames_hide (as := e :: fs) K'.frames fun env he b hb => .tail _ (hfs ▸ List.mem_filterMap.mpr ⟨env, he, hb⟩)
  refine wpAny_mono (wpAny_tame (tame_leaving _ _) (wpAny_leaving_firstW (Q := fun _ s₂ => ∃ h', s₂ = { s' with heap := h' } ∧ Heap.LeftW (hideAll s'.heap (e :: fs)) (envOf name scope L a cd :: outer) e (.ref C) (.ref t) s'.heap h') K'.stack hf rfl he.1 (fun b o q => of_hideAll _ q) (hideAll_none _ (.head _)) rfl rfl rfl
    fun h' hL => ⟨h', rfl, hL⟩)) (fun _ s₂ q => ?_) fun _ _ x => x.1
  obtain ⟨⟨h', rfl, k1, ⟨_, _, k2⟩, k3, k4⟩, sd⟩ := q
  obtain ⟨oe, h1, h2⟩ := sd _ _ he.1
  exact hQ h' ⟨_, .ref t, st, sg, hl, ⟨k1, hideAll_none _ (.head _), k2, k3⟩, oe, h1, h2⟩ ((Heap.UpToSlots.of_keeps F.keep).trans k4)
end

section
variable {prog : Program} {w : World} {A₀ : Around} {E : Value → Shared → Prop} {s' : Shared} {base g g₀ G : Heap} {outer : List Env} {L a e C D : Addr} {m : Str → Option Value} {name : Str} {scope : Scope} {cd : Value}
  {n : Str} {b₀ : Stmt} {suite : List Stmt} {pos np : Pos} {rest : List ExceptHandler} {Q : Flow → Shared → Prop} {news : List (Addr × Obj)} {KF : Frag}
  {p : Program} {loose : List Str} {mean : ExcName → Option Value} {mg mb : Str → Option Value} {x : Str}

theorem caughtD (R : RaisedD base G (envOf name scope L a cd :: outer) e C D news s'.heap) (F : Fr g L G m) (K : Below A₀ base outer g) (hsm : G.UpToSlots s'.heap) (XB : KF.In base) (TB : Top p loose mean mg mb base)
    (ex : nsIn KF mainGlobals x = some (some (.ref C))) (q : ktsIn KF C "BaseException" = true)
    (k : ∀ h' g' oe ws tk, KtsTurn (outer.filterMap (·.frame)) g g' → Fr g' L h' (fun y => if y = n then some (.ref e) else m y) → News g' L h' ((e, oe) :: news) → oe.cls = .ref C → oe.data = .fields ws → oe.dict = some D → Below A₀ base outer g' → KF.In g' → Top p loose mean mg mb g' →
      wpAny (model prog w) ((A₀.deeper (envOf name scope L a cd)).mark (some (.ref e))) (execs (b₀ :: suite) (envOf name scope L a cd))
        (fun f s₄ => wpAny (model prog w) (A₀.deeper (envOf name scope L a cd)) (do bindName (envOf name scope L a cd) n .none; unbindBehindTheSuite (envOf name scope L a cd) n pos) (fun _ s₅ => Q f s₅) E s₄)
        (AsSuiteRaised (model prog w) ((A₀.deeper (envOf name scope L a cd)).mark (some (.ref e))) (envOf name scope L a cd) n pos (notedBy (model prog w) ((A₀.deeper (envOf name scope L a cd)).mark (some (.ref e))) (envOf name scope L a cd) (cameBackBy (model prog w) (A₀.deeper (envOf name scope L a cd)) (envOf name scope L a cd) E)))
        { s' with heap := h', toks := tk })
    (hk : scope.kind = .function := by rfl) (hlo : (envOf name scope L a cd).kindOf n = some .local := by rfl) (hx : (envOf name scope L a cd).kindOf x = some .globalImplicit := by rfl) (hd : (x == ("__debug__" : Str)) = false := by decide) :
    wpAny (model prog w) (A₀.deeper (envOf name scope L a cd)) (noteFrame (.ref e) (envOf name scope L a cd))
      (fun _ s₂ => wpAny (model prog w) (A₀.deeper (envOf name scope L a cd)) (setFlight (.ref e) none) (fun _ s₃ =>
        wpAny (model prog w) (A₀.deeper (envOf name scope L a cd)) (handleBy (.ref e) (envOf name scope L a cd) (.ExceptHandler (some (.Name x np)) (some n) (b₀ :: suite) pos :: rest)) Q E s₃) E s₂) E s' := by
  obtain ⟨B, a0, hB, hBG, hl, hfl, oe₀, hoe₀, hd₀⟩ := R
  have hL : B.get? L = none := by
    obtain ⟨_, ⟨L', _, hf, hn', _⟩, _⟩ := hfl.2.2.1
    obtain rfl : L = L' := Option.some.inj hf
    exact hn'
  refine wpAny_mono (wpAny_tame (tame_noteFrame _ _) (wpAny_looks_onW (Q := fun _ s₂ => ∃ h', s₂ = { s' with heap := h' } ∧ Heap.HeldW B (envOf name scope L a cd :: outer) e (.ref C) a0 L h' ∧ s'.heap.UpToSlots h') (Around.frames_deeper K.stack) rfl hfl fun h₄ x1 x2 => ⟨h₄, rfl, x1, x2⟩)) (fun _ s₂ z => ?_) fun _ _ x => x.1
  obtain ⟨⟨h₄, rfl, hheld₄, hsm₄⟩, sd₄⟩ := z
  obtain ⟨oe₄, hoe₄, hd₄⟩ := sd₄ _ _ hoe₀
  refine wpAny_mono (wpAny_tame (tame_setFlight _ _) (wpAny_landsW (Q := fun _ s₂ => ∃ h', s₂ = { s' with heap := h' } ∧ Heap.FlyingW B (envOf name scope L a cd :: outer) e (.ref C) a0 h' ∧ h₄.UpToSlots h') hheld₄ fun h₅ x1 x2 => ⟨h₅, rfl, x1, x2⟩)) (fun _ s₂ z => ?_) fun _ _ x => x.1
  obtain ⟨⟨h₅, rfl, hheld, hsm₅'⟩, sd₅⟩ := z
  obtain ⟨oe₅, hoe₅, hd₅⟩ := sd₅ _ _ hoe₄
  have hsm₅ := hsm₄.trans hsm₅'
  obtain ⟨g₅, T₅, F₅, K₅⟩ := kts_ground K F hBG hheld.1 (hsm.trans hsm₅)
  have X₅ : KF.In g₅ := XB.keeps K₅.stays
  have P₅ : TopRead p loose mg mb g₅ := topRead_of (TB.keeps K₅.stays)
  obtain ⟨ob, hob, hobc⟩ := hheld.there
  obtain ⟨nm, q', N, bs, bm, hdct, sn, sub, ab, col, dd, k0, k1, k2, k3, k5, newId, hC, hbase, hbT⟩ := kts_cls X₅ q
  have hC₅ := F₅.keep _ _ hC
  refine wpAny_handleBy_cons (codeAny_handlers_test (name_K F₅ X₅ P₅ ex ?_ hk hx hd)) (by intro q; cases q)
  refine wpAny_excMatches_sub_self hC₅ hob hobc hbase (codeAny_handlers_suite_as ?_)
  refine wpAny_mono (wpAny_tame (tame_setFlight _ _) (lands_againW (Q := fun _ s₂ => ∃ h', s₂ = { s' with heap := h' } ∧ Heap.FlyingW B (envOf name scope L a cd :: outer) e (.ref C) a0 h' ∧ h₅.UpToSlots h') hheld fun h₆ x1 x2 => ⟨h₆, rfl, x1, x2⟩)) (fun _ s₂ z => ?_) fun _ _ x => x.1
  obtain ⟨⟨h₆, rfl, hfl₆, hsm₆⟩, sd₆⟩ := z
  obtain ⟨oe₆, hoe₆, hd₆⟩ := sd₆ _ _ hoe₅
  obtain ⟨g₆, T₆, F₆, K₆⟩ := kts_ground K F hBG hfl₆.1 ((hsm.trans hsm₅).trans hsm₆)
  obtain ⟨oe, ws, hoe, hoec, hoed, hoe0⟩ := hfl₆.first
  obtain rfl : oe = oe₆ := Option.some.inj (hoe.symm.trans hoe₆)
  have ne₆ : g₆.get? e = none := T₆.none_ _ (kts_fresh F hBG hfl₆.2.1 fun o ho m => by
    obtain ⟨_, o', ho', hd⟩ := K.frames.mem m
    obtain rfl : o = o' := Option.some.inj (ho.symm.trans ho')
    obtain ⟨sl, hs⟩ := ((hsm.trans hsm₅).trans hsm₆) _ _ (F.keep _ _ ho) hd
    obtain rfl := Option.some.inj (hoe.symm.trans hs)
    exact hd _ hoed)
  have Nl : News g₆ L h₆ news := fun q hq => ⟨hfl₆.1 _ _ (hl q hq).1, (fun z => by have := (hl q hq).1; rw [z, hL] at this; cases this), T₆.none_ _ (kts_none F.keep (hl q hq).2.1)⟩
  have N₆ : News g₆ L h₆ ((e, oe) :: news) := News.more F₆ Nl hoe (fun es n q => by rw [hoed] at q; cases q) ne₆
  refine stN F₆ N₆ (fun h₇ F₇ N₇ => ?_) hk hlo
  exact k h₇ g₆ oe ws _ T₆ F₇ N₇ hoec hoed (hd₆.trans (hd₅.trans (hd₄.trans hd₀))) K₆ (XB.keeps K₆.stays) (TB.keeps K₆.stays)
end
end Mine
end FlyPart
section EntPart
open PySem PySem.W PySem.Calls PyProof.Rows PyProof.V
set_option maxRecDepth 100000
namespace Mine
section
variable {prog : Program} {w : World} {A₀ A : Around} {s : Shared} {base h₀ : Heap} {L : Addr} {m : Str → Option Value} {env : Env} {news : List (Addr × Obj)} {K : Frag} {p : Program} {loose : List Str} {mean : ExcName → Option Value} {mg mb : Str → Option Value}
    {R : Result → Shared → Prop} {name qual : Str} {params : Arguments} {body : List Stmt} {scope : Scope} {dV kV doc pm cdv ct oc : Value} {an od : Option Addr} {osl : Array (Option Value)} {f : Addr} {args : Args} {binds : List (Str × Value)}

/-- a def is entered from a frame at the bottom of the stack (one with cells too), whose slots the call may turn -/
theorem enterT (B : Below A₀ base [] h₀) (F : Fr h₀ L s.heap m) (X₀ : K.In h₀) (N : News h₀ L s.heap news) (T : Top p loose mean mg mb h₀) (hA : A.frames = some [env]) (hf : env.frame = some L) (hke : env.scope.kind = .function)
    (ho : K.lookup f = some ⟨oc, od, .func (fnOf name qual params body scope dV kV doc pm an cdv ct), osl⟩) (hcd : codeIn K cdv qual = true) (hroom : A.depth < recursionLimit)
    (hbind : BindsTo s (fnOf name qual params body scope dV kV doc pm an cdv ct) args binds) (hloc : ∀ y ∈ binds, scope.names.lookup y.1 = some .local)
    (h : ∀ g L' h₁, Fr h₀ L g m → Fr g L' h₁ (fun y => binds.reverse.lookup y) → News g L' h₁ news → Below A base [env] g → K.In g → Top p loose mean mg mb g →
      wpAny (model prog w) (A.deeper (envOf qual scope L' f cdv)) (execs body (envOf qual scope L' f cdv))
        (fun fl s' => LeaveS0 ([env].filterMap (·.frame)) h₀ L m g R (match fl with | .ret v => v | _ => .none) s')
        (fun e s' => wpAny (model prog w) (A.deeper (envOf qual scope L' f cdv)) (leaving (envOf qual scope L' f cdv) e) (fun _ s'' => R (.error e) s'') (fun e' s'' => R (.error e') s'') s')
        { s with heap := h₁, toks := s.toks + binds.length })
    (hco : scope.isCoroutine = false) (hgen : scope.isGenerator = false) (hk : scope.kind = .function)
    (hcell : ∀ x ∈ scope.names, x.2 ≠ .cell) : codeAny (model prog w) A (.call (.ref f) args) R s := by
  obtain ⟨FG, BG, st, _⟩ := groundX (R := R) B F N hA hf hke
  have X := X₀.keeps F.keep
  refine codeAny_call_def (fd := fnOf name qual params body scope dV kV doc pm an cdv ct) (body := body) (binds := binds) hroom (X _ _ ho) rfl (T.nolimit.keeps F.keep) (codeRec_of X hcd) rfl hbind hcell hloc (fun h₁ hns hk₁ => ?_) hco hgen hk
  refine wpAny_mono (h _ s.heap.objs.size h₁ FG ⟨hns, fun b o e => hk₁ b o (of_hideAll _ e), Nat.le_of_eq (hideAll_size _ _)⟩
    (fun p hp => ⟨hk₁ _ _ (N p hp).1, Nat.ne_of_lt (Heap.lt_size (N p hp).1), hideAll_none _ (List.mem_map_of_mem hp)⟩) BG (X₀.keeps st) (T.keeps st)) (fun fl s' hl => ?_) fun _ _ y => y
  obtain ⟨g', L', m', news', TT, F', N', k⟩ := hl
  have only : ∀ {b : Addr} {o : Obj}, h₀.get? b = some o → b ∉ [env].filterMap (·.frame) := fun {b} {o} q hm => by
    have : b = L := by simpa [hf] using hm
    rw [this, kts_self F] at q; cases q
  obtain ⟨oL, es, ep, hL, r⟩ := FG.ns
  obtain ⟨sl, hs⟩ := TT.up hL
  refine k ⟨⟨_, es, ep, F'.keep _ _ hs, r⟩, fun b o e => F'.keep _ _ (TT.other b o (st b o e) (only e)), F.above⟩ fun p hp => ⟨(N' p hp).1, fun q => ?_, ?_⟩
  · have := (N' p hp).2.2; rw [q, hs] at this; cases this
  · cases q : h₀.get? p.1 with
    | none => rfl
    | some o => have := (N' p hp).2.2; rw [TT.other _ _ (st _ _ q) (only q)] at this; cases this
end

section
variable {M : Model} {A : Around} {E : Value → Shared → Prop} {s : Shared} {env : Env}
variable {nm q : Str} {C N : Addr} {bs bm : List Value} {hdct : Bool} {sn : List Str} {sub : List Value} {ab : Bool} {col : Option Bool} {dd : Option Addr} {k0 k1 k2 k3 k5 : Option Value} {newId : String}
/-- an object of an own exception class is raised -/
theorem raiseD {ex : Expr} {pos : Pos} {Q : Flow → Shared → Prop} (hbase : bm.contains (.type "BaseException") = true) (hh : A.handled = none)
    (h : wpAny M A (eval ex env) (fun v s₁ => ∃ e oe vs, v = .ref e ∧ s₁.heap.get? C = some (excClassObj nm q C N bs bm hdct sn sub ab col dd k0 k1 k2 k3 k5 newId) ∧
      s₁.heap.get? e = some oe ∧ oe.cls = .ref C ∧ oe.data = .fields vs ∧ vs[1]? = some .none ∧ E (.ref e) s₁) E s) :
    wpAny M A (exec (.Raise (some ex) none pos) env) Q E s := by
  have hcB : (Value.ref C :: bm).contains (.type "BaseException") = true := by rw [List.contains_cons, hbase, Bool.or_true]
  show wpAny M A (do standAt pos; raiseStmt env (some (do let v ← eval ex env; standAt pos; pure v)) none) Q E s
  refine wpAny_bind (wpAny_standAt ?_)
  unfold raiseStmt
  dsimp only
  refine wpAny_bind (wpAny_bind (wpAny_mono h (fun v s₁ h₁ => wpAny_bind (wpAny_standAt (wpAny_pure ?_))) fun _ _ x => x))
  obtain ⟨e, oe, vs, rfl, hC, he, hc, hd, h1, hE⟩ := h₁
  obtain ⟨hp, g, d, tk, os⟩ := s₁
  repeat (first | (with_reducible refine wpAny_loadPart_at he ?_; first | rw [hc] | rw [hd]) | with_reducible refine wpAny_loadPart_at hC ?_ | (with_reducible refine wpAny_isSubtype_exc hC ?_; rw [hcB]) | with_reducible refine wpAny_field he hd h1 ?_ | wp_step)
  exact wpAny_raiseNew_none hh hE
end
end Mine
end EntPart
section ClsPart
open PySem PySem.W PySem.Calls PyProof.Rows PyProof.V
set_option maxRecDepth 100000
namespace Mine
theorem ns_some_of {K : Frag} {h : Heap} {N : Addr} {mg : Str → Option Value} {n : Str} {v : Value} (X : K.In h) (G : h.Ns N mg) (e : nsIn K N n = some (some v)) : mg n = some v := by
  obtain ⟨o, es, ep, ho, hd, _, hf⟩ := G
  unfold nsIn at e
  split at e
  · rename_i c d es' n' sl q
    obtain rfl := Option.some.inj (ho.symm.trans (X _ _ q))
    obtain ⟨rfl, rfl⟩ : es' = es ∧ n' = ep := by cases hd; exact ⟨rfl, rfl⟩
    split at e
    · rename_i en he
      rw [← hf, show nsFind es' n = some en.val from by unfold nsFind findBy; rw [← Array.find?_toList, he]; rfl]
      exact Option.some.inj e
    · split at e <;> cases e
  · cases e

section
variable {prog : Program} {w : World} {A : Around} {E : Value → Shared → Prop} {s : Shared} {h₀ : Heap} {L : Addr} {m : Str → Option Value} {news : List (Addr × Obj)} {K : Frag}
variable {nm q : Str} {C N : Addr} {bs : List Value} {sn : List Str} {sub : List Value} {ab : Bool} {col : Option Bool} {dd : Option Addr} {k0 k1 k2 k3 k5 : Option Value} {newId : String}

/-- the class of an own exception with its own __init__ is called -/
theorem call_excInit {rest : List Value} {fI : Addr} {Q : Value → Shared → Prop} (F : Fr h₀ L s.heap m) (X₀ : K.In h₀) (Nw : News h₀ L s.heap news)
    (hC : K.lookup C = some (excClassObj nm q C N bs [.type "Exception", .type "BaseException", .type "object"] true sn sub ab col dd k0 k1 k2 k3 k5 "Exception.__new__"))
    (hok : nsOkIn K N = true) (hi : nsIn K N "__init__" = some (some (.ref fI))) (hf : isFn K (.ref fI) = true) (hfo : (K.lookup fI).isSome = true) (hrest : rest.length ≤ 100)
    (h : ∀ e t h', Fr h₀ L h' m → News h₀ L h' ((e, excO C none t) :: (t, { cls := .type "tuple", data := .seq rest.toArray }) :: news) → @Ne Nat t e → (∀ p ∈ news, p.1 ≠ e) → (∀ p ∈ news, p.1 ≠ t) →
      wpAny (model prog w) (A.under (.builtin "type.__call__" ⟨.ref C :: rest, []⟩)) (call (.ref fI) (.ref e :: rest)) (fun r s' => r = .none ∧ Q (.ref e) s') E { s with heap := h' }) :
    wpAny (model prog w) A (call (.ref C) rest) Q E s := by
  have X := X₀.keeps F.keep
  have hn : s.heap.Ns N (s.heap.nsMap N) := .of_isNs (isNs_of_in X hok)
  obtain ⟨oI, hoI⟩ := Option.isSome_iff_exists.mp hfo
  have hfI := X _ _ hoI
  have hfc : oI.cls = .type "function" := by
    have z : typeIn K (.ref fI) = some (.type "function") := beq_iff_eq.mp hf
    unfold typeIn at z
    dsimp only at z
    rw [hoI] at z
    exact Option.some.inj z
  obtain ⟨hp, g, d, tk, os⟩ := s
  refine wpAny_call_exc_init (hrest := by rw [sizeLine_eq]; omega) PySem.F.excBase_Exception (X _ _ hC) hn (ns_some_of X hn hi) hfI hfc fun h' e hm => ?_
  obtain ⟨t, he, htn, ht⟩ := hm.there
  have F' : Fr h₀ L h' m := F.keeps hm.keeps
  have none_ : ∀ {b : Addr}, hp.get? b = none → h₀.get? b = none := fun {b} q => by
    cases z : h₀.get? b with
    | none => rfl
    | some o => rw [F.keep b o z] at q; cases q
  have neL : ∀ {b : Addr}, hp.get? b = none → b ≠ L := fun {b} q z => by
    obtain ⟨o, _, _, ho, _⟩ := F.ns
    rw [z, ho] at q; cases q
  have nw : ∀ {b : Addr}, hp.get? b = none → ∀ p ∈ news, p.1 ≠ b := fun {b} q p hp' z => by
    rw [← z, (Nw p hp').1] at q; cases q
  have hte : t ≠ e := fun z => by
    rw [z, he] at ht; cases ht
  refine h e t h' F' (fun p hp' => ?_) hte (nw hm.new) (nw htn)
  rcases List.mem_cons.mp hp' with rfl | hp'
  · exact ⟨he, neL hm.new, none_ hm.new⟩
  rcases List.mem_cons.mp hp' with rfl | hp'
  · exact ⟨ht, neL htn, none_ htn⟩
  · exact ⟨hm.keeps _ _ (Nw p hp').1, (Nw p hp').2⟩
end
end Mine
end ClsPart
section LedPart
open PySem PySem.W PySem.Calls PyProof.Rows PyProof.V
set_option maxRecDepth 100000
namespace Mine
abbrev tupO (vs : List Value) : Obj := { cls := .type "tuple", data := .seq vs.toArray }
section
variable {prog : Program} {w : World} {A : Around} {E : Value → Shared → Prop} {s : Shared} {h₀ : Heap} {L e t D : Addr} {m : Str → Option Value} {rest : List (Addr × Obj)} {K : Frag}
variable {nm q : Str} {C N : Addr} {bs : List Value} {sn : List Str} {sub : List Value} {ab : Bool} {col : Option Bool} {dd : Option Addr} {k0 k1 k2 k3 k5 : Option Value} {newId : String}

theorem fr_pushUpd {h : Heap} {o o' x : Obj} {f : Obj → Obj} (F : Fr h₀ L h m) (Nw : News h₀ L h ((e, o) :: rest)) (hne : ∀ p ∈ rest, p.1 ≠ e) (hf : f o = o') (hfr : o'.isFreed = false) (hx : x.isFreed = false) :
    Fr h₀ L ((h.push x).update e f) m ∧ News h₀ L ((h.push x).update e f) ((e, o') :: (h.objs.size, x) :: rest) := by
  have N₁ : News h₀ L (h.push x) (([] : List (Addr × Obj)) ++ (e, o) :: (h.objs.size, x) :: rest) := fun p hp => by
    rcases List.mem_cons.mp hp with rfl | hp
    · exact ⟨Heap.get?_push_of_some _ (Nw _ (.head _)).1, (Nw _ (.head _)).2⟩
    rcases List.mem_cons.mp hp with rfl | hp
    · exact ⟨Heap.get?_push_size _ hx, Nat.ne_of_gt F.ns.lt, by
        cases z : h₀.get? h.objs.size with
        | none => rfl
        | some o => exact absurd (Heap.lt_size (F.keep _ _ z)) (Nat.lt_irrefl _)⟩
    · exact ⟨Heap.get?_push_of_some _ (Nw _ (.tail _ hp)).1, (Nw _ (.tail _ hp)).2⟩
  exact news_upd (F.push _) N₁ (fun _ hp => (nomatch hp)) (fun p hp => by
    rcases List.mem_cons.mp hp with rfl | hp
    · exact Nat.ne_of_gt (Heap.lt_size (Nw _ (.head _)).1)
    · exact hne p hp) hf hfr

theorem led_init {v : Value} {Q : Value → Shared → Prop} (F : Fr h₀ L s.heap m) (X₀ : K.In h₀) (Nw : News h₀ L s.heap ((e, excO C none t) :: rest))
    (hC : K.lookup C = some (excClassObj nm q C N bs [.type "Exception", .type "BaseException", .type "object"] true sn sub ab col dd k0 k1 k2 k3 k5 "Exception.__new__")) (hne : ∀ p ∈ rest, p.1 ≠ e)
    (h : ∀ t' h', Fr h₀ L h' m → News h₀ L h' ((e, excO C none t') :: (t', tupO [v]) :: rest) → @LT.lt Nat _ e t' → (∀ p ∈ rest, p.1 < t') → Q .none { s with heap := h' }) :
    wpAny (model prog w) A (call (.builtin "Exception.__init__") [.ref e, v]) Q E s := by
  obtain ⟨hp, g, d, tk, os⟩ := s
  obtain ⟨F', N'⟩ := fr_pushUpd (x := tupO [v]) (f := Obj.mapFields (·.setIfInBounds 0 (.ref hp.objs.size))) (o' := excO C none hp.objs.size) F Nw hne rfl rfl rfl
  exact exc_init_call (X₀.keeps F.keep _ _ hC) (Nw _ (.head _)).1 (h _ _ F' N' (Heap.lt_size (Nw _ (.head _)).1) fun p hp' => Heap.lt_size (Nw p (.tail _ hp')).1)

theorem led_set_first {name : Str} {v : Value} {Q : Unit → Shared → Prop} (F : Fr h₀ L s.heap m) (X₀ : K.In h₀) (Nw : News h₀ L s.heap ((e, excO C none t) :: rest))
    (hC : K.lookup C = some (excClassObj nm q C N bs [.type "Exception", .type "BaseException", .type "object"] true sn sub ab col dd k0 k1 k2 k3 k5 newId))
    (hok : nsOkIn K N = true) (hns : nsIn K N "__setattr__" = some none) (hna : nsIn K N name = some none) (hB : typeLookup (.type "Exception") name = pure none) (hne : ∀ p ∈ rest, p.1 ≠ e)
    (h : ∀ D h', Fr h₀ L h' m → News h₀ L h' ((e, excO C (some D) t) :: (D, dictOf [⟨PyData.keyHash w.params name, .str name (s.toks + 1), v⟩] 1) :: rest) → @LT.lt Nat _ e D → (∀ p ∈ rest, p.1 < D) → Q () { s with heap := h', toks := s.toks + 2 }) :
    wpAny (model prog w) A (setAttr (.ref e) name v) Q E s := by
  obtain ⟨hp, g, d, tk, os⟩ := s
  have X := X₀.keeps F.keep
  obtain ⟨F', N'⟩ := fr_pushUpd (x := dictOf [] 0) (f := fun o => { o with dict := some hp.objs.size }) (o' := excO C (some hp.objs.size) t) F Nw hne rfl rfl rfl
  have lt := Heap.lt_size (Nw _ (.head _)).1
  obtain ⟨F₂, N₂⟩ := news_upd (f := Obj.putName name (PyData.keyHash w.params name) (.str name (tk + 1)) v) (pre := [(e, excO C (some hp.objs.size) t)]) F' N' (fun p hp' => by
    rw [List.mem_singleton.mp hp']; exact Nat.ne_of_lt lt) (fun p hp' => Nat.ne_of_lt (Heap.lt_size (Nw p (.tail _ hp')).1)) (putName_dict ..) rfl
  exact exc_set_first PySem.F.store_Exception (X _ _ hC) (.of_isNs (isNs_of_in X hok)) (nsMap_none_of_in X hok hns) (nsMap_none_of_in X hok hna) hB (Nw _ (.head _)).1 rfl rfl rfl
    (h _ _ F₂ N₂ lt fun p hp' => Heap.lt_size (Nw p (.tail _ hp')).1)

theorem led_set_next {name : Str} {v : Value} {es : List DictEntry} {n : Nat} {Q : Unit → Shared → Prop} (F : Fr h₀ L s.heap m) (X₀ : K.In h₀) (Nw : News h₀ L s.heap ((e, excO C (some D) t) :: (D, dictOf es n) :: rest))
    (hC : K.lookup C = some (excClassObj nm q C N bs [.type "Exception", .type "BaseException", .type "object"] true sn sub ab col dd k0 k1 k2 k3 k5 newId))
    (hok : nsOkIn K N = true) (hns : nsIn K N "__setattr__" = some none) (hna : nsIn K N name = some none) (hB : typeLookup (.type "Exception") name = pure none) (hlt : @LT.lt Nat _ e D) (hne : ∀ p ∈ rest, p.1 < D)
    (hk : es.any (·.refKey) = false) (hz : (putL name (PyData.keyHash w.params name) (.str name (s.toks + 1)) v es).length ≤ 1000)
    (h : ∀ h', Fr h₀ L h' m → News h₀ L h' ((e, excO C (some D) t) :: (D, dictOf (putL name (PyData.keyHash w.params name) (.str name (s.toks + 1)) v es) (putN name es n)) :: rest) → Q () { s with heap := h', toks := s.toks + 2 }) :
    wpAny (model prog w) A (setAttr (.ref e) name v) Q E s := by
  obtain ⟨hp, g, d, tk, os⟩ := s
  have X := X₀.keeps F.keep
  obtain ⟨F₂, N₂⟩ := news_upd (f := Obj.putName name (PyData.keyHash w.params name) (.str name (tk + 1)) v) (pre := [(e, excO C (some D) t)]) F Nw (fun p hp' => by
    rw [List.mem_singleton.mp hp']; exact Nat.ne_of_lt hlt) (fun p hp' => Nat.ne_of_lt (hne p hp')) (putName_dict ..) rfl
  exact exc_set_next PySem.F.store_Exception (X _ _ hC) (.of_isNs (isNs_of_in X hok)) (nsMap_none_of_in X hok hns) (nsMap_none_of_in X hok hna) hB (Nw _ (.head _)).1 rfl rfl (Nw _ (.tail _ (.head _))).1 hk hz (h _ F₂ N₂)

theorem led_get {oe : Obj} {ws : Array Value} {name : Str} {i : Int} {tk : Tok} {es : List DictEntry} {n : Nat} {expr : Bool} {news : List (Addr × Obj)} {Q : Value → Shared → Prop} (F : Fr h₀ L s.heap m) (X₀ : K.In h₀) (Nw : News h₀ L s.heap news)
    (he : (e, oe) ∈ news) (hc : oe.cls = .ref C) (hd : oe.data = .fields ws) (hde : oe.dict = some D) (hD : (D, dictOf es n) ∈ news)
    (hC : K.lookup C = some (excClassObj nm q C N bs [.type "Exception", .type "BaseException", .type "object"] true sn sub ab col dd k0 k1 k2 k3 k5 newId))
    (hok : nsOkIn K N = true) (hng : nsIn K N "__getattribute__" = some none) (hnh : nsIn K N "__getattr__" = some none) (hna : nsIn K N name = some none) (hB : typeLookup (.type "Exception") name = pure none)
    (hl : getL name es = some (some (.int i tk))) (h : Q (.int i tk) { s with toks := s.toks + 1 }) :
    wpAny (model prog w) A (getAttr (.ref e) name expr) Q E s := by
  obtain ⟨hp, g, d, tk', os⟩ := s
  have X := X₀.keeps F.keep
  exact exc_get PySem.F.attrBase_Exception (X _ _ hC) (.of_isNs (isNs_of_in X hok)) (nsMap_none_of_in X hok hng) (nsMap_none_of_in X hok hnh) (nsMap_none_of_in X hok hna) hB (Nw _ he).1 hc hd hde (Nw _ hD).1 hl h
end
end Mine
end LedPart
section NoPart
open PySem PySem.W PySem.Calls PyProof.Rows PyProof.V
set_option maxRecDepth 100000
namespace Mine
def RaisesK (h₀ : Heap) (C : Addr) (E : Value → Shared → Prop) (v : Value) (s₁ : Shared) : Prop :=
  ∃ e D t L m news, v = .ref e ∧ Fr h₀ L s₁.heap m ∧ News h₀ L s₁.heap news ∧ (e, excO C (some D) t) ∈ news ∧ E (.ref e) s₁
theorem RaisesK.intro {h₀ : Heap} {C e D t L : Addr} {E : Value → Shared → Prop} {s₁ : Shared} {m : Str → Option Value} {news : List (Addr × Obj)} (F : Fr h₀ L s₁.heap m) (N : News h₀ L s₁.heap news) (hm : (e, excO C (some D) t) ∈ news)
    (h : E (.ref e) s₁) : RaisesK h₀ C E (.ref e) s₁ := ⟨e, D, t, L, m, news, rfl, F, N, hm, h⟩
section
variable {M : Model} {A : Around} {E : Value → Shared → Prop} {s : Shared} {env : Env} {K : Frag} {h₀ : Heap} {L : Addr} {m : Str → Option Value}
variable {nm q : Str} {C N : Addr} {bs : List Value} {sn : List Str} {sub : List Value} {ab : Bool} {col : Option Bool} {dd : Option Addr} {k0 k1 k2 k3 k5 : Option Value} {newId : String}
theorem raiseK {ex : Expr} {pos : Pos} {Q : Flow → Shared → Prop} (C : Addr) (_F : Fr h₀ L s.heap m) (X₀ : K.In h₀) (hC : K.lookup C = some (excClassObj nm q C N bs [.type "Exception", .type "BaseException", .type "object"] true sn sub ab col dd k0 k1 k2 k3 k5 newId)) (hh : A.handled = none)
    (h : wpAny M A (eval ex env) (RaisesK h₀ C E) E s) : wpAny M A (exec (.Raise (some ex) none pos) env) Q E s := by
  refine raiseD (C := C) (nm := nm) (q := q) (N := N) (bs := bs) (bm := [.type "Exception", .type "BaseException", .type "object"]) (hdct := true) (sn := sn) (sub := sub) (ab := ab) (col := col) (dd := dd) (k0 := k0) (k1 := k1) (k2 := k2) (k3 := k3) (k5 := k5) (newId := newId) rfl hh (wpAny_mono h (fun v s₁ h₁ => ?_) fun _ _ x => x)
  obtain ⟨e, D, t, L, m, news, rfl, F, Nw, hm, hE⟩ := h₁
  exact ⟨e, _, _, rfl, X₀.keeps F.keep _ _ hC, (Nw _ hm).1, rfl, rfl, rfl, hE⟩
end
theorem ok30 (P : Params) : nsOkIn (Mine.hd.heap_39 P) 30 = true := by kernel_rfl
theorem fo28 (P : Params) : ((Mine.hd.heap_39 P).lookup 28).isSome = true := by kernel_rfl
theorem ty_Exception : typeOf (.type "Exception") = pure (.type "type") := by first | rfl | kernel_rfl
theorem lk_code : typeLookup (.type "Exception") (Str.ofString "code") = pure none := by rw [typeLookup_type, builtinLookup_eq_fast]; kernel_rfl
theorem lk_frame_type : typeLookup (.type "Exception") (Str.ofString "frame_type") = pure none := by rw [typeLookup_type, builtinLookup_eq_fast]; kernel_rfl
theorem lk_text : typeLookup (.type "Exception") (Str.ofString "text") = pure none := by rw [typeLookup_type, builtinLookup_eq_fast]; kernel_rfl
theorem under_frames {A : Around} {c : Code} {l : List Env} (h : A.frames = some l) (hc : c.envs = []) : (A.under c).frames = some l := by
  show pushEnvs c.envs A.frames = some l
  rw [h, hc]; rfl
end Mine
local macro_rules | `(tactic| k_room) => `(tactic| ktr_room)
local macro_rules | `(tactic| k_all) => `(tactic| assumption)
local macro_rules | `(tactic| walk_at "exec Raise some none") => `(tactic| (k_here; (with_reducible show wpAny _ _ (exec (Stmt.Raise (some (Expr.Call (Expr.Name _ _) (_ :: _) [] _)) none _) _) _ _ _); k_dflt (refine' Mine.raiseK 31 ?F ?X ?C ?h ?_; (case F => k_asm); (case X => k_asm); (case C => k_is); (case h => exact rfl); k_whole)))
local macro_rules | `(tactic| walk_at "RaisesK") => `(tactic| (k_here; refine' Mine.RaisesK.intro ?F ?N ?m ?_; (case F => k_asm); (case N => k_asm); (case m => k_mem); k_whole))
local macro_rules | `(tactic| walk_at "call ref") => `(tactic| (k_here; (with_reducible show wpAny _ _ (call (Value.ref 31) [_, _, _]) _ _ _); k_dflt (refine' Mine.call_excInit (C := 31) (N := 30) (fI := 28) ?F ?X ?N ?C ?ok ?i ?f ?fo ?r ?_; (case F => k_asm); (case X => k_asm); (case N => k_asm); (case C => k_is); (case ok => exact Mine.ok30 _); (case i => k_is); (case f => k_is); (case fo => exact Mine.fo28 _); (case r => exact Nat.le_of_ble_eq_true rfl); k_whole); intro e' t' h' F' N' n1 n2 n3; (try k_sweep); refine wpAny_call ?_; k_dflt k_enter))
local macro_rules | `(tactic| walk_at "getMethod type:Exception") => `(tactic| (k_here; refine' method_type ?F ?X ?m (by decide +kernel) ?e ?h ?_; (case F => k_asm); (case X => k_asm); (case m => exact Mine.ty_Exception); (case e => k_dflt k_is); (case h => k_handed)))
local macro_rules | `(tactic| walk_at "call builtin:Exception.__init__") => `(tactic| (k_here; k_dflt (refine' Mine.led_init (C := 31) (N := 30) ?F ?X ?N ?C ?ne ?_; (case F => k_asm); (case X => k_asm); (case N => k_asm); (case C => k_is); (case ne => k_all); k_whole); intro t' h' F' N' l1 l2; (try k_sweep)))
local macro_rules | `(tactic| walk_at "setAttr ref") => `(tactic| (k_here; k_dflt (refine' Mine.led_set_next (C := 31) (N := 30) ?F ?X ?N ?C ?ok ?ns ?na ?B ?lt ?ne ?k ?z ?_; (case F => k_asm); (case X => k_asm); (case N => k_asm); (case C => k_is); (case ok => exact Mine.ok30 _); (case ns => k_is); (case na => k_is); (case B => first | exact Mine.lk_code | exact Mine.lk_frame_type | exact Mine.lk_text); (case lt => assumption); (case ne => assumption); (case k => rfl); (case z => exact Nat.le_of_ble_eq_true rfl); k_whole); intro h' F' N'; (try k_sweep)))
local macro_rules | `(tactic| walk_at "setAttr ref") => `(tactic| (k_here; k_dflt (refine' Mine.led_set_first (C := 31) (N := 30) ?F ?X ?N ?C ?ok ?ns ?na ?B ?ne ?_; (case F => k_asm); (case X => k_asm); (case N => k_asm); (case C => k_is); (case ok => exact Mine.ok30 _); (case ns => k_is); (case na => k_is); (case B => first | exact Mine.lk_code | exact Mine.lk_frame_type | exact Mine.lk_text); (case ne => k_all); k_whole); intro D' h' F' N' l1 l2; (try k_sweep)))
local macro_rules | `(tactic| walk_at "leaving ref") => `(tactic| (k_here; k_dflt (refine' Mine.leaveD ?K ?F ?N ?ne ?_; (case K => k_asm); (case F => k_asm); (case N => k_asm); (case ne => k_all); k_whole); intro h' R' U'; (try dsimp only at R' U' ⊢)))
local macro_rules | `(tactic| walk_at "noteFrame ref") => `(tactic| (k_here; k_dflt (refine' Mine.caughtD ?R ?F ?K ?U ?XB ?TB ?ex ?q ?_; (case R => assumption); (case F => assumption); (case K => assumption); (case U => assumption); (case XB => assumption); (case TB => assumption); (case ex => k_is); (case q => kts_isx); k_whole); intro h' g' oe' ws' tk' T' F' N' ec' ed' ee' K' X' P'; (try k_lift K'); (try k_sweep)))
local macro_rules | `(tactic| walk_at "getAttr ref") => `(tactic| (k_here; k_dflt (refine' Mine.led_get (C := 31) (N := 30) ?F ?X ?N ?he ?hc ?hd ?hde ?hD ?C ?ok ?ng ?nh ?na ?B ?l ?_; (case F => k_asm); (case X => k_asm); (case N => k_asm); (case he => k_mem); (case hc => assumption); (case hd => assumption); (case hde => assumption); (case hD => k_mem); (case C => k_is); (case ok => exact Mine.ok30 _); (case ng => k_is); (case nh => k_is); (case na => k_is); (case B => first | exact Mine.lk_code | exact Mine.lk_frame_type | exact Mine.lk_text); (case l => k_get); k_whole)))
namespace Mine
set_option maxHeartbeats 4000000 in
theorem spent_no {s₀ : Shared} {w : World} {mg mb : Str → Option Value} {dp un : Nat} {gd : Option (List Code)} {cn : Str} {cs : Scope} {a : Addr} {ccd : Value} {cl : List (Str × Addr)} {A₀ : Around}
    {base h₀ : Heap} {L : Addr} {m : Str → Option Value} {s : Shared} {Q E : Value → Shared → Prop} {x d : Addr} {limit used many : Int} {k₁ k₂ k₃ t₁ t₂ u : Tok} {told : Value} {rest : List (Addr × Obj)}
    (B : Below A₀ base [] h₀) (F : Fr h₀ L s.heap m) (X : (Mine.hd.heap_39 w.params).In h₀)
    (N : News h₀ L s.heap ((x, instObj 86 d) :: (d, cdict w.params k₁ k₂ k₃ limit used t₁ t₂ told) :: rest))
    (T : Top Mine.hd.view_39 (looseW Mine.hd.view_39 []) (ExcName.means s₀.heap) mg mb h₀) (XB : (Mine.hd.heap_39 w.params).In base) (TB : Top Mine.hd.view_39 (looseW Mine.hd.view_39 []) (ExcName.means s₀.heap) mg mb base)
    (hk : cs.kind = .function) (hxd : @Ne Nat x d) (hoff : OwnOff rest [x, d]) (hle : ¬ used + many ≤ limit) (hd : dp + 3 < recursionLimit)
    (ret : ∀ h' tk', Fr h₀ L h' m → News h₀ L h' ((x, instObj 86 d) :: (d, cdict w.params k₁ k₂ k₃ limit used t₁ t₂ told) :: rest) → Q (.bool false) { s with heap := h', toks := tk' }) :
    wpAny (model PySem.Challenge.rw_no0044_01.row.prog w) (ktrTop dp un gd cn cs L a ccd cl []) (call (.ref 111) [.ref x, .int many u]) Q E s := by
  revert X XB; k_fill; intro X XB
  refine wpAny_call ?_
  k_dflt (refine' enterT ?k1 ?k2 ?k3 ?k4 ?k5 ?kA ?kF ?kK ?k6 ?k7 ?k8 ?k9 ?kB ?_ ?c2 ?c3 ?c4 ?c5; (case kA => exact rfl); (case kF => exact rfl); (case kK => assumption); (case k1 => k_asm); (case k2 => k_asm); (case k3 => k_asm); (case k4 => k_asm); (case k5 => k_asm); (case k6 => k_is); (case k7 => k_is); (case k8 => ktr_room); (case k9 => exact BindsTo.of_eq rfl); (case c5 => decide); (case kB => exact locs rfl); (case c2 => exact rfl); (case c3 => exact rfl); (case c4 => exact rfl); k_whole; intro g' L' h' FG' F' N' B' X' T'; (try dsimp only); (try k_lift B'); (try k_fold))
  k_steps
  rename News h₀ L _ (_ :: _ :: _ :: _ :: _) => NN
  exact ret _ _ (by k_asm) fun p hp => NN p (.tail _ (.tail _ (.tail _ (.tail _ hp))))
end Mine
end NoPart
section LoopPart
open PySem PySem.W PySem.Calls PyProof.Rows PyProof.V
set_option maxRecDepth 100000
namespace Mine
/-- a turn's end: the state J, the iterator as it was -/
def TurnEndJ (h₀ : Heap) (L : Addr) (J : (Str → Option Value) → List (Addr × Obj) → Prop) (I : Addr) (oI : Obj) (s₁ s₂ : Shared) : Prop :=
  ∃ h' tk m' nx, s₂ = { s₁ with heap := h', toks := tk } ∧ Fr h₀ L h' m' ∧ News h₀ L h' ((I, oI) :: nx) ∧ (∀ p ∈ nx, p.1 ≠ I) ∧ J m' nx
def TurnQ (h₀ : Heap) (L : Addr) (J : (Str → Option Value) → List (Addr × Obj) → Prop) (I : Addr) (oI : Obj) (s₁ : Shared) (Q : Flow → Shared → Prop) (f : Flow) (s₂ : Shared) : Prop :=
  match f with
  | .ret v => Q (.ret v) s₂
  | .brk => Q .next s₂
  | _ => TurnEndJ h₀ L J I oI s₁ s₂

section
variable {prog : Program} {w : World} {A : Around} {E : Value → Shared → Prop} {s : Shared} {env : Env} {h₀ : Heap} {x : Str} {body : List Stmt} {Q : Flow → Shared → Prop}
theorem rangeJ {r : Addr} {a₀ b₀ : Int} {t₀ u₀ v₀ : Tok} {n : Nat} {m₀ : Str → Option Value} {news : List (Addr × Obj)} (J : Nat → (Str → Option Value) → List (Addr × Obj) → Prop)
    (hh : A.handled = none) (hr : IsRange s.heap r a₀ b₀ 1 t₀ u₀ v₀) (hsmall : Builtin.Range.small a₀ b₀ 1 = true) (hn : Builtin.Range.rangeSize a₀ b₀ 1 = (n : Int)) (F : Fr h₀ env.locals s.heap m₀) (N : News h₀ env.locals s.heap news) (hj : J 0 m₀ news)
    (turn : ∀ i t m₁ nx h tk I oI, i < n → J i m₁ nx → (∀ p ∈ nx, p.1 ≠ I) → Fr h₀ env.locals h (fun y => if y = x then some (.int (a₀ + (i : Int)) t) else m₁ y) → News h₀ env.locals h ((I, oI) :: nx) →
      wpAny (model prog w) A (execs body env) (TurnQ h₀ env.locals (J (i + 1)) I oI { s with heap := h, toks := tk } Q) E { s with heap := h, toks := tk })
    (done : ∀ m₁ nx h tk, J n m₁ nx → Fr h₀ env.locals h m₁ → News h₀ env.locals h nx → Q .next { s with heap := h, toks := tk }) :
    wpAny (model prog w) A (pyIter (.ref r)) (fun it s₂ => LoopAtV prog w A h₀ env x body Q E it s₂) E s := by
  refine wpAny_pyIter_range hr hsmall ?_
  have W : Walks prog w A s.heap.objs.size [s.heap.objs.size] [s.heap.objs.size] n (fun i v => i < n ∧ ∃ t, v = .int (a₀ + i * 1) t)
      (fun i h => IsRangeIter h s.heap.objs.size (a₀ + (i : Nat) * 1) ((n : Int) - (i : Nat)) 1) := (Walks.range hh _ a₀ 1 n).bound
  have hI0 : h₀.get? s.heap.objs.size = none := next_is_new F
  refine ⟨_, _, _, n, _, _, m₀, news, J, rfl, W, ?_, ?_, ?_, (by show IsRangeIter _ _ _ _ _; rw [hn]; simpa using Heap.get?_push_size _ rfl), F.push _, (fun p hp => ⟨Heap.get?_push_of_some _ (N p hp).1, (N p hp).2⟩), hj, ?_, ?_⟩
  · intro hm
    exact absurd F.ns.lt ((List.mem_singleton.mp hm) ▸ Nat.lt_irrefl _)
  · intro b hb
    rw [List.mem_singleton.mp hb]
    exact hI0
  · intro p hp hI
    exact absurd (Heap.lt_size (N p hp).1) ((List.mem_singleton.mp hI) ▸ Nat.lt_irrefl _)
  · rintro i v m₁ nx s₁ own ⟨h, tk, rfl⟩ hi ⟨_, t, rfl⟩ hJ hoff hsub _ hall hst F₁ N₁
    obtain ⟨oI, hIo⟩ : ∃ oI, h.get? s.heap.objs.size = some oI := ⟨_, hst⟩
    have own1 : ∀ p ∈ own, p = (s.heap.objs.size, oI) := fun p hp => by
      have a := (N₁ p (List.mem_append.mpr (.inl hp))).1
      have b : p.1 = s.heap.objs.size := List.mem_singleton.mp (hsub p hp)
      rw [b, hIo] at a
      exact Prod.ext b (Option.some.inj a).symm
    have hne : ∀ p ∈ nx, p.1 ≠ s.heap.objs.size := fun p hp e => hoff p hp (List.mem_singleton.mpr e)
    rw [Int.mul_one] at F₁
    refine wpAny_mono (turn i t m₁ nx h tk s.heap.objs.size oI hi hJ hne F₁ fun p hp => ?_) (fun f s₂ p => ?_) fun _ _ e => e
    · rcases List.mem_cons.mp hp with rfl | hp
      · exact N₁ _ (List.mem_append.mpr (.inl (hall _ (.head _) hI0 _ hIo)))
      · exact N₁ p (List.mem_append.mpr (.inr hp))
    · have fin : TurnEndJ h₀ env.locals (J (i + 1)) s.heap.objs.size oI { s with heap := h, toks := tk } s₂ → LoopStepU h₀ env.locals [s.heap.objs.size] own (J (i + 1)) { s with heap := h, toks := tk } .next s₂ := by
        rintro ⟨h', tk', m', nx', e, F', N', hn', hJ'⟩
        refine ⟨rfl, h', tk', m', nx', e, F', fun p hp => ?_, fun p hp hq => hn' p hp (List.mem_singleton.mp hq), hJ'⟩
        rcases List.mem_append.mp hp with hp | hp
        · rw [own1 p hp]; exact N' _ (.head _)
        · exact N' p (.tail _ hp)
      cases f with
      | ret v => exact .ret p
      | brk => exact .brk p
      | next => exact .next (fin p)
      | cont => exact .cont (fin p)
  · rintro h' tk m' nx F' N' _ hJ
    exact done m' nx h' tk hJ F' N'
end

/-- the law's own invariant, no program in sight -/
def LInv (limit used : Int) (told : Value) (hs : List Int) : Prop :=
  used ≤ limit ∧ (∀ y ∈ hs, y ≤ limit) ∧ ((told = .none ∧ limit ∉ hs) ∨ ∃ k t, told = .int k t ∧ k ≤ limit ∧ (k = limit ↔ limit ∈ hs))

structure St where
  (H : Addr) (hn : Nat) (hvs : List Value) (hs : List Int) (vs : List Value) (ns : List Int) (c : Nat) (seed : Int) (ts : Tok) (limit used : Int) (t₁ t₂ k₁ k₂ k₃ tu tl : Tok) (told : Value) (oLim oLost : Obj) (vLost : Option Value)

def led (P : Params) (x d b l cl cm : Addr) (bn : Nat) (c : St) : List (Addr × Obj) :=
  [(b, listOf #[.ref l, .int c.seed c.ts] bn), (l, listOf c.vs.toArray c.c), (c.H, listOf c.hvs.toArray c.hn), (x, instObj 86 d), (d, cdict P c.k₁ c.k₂ c.k₃ c.limit c.used c.t₁ c.t₂ c.told), (cl, c.oLim), (cm, c.oLost)]

def JJ (P : Params) (x d b l cl cm : Addr) (bn : Nat) (i : Nat) (m : Str → Option Value) (nx : List (Addr × Obj)) : Prop :=
  ∃ c : St, nx = led P x d b l cl cm bn c ∧ (@Ne Nat c.H x ∧ @Ne Nat c.H d ∧ @Ne Nat c.H b ∧ @Ne Nat c.H l ∧ @Ne Nat c.H cl ∧ @Ne Nat c.H cm) ∧ IntsAre c.hvs c.hs ∧ c.hs.length ≤ i ∧ IntsAre c.vs c.ns ∧ c.ns.length ≤ 40 ∧
    c.oLim.data = .cell (some (.int c.limit c.tl)) ∧ c.oLost.data = .cell c.vLost ∧
    m "credit" = some (.ref x) ∧ m "used" = some (.int c.used c.tu) ∧ m "told_here" = some (.ref c.H) ∧ m "box" = some (.ref b) ∧ LInv c.limit c.used c.told c.hs

section
variable {h₀ : Heap} {L x d b l cl cm H I : Addr} {h' : Heap} {m' : Str → Option Value} {news' : List (Addr × Obj)} {P : Params} {k₁ k₂ k₃ t₁ t₂ tu tl ts : Tok} {limit used seed : Int} {told : Value} {hvs vs : List Value} {hs ns : List Int} {hn c bn i tk : Nat}
  {oLim oLost oI : Obj} {vLost : Option Value} {s₁ : Shared}

theorem turnEnd (F : Fr h₀ L h' m') (N : News h₀ L h' news') (hc : m' "credit" = some (.ref x)) (hu : m' "used" = some (.int used tu)) (ht : m' "told_here" = some (.ref H)) (hb : m' "box" = some (.ref b))
    (nI : (I, oI) ∈ news') (nH : (H, listOf hvs.toArray hn) ∈ news') (nx : (x, instObj 86 d) ∈ news') (nd : (d, cdict P k₁ k₂ k₃ limit used t₁ t₂ told) ∈ news') (nb : (b, listOf #[.ref l, .int seed ts] bn) ∈ news') (nl : (l, listOf vs.toArray c) ∈ news') (nlim : (cl, oLim) ∈ news') (nlost : (cm, oLost) ∈ news')
    (hlim : oLim.data = .cell (some (.int limit tl))) (hlost : oLost.data = .cell vLost)
    (aI : @Ne Nat x I ∧ @Ne Nat d I ∧ @Ne Nat b I ∧ @Ne Nat l I ∧ @Ne Nat cl I ∧ @Ne Nat cm I) (aH : @Ne Nat H I ∧ @Ne Nat H x ∧ @Ne Nat H d ∧ @Ne Nat H b ∧ @Ne Nat H l ∧ @Ne Nat H cl ∧ @Ne Nat H cm)
    (hI : IntsAre vs ns) (hlen : ns.length ≤ 40) (hH : IntsAre hvs hs) (hlen2 : hs.length ≤ i + 1) (inv : LInv limit used told hs) :
    TurnEndJ h₀ L (JJ P x d b l cl cm bn (i + 1)) I oI s₁ { s₁ with heap := h', toks := tk } := by
  refine ⟨h', tk, m', _, rfl, F, fun p hp => ?_, ?_, ⟨⟨H, hn, hvs, hs, vs, ns, c, seed, ts, limit, used, t₁, t₂, k₁, k₂, k₃, tu, tl, told, oLim, oLost, vLost⟩, rfl, aH.2, hH, hlen2, hI, hlen, hlim, hlost, hc, hu, ht, hb, inv⟩⟩
  · rcases List.mem_cons.mp hp with rfl | hp
    · exact N _ nI
    simp only [led, List.mem_cons, List.not_mem_nil, or_false] at hp
    rcases hp with rfl | rfl | rfl | rfl | rfl | rfl | rfl
    · exact N _ nb
    · exact N _ nl
    · exact N _ nH
    · exact N _ nx
    · exact N _ nd
    · exact N _ nlim
    · exact N _ nlost
  · intro p hp
    simp only [led, List.mem_cons, List.not_mem_nil, or_false] at hp
    rcases hp with rfl | rfl | rfl | rfl | rfl | rfl | rfl
    · exact aI.2.2.1
    · exact aI.2.2.2.1
    · exact aH.1
    · exact aI.1
    · exact aI.2.1
    · exact aI.2.2.2.2.1
    · exact aI.2.2.2.2.2
end

section
variable {prog : Program} {w : World} {A : Around} {E : Value → Shared → Prop} {s : Shared} {env : Env} {h₀ : Heap} {y₀ : Str} {body : List Stmt} {Q : Flow → Shared → Prop}
variable {P : Params} {x d b l cl cm H₀ : Addr} {bn hn₀ c₀ : Nat} {k₁ k₂ k₃ t₁ t₂ tu tl ts : Tok} {limit₀ seed₀ : Int} {vs₀ : List Value} {ns₀ : List Int} {oLim₀ oLost₀ : Obj} {vLost₀ : Option Value}

/-- the law's loop over its invariant -/
theorem loopLaw {r : Addr} {b₀ : Int} {t₀ u₀ v₀ : Tok} {n : Nat} {m₀ : Str → Option Value} {news : List (Addr × Obj)}
    (hh : A.handled = none) (hr : IsRange s.heap r 0 b₀ 1 t₀ u₀ v₀) (hb : b₀ = (n : Int)) (hsm : n ≤ 50) (F : Fr h₀ env.locals s.heap m₀) (N : News h₀ env.locals s.heap news)
    (nb : (b, listOf #[.ref l, .int seed₀ ts] bn) ∈ news) (nl : (l, listOf vs₀.toArray c₀) ∈ news) (nH : (H₀, listOf #[] hn₀) ∈ news) (nx : (x, instObj 86 d) ∈ news) (nd : (d, cdict P k₁ k₂ k₃ limit₀ 0 t₁ t₂ .none) ∈ news) (nlim : (cl, oLim₀) ∈ news) (nlost : (cm, oLost₀) ∈ news)
    (hlim : oLim₀.data = .cell (some (.int limit₀ tl))) (hlost : oLost₀.data = .cell vLost₀) (aH : @Ne Nat H₀ x ∧ @Ne Nat H₀ d ∧ @Ne Nat H₀ b ∧ @Ne Nat H₀ l ∧ @Ne Nat H₀ cl ∧ @Ne Nat H₀ cm) (hI : IntsAre vs₀ ns₀) (hlen : ns₀.length ≤ 40) (hl0 : 0 ≤ limit₀)
    (hc : m₀ "credit" = some (.ref x)) (hu : m₀ "used" = some (.int 0 tu)) (ht : m₀ "told_here" = some (.ref H₀)) (hbx : m₀ "box" = some (.ref b)) (hy : y₀ = "turn")
    (turn : ∀ (H : Addr) (hn : Nat) (hvs : List Value) (hs : List Int) (vs : List Value) (ns : List Int) (c : Nat) (seed : Int) (ts : Tok) (limit used : Int) (t₁ t₂ k₁ k₂ k₃ tu tl : Tok) (told : Value) (oLim oLost : Obj) (vLost : Option Value) (i : Nat) (t : Tok) (u : Str → Option Value) (h : Heap) (tk : Nat) (I : Addr) (oI : Obj),
      i < 50 → (@Ne Nat H x ∧ @Ne Nat H d ∧ @Ne Nat H b ∧ @Ne Nat H l ∧ @Ne Nat H cl ∧ @Ne Nat H cm) → (@Ne Nat b I ∧ @Ne Nat l I ∧ @Ne Nat H I ∧ @Ne Nat x I ∧ @Ne Nat d I ∧ @Ne Nat cl I ∧ @Ne Nat cm I) → IntsAre hvs hs → hs.length ≤ i → IntsAre vs ns → ns.length ≤ 40 →
      oLim.data = .cell (some (.int limit tl)) → oLost.data = .cell vLost → LInv limit used told hs →
      Fr h₀ env.locals h (fun y => if y = y₀ then some (.int (0 + (i : Int)) t) else if y = "credit" then some (.ref x) else if y = "used" then some (.int used tu) else if y = "told_here" then some (.ref H) else if y = "box" then some (.ref b) else u y) →
      News h₀ env.locals h [(b, listOf #[.ref l, .int seed ts] bn), (l, listOf vs.toArray c), (H, listOf hvs.toArray hn), (x, instObj 86 d), (d, cdict P k₁ k₂ k₃ limit used t₁ t₂ told), (cl, oLim), (cm, oLost), (I, oI)] →
      wpAny (model prog w) A (execs body env) (TurnQ h₀ env.locals (JJ P x d b l cl cm bn (i + 1)) I oI { s with heap := h, toks := tk } Q) E { s with heap := h, toks := tk })
    (done : ∀ m h tk, Fr h₀ env.locals h m → Q .next { s with heap := h, toks := tk }) :
    wpAny (model prog w) A (pyIter (.ref r)) (fun it s₂ => LoopAtV prog w A h₀ env y₀ body Q E it s₂) E s := by
  subst hb hy
  have hsm' : Builtin.Range.small 0 (n : Int) 1 = true := small_one (by omega) (by omega) (by omega) (by omega)
  refine rangeJ (n := n) (JJ P x d b l cl cm bn) hh hr hsm' (by simpa using rangeSize_nat 0 n) F (news := led P x d b l cl cm bn ⟨H₀, hn₀, [], [], vs₀, ns₀, c₀, seed₀, ts, limit₀, 0, t₁, t₂, k₁, k₂, k₃, tu, tl, .none, oLim₀, oLost₀, vLost₀⟩) (fun p hp => ?_)
    ⟨_, rfl, aH, .nil, Nat.le_refl _, hI, hlen, hlim, hlost, hc, hu, ht, hbx, hl0, fun _ hy => (nomatch hy), .inl ⟨rfl, fun hy => (nomatch hy)⟩⟩ ?_ fun m₁ nx h tk _ F₁ _ => done m₁ h tk F₁
  · simp only [led, List.mem_cons, List.not_mem_nil, or_false] at hp
    rcases hp with rfl | rfl | rfl | rfl | rfl | rfl | rfl
    · exact N _ nb
    · exact N _ nl
    · exact N _ nH
    · exact N _ nx
    · exact N _ nd
    · exact N _ nlim
    · exact N _ nlost
  · rintro i t m₁ nx h tk I oI hi ⟨c, rfl, a1, a2, a3, a4, a5, a6, a7, e1, e2, e3, e4, inv⟩ hne F₁ N₁
    have em : m₁ = fun y : Str => if y = "credit" then some (.ref x) else if y = "used" then some (.int c.used c.tu) else if y = "told_here" then some (.ref c.H) else if y = "box" then some (.ref b) else m₁ y := by
      funext y
      by_cases h1 : y = "credit"
      · rw [if_pos h1, h1, e1]
      rw [if_neg h1]
      by_cases h2 : y = "used"
      · rw [if_pos h2, h2, e2]
      rw [if_neg h2]
      by_cases h3 : y = "told_here"
      · rw [if_pos h3, h3, e3]
      rw [if_neg h3]
      by_cases h4 : y = "box"
      · rw [if_pos h4, h4, e4]
      rw [if_neg h4]
    have F₂ : Fr h₀ env.locals h (fun y : Str => if y = "turn" then some (.int (0 + (i : Int)) t) else if y = "credit" then some (.ref x) else if y = "used" then some (.int c.used c.tu) else if y = "told_here" then some (.ref c.H) else if y = "box" then some (.ref b) else m₁ y) := by
      have z := F₁
      rw [em] at z
      exact z
    have q : ∀ a o, (a, o) ∈ led P x d b l cl cm bn c → @Ne Nat a I := fun a o hm => hne (a, o) hm
    refine turn c.H c.hn c.hvs c.hs c.vs c.ns c.c c.seed c.ts c.limit c.used c.t₁ c.t₂ c.k₁ c.k₂ c.k₃ c.tu c.tl c.told c.oLim c.oLost c.vLost i t m₁ h tk I oI (by omega) a1
      ⟨q _ _ (.head _), q _ _ (.tail _ (.head _)), q _ _ (.tail _ (.tail _ (.head _))), q _ _ (.tail _ (.tail _ (.tail _ (.head _)))), q _ _ (.tail _ (.tail _ (.tail _ (.tail _ (.head _))))), q _ _ (.tail _ (.tail _ (.tail _ (.tail _ (.tail _ (.head _)))))), q _ _ (.tail _ (.tail _ (.tail _ (.tail _ (.tail _ (.tail _ (.head _))))))) ⟩
      a2 a3 a4 a5 a6 a7 inv F₂ fun p hp => ?_
    simp only [List.mem_cons, List.not_mem_nil, or_false] at hp
    refine N₁ p (List.mem_cons.mpr ?_)
    simp only [led, List.mem_cons, List.not_mem_nil, or_false]
    rcases hp with h | h | h | h | h | h | h | h <;> simp only [h, true_or, or_true]
end
end Mine
end LoopPart
section SpPart
open PySem PySem.W PySem.Calls PyProof.Rows PyProof.V
set_option maxRecDepth 100000
namespace Mine
theorem off_nil {bs : List Addr} : OwnOff [] bs := fun _ h => nomatch h
theorem off_cons {a p q : Addr} {o : Obj} {r : List (Addr × Obj)} (h1 : @Ne Nat a p) (h2 : @Ne Nat a q) (h : OwnOff r [p, q]) : OwnOff ((a, o) :: r) [p, q] := fun y hy b hb => by
  rcases List.mem_cons.mp hy with rfl | hy
  · rcases List.mem_cons.mp hb with rfl | hb
    · exact h1
    · rw [List.mem_singleton.mp hb]; exact h2
  · exact h y hy b hb

theorem spent_at {s₀ : Shared} {w : World} {mg mb : Str → Option Value} {dp un : Nat} {gd : Option (List Code)} {cn : Str} {cs : Scope} {a : Addr} {ccd : Value} {cl : List (Str × Addr)} {A₀ : Around}
    {base h₀ : Heap} {L : Addr} {m : Str → Option Value} {s : Shared} {Q E : Value → Shared → Prop} {x d : Addr} {limit used many : Int} {k₁ k₂ k₃ t₁ t₂ u : Tok} {told : Value} {p₁ p₂ p₃ : Addr × Obj} {rest : List (Addr × Obj)}
    (B : Below A₀ base [] h₀) (F : Fr h₀ L s.heap m) (X : (Mine.hd.heap_39 w.params).In h₀)
    (N : News h₀ L s.heap (p₁ :: p₂ :: p₃ :: (x, instObj 86 d) :: (d, cdict w.params k₁ k₂ k₃ limit used t₁ t₂ told) :: rest))
    (T : Top Mine.hd.view_39 (looseW Mine.hd.view_39 []) (ExcName.means s₀.heap) mg mb h₀) (XB : (Mine.hd.heap_39 w.params).In base) (TB : Top Mine.hd.view_39 (looseW Mine.hd.view_39 []) (ExcName.means s₀.heap) mg mb base)
    (hk : cs.kind = .function) (hxd : @Ne Nat x d) (hoff : OwnOff (p₁ :: p₂ :: p₃ :: rest) [x, d]) (hd : dp + 3 < recursionLimit)
    (yes : used + many ≤ limit → ∀ t' h' tk', Fr h₀ L h' m → News h₀ L h' (p₁ :: p₂ :: p₃ :: (x, instObj 86 d) :: (d, cdict w.params k₁ k₂ k₃ limit (used + many) t₁ t' told) :: rest) → Q (.bool true) { s with heap := h', toks := tk' })
    (no : ¬ used + many ≤ limit → ∀ h' tk', Fr h₀ L h' m → News h₀ L h' (p₁ :: p₂ :: p₃ :: (x, instObj 86 d) :: (d, cdict w.params k₁ k₂ k₃ limit used t₁ t₂ told) :: rest) → Q (.bool false) { s with heap := h', toks := tk' }) :
    wpAny (model PySem.Challenge.rw_no0044_01.row.prog w) (ktrTop dp un gd cn cs L a ccd cl []) (call (.ref 111) [.ref x, .int many u]) Q E s := by
  have turn : ∀ {h : Heap} {o : Obj}, News h₀ L h ((x, instObj 86 d) :: (d, o) :: p₁ :: p₂ :: p₃ :: rest) → News h₀ L h (p₁ :: p₂ :: p₃ :: (x, instObj 86 d) :: (d, o) :: rest) := fun {h o} z p hp => by
    refine z p ?_
    simp only [List.mem_cons] at hp ⊢
    rcases hp with h | h | h | h | h | h <;> simp only [h, true_or, or_true]
  have N' : News h₀ L s.heap ((x, instObj 86 d) :: (d, cdict w.params k₁ k₂ k₃ limit used t₁ t₂ told) :: p₁ :: p₂ :: p₃ :: rest) := fun p hp => by
    refine N p ?_
    simp only [List.mem_cons] at hp ⊢
    rcases hp with h | h | h | h | h | h <;> simp only [h, true_or, or_true]
  by_cases hle : used + many ≤ limit
  · exact spent_yes B F X N' T hk hxd hoff hle hd fun t' h' tk' F' N₁ => yes hle t' h' tk' F' (turn N₁)
  · exact spent_no B F X N' T XB TB hk hxd hoff hle hd fun h' tk' F' N₁ => no hle h' tk' F' (turn N₁)
end Mine
end SpPart
section CompPart
open PySem PySem.W PySem.Calls PyProof.Rows PyProof.V
set_option maxRecDepth 100000
namespace Mine
def lawDef : Option Stmt := PySem.Challenge.rw_no0044_01.prog.main.body.getLast?
def lawScope : Scope := match lawDef with
  | some (.FunctionDef _ _ _ _ _ _ sc _ _ _) => sc
  | _ => { kind := .function, names := [], isGenerator := false, isCoroutine := false }
def lawBody : List Stmt := match lawDef with
  | some (.FunctionDef _ _ b _ _ _ _ _ _ _) => b
  | _ => []
def turnBody : List Stmt := match (lawBody[3]? : Option Stmt) with
  | some (PySem.Stmt.For _ _ b _ _) => b
  | _ => []
def elseOf (l : List Stmt) : List Stmt := match l with
  | [PySem.Stmt.If _ _ e _] => e
  | _ => []
def compStmts : List Stmt := (elseOf (elseOf (elseOf ((turnBody.drop 1).take 1)))).drop 2
def rawStmts : List Stmt := elseOf (elseOf (elseOf ((turnBody.drop 1).take 1)))
set_option maxHeartbeats 1000000 in
theorem comp_ok {prog : Program} {w : World} {base : Heap} {L fa : Addr} {cd : Value} {s : Shared} {Q : Flow → Shared → Prop} {E : Value → Shared → Prop} {H : Addr} {hn : Nat} {hvs : List Value} {hs : List Int} {m : Str → Option Value} {news : List (Addr × Obj)}
    {limit lost : Int} {tl tlo : Tok} {oLim oLost : Obj}
    (F : Fr base L s.heap m) (N : News base L s.heap news) (hm : m "told_here" = some (.ref H)) (nH : (H, listOf hvs.toArray hn) ∈ news) (nl : (L + 1, oLim) ∈ news) (nlo : (L + 1 + 1, oLost) ∈ news)
    (hlim : oLim.data = .cell (some (.int limit tl))) (hlost : oLost.data = .cell (some (.int lost tlo))) (hI : IntsAre hvs hs) (hsz : hs.length ≤ 50)
    (hQ : ∀ D ys h' tk n, Fr base L h' (fun z => if z = "told_here" then some (.ref D) else m z) → News base L h' ((D, listOf ys.toArray n) :: news) → (∀ p ∈ news, p.1 ≠ D) → IntsAre ys (hs.filter fun a => decide (a ≠ limit) || decide (lost ≠ limit)) → wpAny (model prog w) (callerA.deeper (envOfC (Str.ofString "law") lawScope L fa cd)) (execs [] (envOfC (Str.ofString "law") lawScope L fa cd)) Q E { s with heap := h', toks := tk }) :
    wpAny (model prog w) (callerA.deeper (envOfC (Str.ofString "law") lawScope L fa cd)) (execs compStmts (envOfC (Str.ofString "law") lawScope L fa cd)) Q E s := by
  conv in compStmts => whnf
  conv in (occs := *) lawScope => all_goals whnf
  walk1
  (with_reducible apply Assign_ListComp_DCn (h₀ := base) (m := m) (K := .int) (pz := fun a => decide (a ≠ limit) || decide (lost ≠ limit)) (d := fun a => PyData.int a)); (case hsw => with_unfolding_all rfl); (case hL => with_unfolding_all rfl); (case hh => with_unfolding_all rfl); (case hclos => with_unfolding_all rfl); (case hcell => decide); (case hkind => with_unfolding_all rfl); (case hnames => decide); (case hx => with_unfolding_all rfl); (case hy => with_unfolding_all rfl); (case hp => with_unfolding_all rfl); (case hs => intro _; with_unfolding_all rfl)
  refine wpAny_Name (wpAny_loadName_local rfl rfl F.ns hm ?_) (by decide)
  refine ⟨news, H, hvs, hs, rfl, News.isList N nH, IntsAre.areOf hI, by (have : (50:Nat) ≤ sizeLine := by decide); omega, F, N, ?_, ?_, ?_⟩
  · intro C a v s₂ m₂ E' hC ha hv hns hone hk
    obtain ⟨tv, rfl⟩ := ItemKind.int_is hv
    refine wpAny_tests_one ?_
    have cl : s₂.heap.IsCell (L + 1) (some (.int limit tl)) := News.cellK N nl hlim hk
    have clo : s₂.heap.IsCell (L + 1 + 1) (some (.int lost tlo)) := News.cellK N nlo hlost hk
    clear hQ N F hk
    walk1; walk1
    refine ldVarK hns hone ?_
    refine ldCellK rfl cl ?_
    iterate 3 (walk1)
    · walk1
      · simp_all
      · exact ⟨_, _, rfl, fun _ _ e => e⟩
    · walk1; walk1
      refine ldCellK rfl clo ?_
      refine ldCellK rfl cl ?_
      iterate 2 (walk1)
      walk1
      · refine ⟨?_, _, _, rfl, fun _ _ e => e⟩
        simp_all
      · walk1
        refine ⟨?_, _, _, rfl, fun _ _ e => e⟩
        simp_all
  · intro C a v s₂ m₂ E' hC ha hv hp hns hone hk
    obtain ⟨tv, rfl⟩ := ItemKind.int_is hv
    exact ldVarK hns hone ⟨.int _ _, _, _, rfl, fun _ _ e => e⟩
  · intro D ys h' tk F' N' hD hl hnp hc
    obtain ⟨n, N₁⟩ := made_enters hnp F' N' hD
    exact hQ D ys h' tk n F' N₁ hnp.2 (IntsAre.ofCarried hc)
end Mine
end CompPart
section TurnPart
local macro_rules | `(tactic| walk_at "mine_pad_0") => `(tactic| skip)
local macro_rules | `(tactic| walk_at "mine_pad_1") => `(tactic| skip)
local macro_rules | `(tactic| walk_at "mine_pad_2") => `(tactic| skip)
local macro_rules | `(tactic| walk_at "mine_pad_3") => `(tactic| skip)
local macro_rules | `(tactic| walk_at "mine_pad_4") => `(tactic| skip)
local macro_rules | `(tactic| walk_at "mine_pad_5") => `(tactic| skip)
local macro_rules | `(tactic| walk_at "mine_pad_6") => `(tactic| skip)
open PySem PySem.W PySem.Calls PyProof.Rows PyProof.V
set_option maxRecDepth 100000
namespace Mine
theorem bad0 {α : Type} {a : α} (h : a ≠ a) : False := h rfl
theorem bad1 {P : Prop} [Decidable P] (a : (false != decide P) = true) (h : ¬ P) : False := by simp [h] at a
theorem bad2 {P : Prop} [Decidable P] (a : (true != decide P) = true) (h : P) : False := by simp [h] at a
theorem bad3 {r limit : Int} (a : (false != decide (limit < r)) = true) (h : r ≤ limit) : False := bad1 a (by omega)
theorem bad4 {r limit : Int} (a : (true != decide (limit < r)) = true) (h : ¬ r ≤ limit) : False := bad2 a (by omega)
theorem bad5 {r limit u : Int} (a : limit - u ≠ (if r > limit then r else limit) - u) (h : r ≤ limit) : False := by rw [if_neg (by omega)] at a; exact a rfl
theorem bad6 {r limit : Int} (a : limit ≠ (if r > limit then r else limit)) (h : r ≤ limit) : False := by rw [if_neg (by omega)] at a; exact a rfl
theorem bad7 {r limit u : Int} (a : r - u ≠ (if r > limit then r else limit) - u) (h : ¬ r ≤ limit) : False := by rw [if_pos (by omega)] at a; exact a rfl
theorem bad8 {r limit : Int} (a : r ≠ (if r > limit then r else limit)) (h : ¬ r ≤ limit) : False := by rw [if_pos (by omega)] at a; exact a rfl
theorem cellEq {o : Obj} {v limit : Int} {t : Tok} (h : o.data = .cell (some (.int v t))) (e : limit = v) : o.data = .cell (some (.int limit t)) := by rw [h, e]
theorem inv_spend {limit used r : Int} {told : Value} {hs : List Int} (h : LInv limit used told hs) (hr : used + r ≤ limit) : LInv limit (used + r) told hs := ⟨hr, h.2⟩
theorem inv_raise {limit used r : Int} {told : Value} {hs : List Int} (h : LInv limit used told hs) (hr : ¬ r ≤ limit) : LInv r used told hs := by
  obtain ⟨i1, i2, i3⟩ := h
  have hn : r ∉ hs := fun hm => hr (i2 r hm)
  refine ⟨by omega, fun y hy => by have := i2 y hy; omega, ?_⟩
  obtain ⟨e, _⟩ | ⟨k, t, e, n2, _⟩ := i3
  · exact .inl ⟨e, hn⟩
  · exact .inr ⟨k, t, e, by omega, ⟨fun hk => absurd n2 (by omega), fun hm => absurd hm hn⟩⟩
theorem any_mem {l : Int} {hs : List Int} (h : (hs.any fun x => x == l) = true) : l ∈ hs := by
  obtain ⟨x, hx, e⟩ := List.any_eq_true.mp h
  exact (by simpa using e : x = l) ▸ hx
theorem not_any {l : Int} {hs : List Int} (h : (hs.any fun x => x == l) = false) : l ∉ hs := fun hm => by
  have : (hs.any fun x => x == l) = true := List.any_eq_true.mpr ⟨l, hm, by simp⟩
  rw [h] at this
  cases this
theorem bad9 {l : Int} {hs : List Int} (h : (hs.any fun x => x == l) = true) (n : ¬ l ∈ hs) : False := n (any_mem h)
theorem bad10 {l k : Int} {hs : List Int} (h : (hs.any fun x => x == l) = true) (n : k = l ↔ l ∈ hs) (e : k ≠ l) : False := e (n.mpr (any_mem h))
theorem bad11 {l k : Int} {hs : List Int} (h : (hs.any fun x => x == l) = false) (n : k = l ↔ l ∈ hs) (e : k = l) : False := not_any h (n.mp e)
theorem inv_told {limit used : Int} {told : Value} {hs : List Int} {t : Tok} (h : LInv limit used told hs) : LInv limit used (.int limit t) (hs ++ [limit]) := by
  refine ⟨h.1, fun y hy => ?_, .inr ⟨limit, t, rfl, by omega, ⟨fun _ => by simp, fun _ => rfl⟩⟩⟩
  rcases List.mem_append.mp hy with hy | hy
  · exact h.2.1 y hy
  · rw [List.mem_singleton.mp hy]; omega
theorem inv_lost0 {limit used q : Int} {hs : List Int} (h : LInv limit used .none hs) : LInv limit used .none (hs.filter fun a => decide (a ≠ limit) || decide (q ≠ limit)) := by
  obtain ⟨i1, i2, ⟨_, n⟩ | ⟨k, t, e, _⟩⟩ := h
  · exact ⟨i1, fun y hy => i2 y (List.mem_filter.mp hy).1, .inl ⟨rfl, fun hm => n (List.mem_filter.mp hm).1⟩⟩
  · cases e
theorem inv_lost1 {limit used q k : Int} {t : Tok} {hs : List Int} (h : LInv limit used (.int k t) hs) (e : k = q) : LInv limit used .none (hs.filter fun a => decide (a ≠ limit) || decide (q ≠ limit)) := by
  obtain ⟨i1, i2, ⟨e', _⟩ | ⟨k', t', e', _, n⟩⟩ := h
  · cases e'
  · cases e'
    refine ⟨i1, fun y hy => i2 y (List.mem_filter.mp hy).1, .inl ⟨rfl, fun hm => ?_⟩⟩
    obtain ⟨h1, h2⟩ := List.mem_filter.mp hm
    have h3 := n.mpr h1
    simp at h2
    omega
theorem inv_lost2 {limit used q k : Int} {t : Tok} {hs : List Int} (h : LInv limit used (.int k t) hs) (e : k ≠ q) : LInv limit used (.int k t) (hs.filter fun a => decide (a ≠ limit) || decide (q ≠ limit)) := by
  obtain ⟨i1, i2, ⟨e', _⟩ | ⟨k', t', e', hk, n⟩⟩ := h
  · cases e'
  · cases e'
    refine ⟨i1, fun y hy => i2 y (List.mem_filter.mp hy).1, .inr ⟨_, _, rfl, hk, ⟨fun hk => ?_, fun hm => n.mpr (List.mem_filter.mp hm).1⟩⟩⟩
    refine List.mem_filter.mpr ⟨n.mp hk, ?_⟩
    simp
    omega
theorem offs8 {a₁ a₂ a₃ a₄ a₅ a₆ a₇ a₈ D : Addr} {o₁ o₂ o₃ o₄ o₅ o₆ o₇ o₈ : Obj} (h : ∀ p ∈ [(a₁, o₁), (a₂, o₂), (a₃, o₃), (a₄, o₄), (a₅, o₅), (a₆, o₆), (a₇, o₇), (a₈, o₈)], p.1 ≠ D) :
    @Ne Nat a₁ D ∧ @Ne Nat a₂ D ∧ @Ne Nat a₃ D ∧ @Ne Nat a₄ D ∧ @Ne Nat a₅ D ∧ @Ne Nat a₆ D ∧ @Ne Nat a₇ D ∧ @Ne Nat a₈ D :=
  ⟨h _ (.head _), h _ (.tail _ (.head _)), h _ (.tail _ (.tail _ (.head _))), h _ (.tail _ (.tail _ (.tail _ (.head _)))), h _ (.tail _ (.tail _ (.tail _ (.tail _ (.head _))))), h _ (.tail _ (.tail _ (.tail _ (.tail _ (.tail _ (.head _)))))), h _ (.tail _ (.tail _ (.tail _ (.tail _ (.tail _ (.tail _ (.head _))))))), h _ (.tail _ (.tail _ (.tail _ (.tail _ (.tail _ (.tail _ (.tail _ (.head _)))))))) ⟩
end Mine
local macro_rules | `(tactic| k_all) => `(tactic| (first | exact Mine.off_nil | (refine Mine.off_cons ?oa ?ob ?oc; (case oa => k_ne); (case ob => k_ne); (case oc => k_all))))
local macro_rules | `(tactic| walk_at "call ref") => `(tactic| (k_here; (with_reducible show wpAny _ _ (call (Value.ref 104) [_, _]) _ _ _); k_dflt (refine' Mine.take_spec ?B ?F ?X ?N ?T ?hk ?bd ?off ?I ?len ?w ?d ?u ?_; (case B => k_asm); (case F => k_asm); (case X => k_asm); (case N => k_asm); (case T => k_asm); (case hk => exact rfl); (case bd => k_ne); (case off => k_all); (case I => assumption); (case len => first | assumption | exact List.length_take_le ..); (case w => decide); (case d => ktr_room); (case u => ktr_units); k_whole); intro r' tr' h' tk' vs' ns' c' seed' t' F' N' hI' hl' hr1 hr2; (try dsimp only); (try k_sweep)))
local macro_rules | `(tactic| walk_at "call ref") => `(tactic| (k_here; (with_reducible show wpAny _ _ (call (Value.ref 111) [_, _]) _ _ _); k_dflt (refine' Mine.spent_at ?B ?F ?X ?N ?T ?XB ?TB ?hk ?xd ?off ?d ?yes ?no; (case B => k_asm); (case F => k_asm); (case X => k_asm); (case N => k_asm); (case T => k_asm); (case XB => assumption); (case TB => assumption); (case hk => exact rfl); (case xd => k_ne); (case off => k_all); (case d => ktr_room)); (case' yes => (intro hle t' h' tk' F' N')); (case' no => (intro hle h' tk' F' N')); (all_goals (try dsimp only)); (all_goals (try k_sweep))))
local macro_rules | `(tactic| walk_at "TurnQ") => `(tactic| (dsimp only [Mine.TurnQ]))
local macro_rules | `(tactic| walk_at "TurnEndJ") => `(tactic| (k_dflt (refine' Mine.turnEnd ?F ?N ?hc ?hu ?ht ?hb ?nI ?nH ?nx ?nd ?nb ?nl ?nlim ?nlost ?hlim ?hlost ?aI ?aH ?hI ?hlen ?hH ?hlen2 ?inv; (case F => k_asm); (case N => k_asm); (case hc => rfl); (case hu => rfl); (case ht => rfl); (case hb => rfl); (case nI => k_mem); (case nH => k_mem); (case nx => k_mem); (case nd => k_mem); (case nb => k_mem); (case nl => k_mem); (case nlim => k_mem); (case nlost => k_mem); (case hlim => first | assumption | exact Mine.cellEq (by assumption) (by assumption)); (case hlost => assumption); (case aI => (refine ⟨?_, ?_, ?_, ?_, ?_, ?_⟩ <;> k_ne)); (case aH => (refine ⟨?_, ?_, ?_, ?_, ?_, ?_, ?_⟩ <;> k_ne)); (case hI => assumption); (case hlen => assumption); (case hH => assumption); (case hlen2 => first | omega | (simp only [List.length_append, List.length_cons, List.length_nil]; omega) | exact Nat.le_succ_of_le (Nat.le_trans (List.length_filter_le _ _) (by assumption)))); (case' inv => skip)))
local macro_rules | `(tactic| walk_at "execs cons") => `(tactic| (k_here; (with_reducible show wpAny _ _ (execs [Stmt.Assign _ (Expr.ListComp _ _ _ _) _] _) _ _ _); k_dflt (refine' Mine.comp_ok ?F ?N ?hm ?nH ?nl ?nlo ?hlim ?hlost ?hI ?hsz ?_; (case F => k_asm); (case N => k_asm); (case hm => rfl); (case nH => k_mem); (case nl => k_mem); (case nlo => k_mem); (case hlim => assumption); (case hlost => assumption); (case hI => assumption); (case hsz => omega)); intro D' ys' h' tk' n' F' N' hD' hYs'; (have hDs' := Mine.offs8 hD'); obtain ⟨hd1, hd2, hd3, hd4, hd5, hd6, hd7, hd8⟩ := hDs'))
namespace Mine
set_option maxHeartbeats 8000000 in
theorem turn_ok {s₀ : Shared} {w : World} {mg mb : Str → Option Value} {base h : Heap} {L fa : Addr} {cd : Value} {s : Shared} {Q : Flow → Shared → Prop} {E : Value → Shared → Prop} {x d b l H I : Addr} {bn hn c i tk : Nat} {hvs vs : List Value} {hs ns : List Int}
    {seed limit used : Int} {ts t₁ t₂ k₁ k₂ k₃ tu tl t : Tok} {told : Value} {oLim oLost oI : Obj} {vLost : Option Value} {u : Str → Option Value}
    (X : (Mine.hd.heap_39 w.params).In base) (T : Top Mine.hd.view_39 (looseW Mine.hd.view_39 []) (ExcName.means s₀.heap) mg mb base) (B : Below callerA base [] base)
    (hi : i < 50) (aH : @Ne Nat H x ∧ @Ne Nat H d ∧ @Ne Nat H b ∧ @Ne Nat H l ∧ @Ne Nat H (L + 1) ∧ @Ne Nat H (L + 1 + 1)) (aI : @Ne Nat b I ∧ @Ne Nat l I ∧ @Ne Nat H I ∧ @Ne Nat x I ∧ @Ne Nat d I ∧ @Ne Nat (L + 1) I ∧ @Ne Nat (L + 1 + 1) I)
    (aA : @Ne Nat b l ∧ @Ne Nat b x ∧ @Ne Nat b d ∧ @Ne Nat b (L + 1) ∧ @Ne Nat b (L + 1 + 1) ∧ @Ne Nat l x ∧ @Ne Nat l d ∧ @Ne Nat l (L + 1) ∧ @Ne Nat l (L + 1 + 1) ∧ @Ne Nat x d ∧ @Ne Nat x (L + 1) ∧ @Ne Nat x (L + 1 + 1) ∧ @Ne Nat d (L + 1) ∧ @Ne Nat d (L + 1 + 1))
    (hH : IntsAre hvs hs) (hlen : hs.length ≤ i) (hV : IntsAre vs ns) (hlenV : ns.length ≤ 40) (hlim : oLim.data = .cell (some (.int limit tl))) (hlost : oLost.data = .cell vLost) (inv : LInv limit used told hs)
    (FT : Fr base L h (fun y : Str => if y = "turn" then some (.int (0 + (i : Int)) t) else if y = "credit" then some (.ref x) else if y = "used" then some (.int used tu) else if y = "told_here" then some (.ref H) else if y = "box" then some (.ref b) else u y))
    (NT : News base L h [(b, listOf #[.ref l, .int seed ts] bn), (l, listOf vs.toArray c), (H, listOf hvs.toArray hn), (x, instObj 86 d), (d, cdict w.params k₁ k₂ k₃ limit used t₁ t₂ told), (L + 1, oLim), (L + 1 + 1, oLost), (I, oI)]) :
    wpAny (model PySem.Challenge.rw_no0044_01.row.prog w) (callerA.deeper (envOfC (Str.ofString "law") lawScope L fa cd)) (execs turnBody (envOfC (Str.ofString "law") lawScope L fa cd))
      (TurnQ base L (JJ w.params x d b l (L + 1) (L + 1 + 1) bn (i + 1)) I oI { s with heap := h, toks := tk } Q) E { s with heap := h, toks := tk } := by
  revert X; k_fill; intro X
  conv in turnBody => whnf
  conv in (occs := *) lawScope => all_goals whnf
  obtain ⟨a1, a2, a3, a4, a5, a6⟩ := aH
  obtain ⟨c1, c2, c3, c4, c5, c6, c7⟩ := aI
  obtain ⟨b1, b2, b3, b4, b5, b6, b7, b8, b9, b10, b11, b12, b13, b14⟩ := aA
  have i1 := inv.1
  iterate 40 (all_goals (try first | (k_unfold; (try dsimp only)) | walk1 | (dsimp only; walk1)))
  all_goals first | (rename _ = (0:Int) => hz) | (rename _ = (1:Int) => hz) | (have inv' := inv; obtain ⟨j1, j2, j3⟩ := inv'; obtain ⟨rfl, n1⟩ | ⟨kt, tt, rfl, n2, n3⟩ := j3)
  all_goals (repeat' (first | (k_unfold; (try dsimp only)) | walk1 | (dsimp only; walk1)))
  all_goals try (walk_at "TurnEndJ")
  all_goals try (exact inv)
  all_goals try (with_reducible exact Mine.inv_spend inv (by assumption))
  all_goals try (with_reducible exact Mine.inv_raise inv (by assumption))
  all_goals try (with_reducible exact Mine.inv_told inv)
  all_goals try (with_reducible exact Mine.inv_lost0 inv)
  all_goals try (with_reducible exact Mine.inv_lost1 inv (by assumption))
  all_goals try (with_reducible exact Mine.inv_lost2 inv (by assumption))
  all_goals ((exfalso; first | exact Mine.bad0 (by assumption) | exact Mine.bad1 (by assumption) (by assumption) | exact Mine.bad2 (by assumption) (by assumption) | exact Mine.bad3 (by assumption) (by assumption) | exact Mine.bad4 (by assumption) (by assumption) | exact Mine.bad5 (by assumption) (by assumption) | exact Mine.bad6 (by assumption) (by assumption) | exact Mine.bad7 (by assumption) (by assumption) | exact Mine.bad8 (by assumption) (by assumption) | exact Mine.bad9 (by assumption) (by assumption) | exact Mine.bad10 (by assumption) (by assumption) (by assumption) | exact Mine.bad11 (by assumption) (by assumption) (by assumption)))
end Mine
end TurnPart
section MainPart
local macro_rules | `(tactic| walk_at "mine_pad_0") => `(tactic| skip)
local macro_rules | `(tactic| walk_at "mine_pad_1") => `(tactic| skip)
local macro_rules | `(tactic| walk_at "mine_pad_2") => `(tactic| skip)
local macro_rules | `(tactic| walk_at "mine_pad_3") => `(tactic| skip)
local macro_rules | `(tactic| walk_at "mine_pad_4") => `(tactic| skip)
local macro_rules | `(tactic| walk_at "mine_pad_5") => `(tactic| skip)
local macro_rules | `(tactic| walk_at "mine_pad_6") => `(tactic| skip)
local macro_rules | `(tactic| walk_at "mine_pad_7") => `(tactic| skip)
local macro_rules | `(tactic| walk_at "mine_pad_8") => `(tactic| skip)
local macro_rules | `(tactic| walk_at "mine_pad_9") => `(tactic| skip)
local macro_rules | `(tactic| walk_at "mine_pad_10") => `(tactic| skip)
open PySem PySem.W PySem.Calls PyProof.Rows PyProof.V
namespace Mine
theorem addNat (k : Nat) : (10 : Int) + (k : Int) = ((10 + k : Nat) : Int) := by omega
theorem len50 (l : List Int) : 10 + (l.take 40).length ≤ 50 := by have := List.length_take_le 40 l; omega
end Mine
local macro_rules | `(tactic| k_all) => `(tactic| (first | exact Mine.off_nil | (refine Mine.off_cons ?oa ?ob ?oc; (case oa => k_ne); (case ob => k_ne); (case oc => k_all))))
local macro_rules | `(tactic| walk_at "call ref") => `(tactic| (k_here; (with_reducible show wpAny _ _ (call (Value.ref 104) [_, _]) _ _ _); k_dflt (refine' Mine.take_spec ?B ?F ?X ?N ?T ?hk ?bd ?off ?I ?len ?w ?d ?u ?_; (case B => k_asm); (case F => k_asm); (case X => k_asm); (case N => k_asm); (case T => k_asm); (case hk => exact rfl); (case bd => k_ne); (case off => k_all); (case I => assumption); (case len => first | assumption | exact List.length_take_le ..); (case w => decide); (case d => ktr_room); (case u => ktr_units); k_whole); intro r' tr' h' tk' vs' ns' c' seed' t' F' N' hI' hl' hr1 hr2; (try dsimp only); (try k_sweep)))
local macro_rules | `(tactic| walk_at "call ref") => `(tactic| (k_here; (with_reducible show wpAny _ _ (call (Value.ref 111) [_, _]) _ _ _); k_dflt (refine' Mine.spent_at ?B ?F ?X ?N ?T ?XB ?TB ?hk ?xd ?off ?d ?yes ?no; (case B => k_asm); (case F => k_asm); (case X => k_asm); (case N => k_asm); (case T => k_asm); (case XB => assumption); (case TB => assumption); (case hk => exact rfl); (case xd => k_ne); (case off => k_all); (case d => ktr_room)); (case' yes => (intro hle t' h' tk' F' N')); (case' no => (intro hle h' tk' F' N')); (all_goals (try dsimp only)); (all_goals (try k_sweep))))
set_option maxRecDepth 100000 in
set_option maxHeartbeats 1500000 in
theorem PySem.Challenge.cw_no0044_01_holds : PySem.Challenge.rw_no0044_01.Holds := by
  refine Mine.hd ?_
  k_with "pyIter ref" => first
    | k_state (fun pre s => True) "seed_here"
    | ((rename Fr _ _ _ _ => lF'); (rename News _ _ _ _ => lN'); (rename IsRange _ _ _ _ _ _ _ _ => rgX); (rename Obj.data _ = Data.cell (bindC _ _ _ (PySem.Str.ofString "lost")) => hLostC); k_dflt (refine' Mine.loopLaw ?hh rgX ?hb ?hsm lF' lN' ?nb ?nl ?nH ?nx ?nd ?nlim ?nlost ?hlim ?hlost ?aH ?hI ?hlen ?hl0 ?hc ?hu ?ht ?hbx ?hy ?turn ?done; (case hh => rfl); (case hb => exact Mine.addNat _); (case hsm => exact Mine.len50 _); (case hc => rfl); (case hu => rfl); (case ht => rfl); (case hbx => rfl); (case nx => k_mem); (case nd => k_mem); (case nb => k_mem); (case nl => k_mem); (case nH => k_mem); (case hlost => exact hLostC); (case nlost => k_mem); (case hlim => assumption); (case nlim => k_mem); (case aH => (refine ⟨?_, ?_, ?_, ?_, ?_, ?_⟩ <;> k_ne)); (case hI => assumption); (case hlen => assumption); (case hl0 => assumption); (case hy => rfl)); (case' done => (clear lF' lN'; intro m h tk FT)); (case' turn => (clear lF' lN'; intro H hn hvs hs vs ns c seed ts limit used t1 t2 k1 k2 k3 tu tl told oLim oLost vLost i t u h tk I oI hi aH aI hH hlen hV hlenV hlim hlost inv FT NT; k_dflt (refine' Mine.turn_ok ?tX ?tT ?tB hi aH aI ?tA hH hlen hV hlenV hlim hlost inv FT NT; (case tX => k_asm); (case tT => k_asm); (case tB => k_asm); (case tA => (refine ⟨?_, ?_, ?_, ?_, ?_, ?_, ?_, ?_, ?_, ?_, ?_, ?_, ?_, ?_⟩ <;> k_ne))))))
  w_strict (k_go0; (all_goals try k_fold); k_steps)
end MainPart
