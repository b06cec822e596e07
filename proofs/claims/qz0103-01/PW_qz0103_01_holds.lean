import PyProof.Rows.All
import Wide.All
import OpenK.AllK
import Wide.FinOn
import Lean
import PySem.Challenge.RW_qz0103_01
open PySem PySem.W PyProof.Rows PySem.Calls
set_option Elab.async false
namespace Mine
-- KH
section
set_option maxRecDepth 100000
set_option maxHeartbeats 8000000
/-- hands on the hook that the head would look for -/
def pick {P : Prop} (h : Hook) (_ : (∀ H : Hook, H = h → P) → P) : Hook := h
local macro_rules | `(tactic| o_head $H) => `(tactic| (refine (by assumption : ∀ H : Hook, H = _ → _) ?H ?e; (case H => exact $H); (case e => exact rfl)))
noncomputable def written : Hook := pick (P := OpenRow.Holds (OpenLaw.row PySem.Challenge.rw_qz0103_01)) _ fun g => by k_head
end

-- Base
section
set_option maxRecDepth 100000
set_option maxHeartbeats 8000000

noncomputable abbrev PG : Program := Challenge.rw_qz0103_01.row.prog

theorem prime : (fun (_ : OpenLaw) (_ : Params → Frag) => True) PySem.Challenge.rw_qz0103_01 written.heap_1 := by
  k_fill
  trivial

/-- an end that the walk leaves closed -/
def Hold (P : Prop) : Prop := P
theorem Hold.mk {P : Prop} (h : P) : Hold P := h

abbrev Led := List (Addr × Obj)

/-- all else stands, and what is new was not there -/
def Left (H h' : Heap) (news news' : Led) : Prop := GSub H h' (news.map (·.1)) ∧ ∀ p ∈ news', p.1 ∈ news.map (·.1) ∨ H.get? p.1 = none
theorem left_of {H g h' : Heap} {news news' : Led} {L : Addr} {m : Str → Option Value} (G : GSub H g (news.map (·.1))) (F : Fr g L h' m) (N : News g L h' news') : Left H h' news news' :=
  ⟨fun b o e n => F.keep b o (G b o e n), fun p hp => by
    by_cases h : p.1 ∈ news.map (·.1)
    · exact .inl h
    · refine .inr ?_
      cases q : H.get? p.1 with
      | none => rfl
      | some o => exact absurd ((N p hp).2.2.symm.trans (G _ _ q h)) (fun z => nomatch z)⟩
/-- a call of f with vs from a ledger: what it hands back and leaves; all else stands -/
def Does (b : Nat) (w : World) (p : Program) (loose : List Str) (mean : ExcName → Option Value) (mg mb : Str → Option Value) (f : Addr) (vs : List Value) (news : Led) (post : Value → Led → Prop) : Prop :=
  ∀ (dp un : Nat) (gd : Option (List Code)) (cn : Str) (cs : Scope) (a : Addr) (ccd : Value) (cl : List (Str × Addr)) (outer : List Env) (A₀ : Around) (base h₀ : Heap) (L : Addr) (m : Str → Option Value) (s : Shared) (R : Result → Shared → Prop),
    Below A₀ base outer h₀ → Fr h₀ L s.heap m → (written.heap_1 w.params).In h₀ → News h₀ L s.heap news → Top p loose mean mg mb h₀ → cs.kind = .function → dp + b < recursionLimit → un + 10 * b < cLine →
    (∀ r news' h' tk', Fr h₀ L h' m → News h₀ L h' news' → Left s.heap h' news news' → post r news' → R (.ok (.ret r)) { s with heap := h', toks := tk' }) →
    codeAny (model PG w) (ktrTop dp un gd cn cs L a ccd cl outer) (.call (.ref f) ⟨vs, []⟩) R s

section
variable {prog : Program} {w : World} {K : Type} [DecidableEq K] {knd : KeyKind prog w K} {A : Around} {E : Value → Shared → Prop} {s : Shared} {h₀ : Heap} {L d : Addr} {news : List (Addr × Obj)} {o : Obj} {kvs : List (K × Value)} {k : K} {key v : Value}
theorem got_item {Q : Value → Shared → Prop} (N : News h₀ L s.heap news) (hp : (d, o) ∈ news) (hd : o.IsDictOf knd kvs) (hkey : knd.is k key = true) (hl : valueAt kvs k = some v) (h : Q v { s with toks := s.toks + 1 }) :
    wpAny (model prog w) A (getItem (.ref d) key) Q E s :=
  wpAny_getItem_of hkey (kda_dict N hp hd).mapOf hl h
end

theorem gsub_leave {H g h' : Heap} {as : List Addr} {L : Addr} {m : Str → Option Value} (G : GSub H g as) (F : Fr g L h' m) : GSub H h' as := fun b o e n => F.keep b o (G b o e n)
theorem GSub.weak {H g : Heap} {as bs : List Addr} (G : GSub H g as) (h : ∀ a ∈ as, a ∈ bs) : GSub H g bs := fun b o e n => G b o e fun q => n (h b q)

/-- a part of the ledger that a call leaves alone -/
theorem news_rest {h₀ h h' : Heap} {L : Addr} {rest : Led} {as : List Addr} (N : News h₀ L h rest) (G : GSub h h' as) (hd : ∀ p ∈ rest, p.1 ∉ as) : News h₀ L h' rest :=
  fun p hp => ⟨G _ _ (N p hp).1 (hd p hp), (N p hp).2⟩

theorem Does.go {b : Nat} {w : World} {p : Program} {loose : List Str} {mean : ExcName → Option Value} {mg mb : Str → Option Value} {f : Addr} {vs : List Value} {news : Led} {post : Value → Led → Prop}
    {dp un : Nat} {gd : Option (List Code)} {cn : Str} {cs : Scope} {a : Addr} {ccd : Value} {cl : List (Str × Addr)} {outer : List Env} {A₀ : Around} {base h₀ : Heap} {L : Addr} {m : Str → Option Value} {s : Shared} {Q E : Value → Shared → Prop}
    (D : Does b w p loose mean mg mb f vs news post) (B : Below A₀ base outer h₀) (F : Fr h₀ L s.heap m) (X : (written.heap_1 w.params).In h₀) (N : News h₀ L s.heap news) (T : Top p loose mean mg mb h₀) (hk : cs.kind = .function) (hdp : dp + b < recursionLimit) (hun : un + 10 * b < cLine)
    (k : ∀ r news' h' tk', Fr h₀ L h' m → News h₀ L h' news' → Left s.heap h' news news' → post r news' → Q r { s with heap := h', toks := tk' }) :
    wpAny (model PG w) (ktrTop dp un gd cn cs L a ccd cl outer) (call (.ref f) vs) Q E s := wpAny_call (D dp un gd cn cs a ccd cl outer A₀ base h₀ L m s _ B F X N T hk hdp hun k)

end

-- Ne
section
/-- what lies below an address -/
structure Lt1 (d : Addr) (as : List Addr) : Prop where
  lt : ∀ x ∈ as, @LT.lt Nat _ x d
theorem lt1_of {d : Addr} {l : Led} (h : ∀ p ∈ l, p.1 < d) : Lt1 d (l.map (·.1)) := ⟨fun x hx => by
  obtain ⟨p, hp, rfl⟩ := List.mem_map.mp hx
  exact h p hp⟩
theorem lt1_ne {d x : Nat} {as : List Addr} (h : Lt1 d as) (m : x ∈ as) : d ≠ x := Nat.ne_of_gt (h.lt x m)
theorem lt1_en {d x : Nat} {as : List Addr} (h : Lt1 d as) (m : x ∈ as) : x ≠ d := Nat.ne_of_lt (h.lt x m)
theorem lt1_lt {d x : Nat} {as : List Addr} (h : Lt1 d as) (m : x ∈ as) : x < d := h.lt x m
theorem lt1_all {d : Addr} {r : Led} (h : Lt1 d (r.map (·.1))) : ∀ p ∈ r, p.1 ≠ d := fun p hp => Nat.ne_of_lt (h.lt p.1 (List.mem_map.mpr ⟨p, hp, rfl⟩))
theorem lt1_chain {d e : Nat} {as : List Addr} (h : d < e) (H : Lt1 d as) : Lt1 e (d :: as) := ⟨fun x hx => by
  rcases List.mem_cons.mp hx with rfl | hx
  · exact h
  · exact Nat.lt_trans (H.lt x hx) h⟩
theorem lt1_succ {d : Nat} {as : List Addr} (H : Lt1 d as) : Lt1 (d + 1) (d :: as) := lt1_chain (Nat.lt_succ_self d) H
theorem lt1_up {d : Nat} {as : List Addr} (H : Lt1 d as) : Lt1 (d + 1) as := ⟨fun x hx => Nat.lt_succ_of_lt (H.lt x hx)⟩
theorem lt1_nil {d : Nat} : Lt1 d [] := ⟨fun _ h => nomatch h⟩
/-- a fresh name for the count of marks, the state's parts written plainly -/
theorem gentk {α : Type} {M : Model} {A : Around} {t : Sem α} {Q : α → Shared → Prop} {E : Value → Shared → Prop} {h₀ h hh : Heap} {L : Addr} {m : Str → Option Value} {gg : Array GenState} {dd : Drawn} {k : Nat} {oo : OsState} {s : Shared}
    (_ : Fr h₀ L h m) (e1 : hh = h) (e2 : gg = s.gens) (e3 : dd = s.drawn) (e4 : oo = s.os) (H : ∀ tk, wpAny M A t Q E ⟨h, s.gens, s.drawn, tk, s.os⟩) : wpAny M A t Q E ⟨hh, gg, dd, k + 1, oo⟩ := by
  subst e1 e2 e3 e4
  exact H _
end

-- rules for all that follows
local macro_rules | `(tactic| walk_at $s:str) => `(tactic| k_extra $s)
local macro_rules | `(tactic| k_get) => `(tactic| with_reducible assumption)
local macro_rules | `(tactic| k_lt $h:ident) => `(tactic| ((have hT1' := lt1_of $h); (try dsimp only [List.map] at hT1'); clear $h))
local macro_rules | `(tactic| k_lt2 $h:ident) => `(tactic| (have hT2' := lt1_chain $h (by assumption)))
local macro_rules | `(tactic| k_ne) => `(tactic| (k_dflt (first | with_reducible assumption | exact lt1_ne (by first | assumption | exact lt1_up (by first | assumption | exact lt1_up (by first | assumption | exact lt1_up (by first | assumption | exact lt1_up (by first | assumption | exact lt1_up (by assumption)))))) (by k_mem) | exact lt1_en (by first | assumption | exact lt1_up (by first | assumption | exact lt1_up (by first | assumption | exact lt1_up (by first | assumption | exact lt1_up (by first | assumption | exact lt1_up (by assumption)))))) (by k_mem) | exact Ne.symm (by with_reducible assumption) | (refine neN ?_; (try dsimp only); omega))))
local macro_rules | `(tactic| k_all) => `(tactic| (k_dflt (first | exact List.forall_mem_nil _ | exact lt1_all (by assumption) | (refine' List.forall_mem_cons.mpr ⟨?a, ?b⟩; (case a => k_ne); (case b => k_all)))))

-- Exc
section
set_option maxRecDepth 100000
set_option maxHeartbeats 8000000

section
variable {prog : Program} {w : World} {A : Around} {R : Result → Shared → Prop} {E : Value → Shared → Prop} {h : Heap} {g : Array GenState} {d : Drawn} {t : Nat} {os : OsState}
variable {nm q : Str} {C N : Addr} {bs bm bm0 : List Value} {hdct : Bool} {sn : List Str} {sub : List Value} {ab : Bool} {col : Option Bool} {dd : Option Addr} {k0 k1 k2 k3 k5 : Option Value} {B newId initId : String}

/-- what an exception class of the program's own tells of its forebears -/
theorem own_sub (hC : h.get? C = some (excClassObj nm q C N bs bm hdct sn sub ab col dd k0 k1 k2 k3 k5 newId)) {M : Model} {b : Value} {r : Bool} (e : (Value.ref C :: bm).contains b = r) :
    Looks M h (isSubtype (.ref C) b) r := fun _ _ _ _ k y => wpAny_isSubtype_exc (k _ _ hC) (e ▸ y)
theorem own_has {b : Value} {r : Bool} (hb : bm.contains b = r) (hr : (b == Value.ref C) = false) : (Value.ref C :: bm).contains b = r := by
  rw [List.contains_cons, hr, hb]; cases r <;> rfl

abbrev excObj (C t : Addr) : Obj := { cls := .ref C, data := .fields #[.ref t, .none, .none, .none, .bool false, .none] }
abbrev tupOf (vs : List Value) : Obj := { cls := .type "tuple", data := .seq vs.toArray }

theorem own_new (F : ExcBaseFacts B newId initId bm0) (hB : bm.contains (.type B) = true) (hAt : bm.contains (.type "AttributeError") = false) (hNa : bm.contains (.type "NameError") = false) {rest : List Value}
    (hC : h.get? C = some (excClassObj nm q C N bs bm hdct sn sub ab col dd k0 k1 k2 k3 k5 newId))
    (hq : R (.ok (.ret (.ref (h.objs.size + 1)))) ⟨(h.push (tupOf rest)).push (excObj C h.objs.size), g, d, t, os⟩) (hrest : rest.length ≤ sizeLine) :
    codeAny (model prog w) A (.builtin newId ⟨.ref C :: rest, []⟩) R ⟨h, g, d, t, os⟩ := by
  have is : Looks (model prog w) h (isSubtype (.ref C) (.type B)) true := own_sub hC (own_has hB rfl)
  have noA : Looks (model prog w) h (isSubtype (.ref C) (.type "AttributeError")) false := own_sub hC (own_has hAt rfl)
  have noN : Looks (model prog w) h (isSubtype (.ref C) (.type "NameError")) false := own_sub hC (own_has hNa rfl)
  have here : Looks (model prog w) h (Bind.madeHere "BaseException.__new__" (.ref C)) () := fun _ _ _ _ k y => wpAny_madeHere_exc F.canon (k _ _ hC) y
  have hends := F.ends
  refine codeAny_builtinAt F.entry (PySem.wpAt_bind ?_)
  show PySem.wpAt _ _ _ (stack >>= _) _ _ _
  refine PySem.wpAt_bind (PySem.wpAt_stack fun p below => PySem.wpAt_of_wpAny ?_)
  wp_walk
  refine PySem.wpAt_of_wpAny ?_
  rw [F.owner]
  have hC1 := Heap.get?_push_of_some (tupOf rest) hC
  have hC2 := Heap.get?_push_of_some (excObj C h.objs.size) hC1
  repeat lk
  rw [if_neg (by rw [List.size_toArray]; exact Nat.not_lt.mpr hrest)]
  repeat lk
  rw [Heap.size_push]
  exact hq

theorem own_make {rest : List Value} {fI : Addr} (F : ExcBaseFacts B newId initId bm0) (hB : bm.contains (.type B) = true) (hAt : bm.contains (.type "AttributeError") = false) (hNa : bm.contains (.type "NameError") = false)
    (hC : h.get? C = some (excClassObj nm q C N bs bm hdct sn sub ab col dd k0 k1 k2 k3 k5 newId))
    (hi : Looks (model prog w) h (typeLookup (.ref C) "__init__") (some (.ref fI))) (hb : ∀ self, Looks (model prog w) h (bindSpecial (.ref fI) self) (.ref fI, [self])) (hrest : rest.length ≤ sizeLine)
    (hq : codeAny (model prog w) (A.under (.builtin "type.__call__" ⟨.ref C :: rest, []⟩)) (.call (.ref fI) ⟨.ref (h.objs.size + 1) :: rest, []⟩) (InitBack (h.objs.size + 1) R) ⟨(h.push (tupOf rest)).push (excObj C h.objs.size), g, d, t, os⟩) :
    codeAny (model prog w) A (.call (.ref C) ⟨rest, []⟩) R ⟨h, g, d, t, os⟩ := by
  have f1 := tc_lookup
  have f2 := tc_bind (.ref C)
  have hT : (⟨h, g, d, t, os⟩ : Shared).TypeIs (.ref C) "type" := ⟨_, hC, rfl⟩
  refine codeAny_of_tree ?_
  show wpAny _ _ (callAny (.ref C) _) _ _ _
  repeat (any_goals (first | assumption | with_reducible refine wpAny_loadPart_at hC ?_ | wp_step))
  refine ⟨rfl, ?_⟩
  refine codeAny_call_builtin_at (Code.quiet_builtin _ (by decide +kernel)) entry_typeCall (wpAny_check_type_call_sub hC ?_)
  unfold Builtin.«type.__call__»
  repeat (first | with_reducible refine wpAny_loadPart_at hC ?_ | with_reducible refine wpAny_madeBy_exc hC ?_ | wp_step)
  refine codeAny_call_builtin_code (Code.quiet_builtin _ F.quiet) (wpAny_check_new_subU F hB .base hC ?_)
  refine own_new F hB hAt hNa hC ?_ hrest
  change wpAny (model prog w) _ _ _ _ ⟨(h.push (tupOf rest)).push (excObj C h.objs.size), g, d, t, os⟩
  have k : ∀ b o, h.get? b = some o → ((h.push (tupOf rest)).push (excObj C h.objs.size)).get? b = some o := fun b o e => Heap.get?_push_of_some _ (Heap.get?_push_of_some _ e)
  have hx : ((h.push (tupOf rest)).push (excObj C h.objs.size)).get? (h.objs.size + 1) = some (excObj C h.objs.size) := by heap_get
  have hC₁ := k _ _ hC
  have t1 : Looks (model prog w) ((h.push (tupOf rest)).push (excObj C h.objs.size)) (typeOf (.ref (h.objs.size + 1))) (.ref C) := (Looks.ld hx).andThen .now
  have s1 : Looks (model prog w) ((h.push (tupOf rest)).push (excObj C h.objs.size)) (isSubtype (.ref C) (.ref C)) true := own_sub hC₁ (by simp)
  have i1 := hi.keeps k
  have b1 := (hb (.ref (h.objs.size + 1))).keeps k
  clear hC₁ hT hC
  unfold isInstance callSpecial? specialOf
  repeat (first | with_reducible refine wpAny_call ?_ | lk)
  refine codeAny_mono hq fun r s' z => ?_
  rcases r with e | (v | _ | _ | _) <;> first | exact z | exact z.elim | skip
  obtain ⟨rfl, z⟩ := z
  exact wpAny_pure (wpAny_pure z)
end

open Builtin Builtin.ObjectAttr in
section
variable {prog : Program} {w : World} {A : Around} {E : Value → Shared → Prop} {h : Heap} {g : Array GenState} {d : Drawn} {t : Nat} {os : OsState} {K : Frag} {x C : Addr} {cd : ClassData} {mA : Str → Option Value} {name : Str} {v : Value}

/-- what a store into an object of an own class leaves -/
def Stored (h h' : Heap) (x C : Addr) (mA' : Str → Option Value) : Prop :=
  h'.Inst x C mA' ∧ (∀ b o, b ≠ x → (∀ o₀ dx, h.get? x = some o₀ → o₀.dict = some dx → b ≠ dx) → h.get? b = some o → h'.get? b = some o) ∧
    ∀ o₀, h.get? x = some o₀ → ∃ o₁, h'.get? x = some o₁ ∧ o₁.cls = o₀.cls ∧ o₁.data = o₀.data ∧ o₁.slots = o₀.slots ∧ (∀ dx, o₀.dict = some dx → o₁.dict = some dx) ∧ (o₀.dict = none → ∀ dx, o₁.dict = some dx → h.get? dx = none)

theorem own_put {tk : Tok} {dx : Addr} {Q : Fin → Shared → Prop} {ns : List Str} (hns : h.Ns1 dx mA) (hw : Within mA ns) (hsz : ns.length ≤ sizeLine)
    (hq : ∀ h' tk', h'.Ns1 dx (fun y => if y = name then some v else mA y) → Heap.SameBut dx h h' → Q (.done (.ret .none)) ⟨h', g, d, tk', os⟩) :
    wpAny (model prog w) A (storeInDict dx (.str name tk) name v) Q E ⟨h, g, d, t, os⟩ := by
  unfold storeInDict newKeyGuard
  refine wpAny_bind (wpAny_pure (wpAny_bind (wpAny_nsSet1 hns fun h' hn' hs => ?_)))
  obtain ⟨oD, esD, epD, hoD, hdD, hcD⟩ := hn'.count (Within.cons name v hw)
  refine wpAny_bind (wpAny_lookBehind hoD (by rw [hdD]; exact pastItsLine_dict (Nat.le_trans hcD (by rw [List.length_cons]; omega))) ?_)
  exact wpAny_pure (hq h' _ hn' hs)

theorem own_storeDict {tk : Tok} {b : Bool} {Q : Fin → Shared → Prop} {ns : List Str} (X : K.In h) (hc : clsIn K C = some cd) (hdct : cd.hasDict = true) (I : h.Inst x C mA)
    (hq : ∀ h' tk', Stored h h' x C (fun y => if y = name then some v else mA y) → Q (.done (.ret .none)) ⟨h', g, d, tk', os⟩) (hw : Within mA ns) (hsz : ns.length ≤ sizeLine) :
    wpAny (model prog w) A (storeInOwnDict (.ref x) (.ref C) (.str name tk) name v b) Q E ⟨h, g, d, t, os⟩ := by
  obtain ⟨o, hx, hcl, hnc, hd⟩ := I
  have L := looks_clsIn (M := model prog w) X hc
  obtain ⟨oc, odi, oda, osl⟩ := o
  dsimp only at hcl hnc hd
  subst hcl
  refine wpAny_bind (wpAny_pure (wpAny_bind (wpAny_bind (wpAny_loadPart hx (wpAny_bind (L.here ?_))))))
  rw [hdct]
  rcases hd with ⟨rfl, hmA⟩ | ⟨dx, rfl, hne, hns⟩
  · have hx₁ : (h.push { cls := .type "dict", data := .dict #[] }).get? x = some ⟨.ref C, none, oda, osl⟩ := Heap.get?_push_of_some _ hx
    have hxs : x ≠ h.objs.size := Nat.ne_of_lt (Heap.lt_size hx)
    have hgd : ((h.push { cls := .type "dict", data := .dict #[] }).update x fun o => { o with dict := some h.objs.size }).get? h.objs.size = some { cls := .type "dict", data := .dict #[] } :=
      (Heap.get?_update_ne _ _ _ _ hxs.symm).trans (Heap.get?_push_at rfl rfl)
    have hfr := (Heap.get?_some_iff.mp hx).2
    have hgx : ((h.push { cls := .type "dict", data := .dict #[] }).update x fun o => { o with dict := some h.objs.size }).get? x = some ⟨.ref C, some h.objs.size, oda, osl⟩ :=
      Heap.get?_update_self _ hx₁ (by cases oda <;> first | rfl | exact hfr)
    have hnd : ((h.push { cls := .type "dict", data := .dict #[] }).update x fun o => { o with dict := some h.objs.size }).Ns h.objs.size (fun _ => none) :=
      ⟨_, #[], _, hgd, rfl, fun e he => absurd he (by simp), fun _ => rfl⟩
    have fin : wpAny (model prog w) A (do
        let d ← alloc { cls := Value.type "dict", data := Data.dict #[] }
        update x fun o => { cls := o.cls, dict := some d, data := o.data, slots := o.slots }
        dictMade (.ref C) x d) (fun a s' => wpAny (model prog w) A (match a with | some d => storeInDict d (Value.str name tk) name v | none => noDictFor (Value.ref x) (Value.ref C) name b) Q E s') E ⟨h, g, d, t, os⟩ := by
      refine wpAny_bind (wpAny_alloc' (wpAny_bind (wpAny_update' hx₁ (wpAny_pure ?_))))
      refine own_put (Heap.Ns1.of_empty hnd) Within.nil (Nat.zero_le _) fun h' tk' hn' hs => hq h' tk' ⟨?_, fun b' ob hbx _ hb => ?_, fun o₀ e₀ => ?_⟩
      · refine ⟨⟨.ref C, some h.objs.size, oda, osl⟩, (hs.2 x hxs).trans hgx, rfl, hnc, .inr ⟨_, rfl, hxs.symm, ?_⟩⟩
        obtain ⟨o', es, ep, e1, e2, e3, eu, e4⟩ := hn'
        exact ⟨o', es, ep, e1, e2, e3, eu, fun y => by rw [e4 y]; by_cases hy : y = name <;> simp [hy, hmA]⟩
      · exact (hs.2 b' (Nat.ne_of_lt (Heap.lt_size hb))).trans ((Heap.get?_update_ne _ _ _ _ hbx).trans (Heap.get?_push_of_some _ hb))
      · obtain rfl := Option.some.inj (hx.symm.trans e₀)
        exact ⟨_, (hs.2 x hxs).trans hgx, rfl, rfl, rfl, fun dx e => (by cases e), fun _ dx e => by cases e; exact Heap.get?_none_of_le (Nat.le_refl _)⟩
    cases oda <;> first | exact fin | exact absurd rfl (hnc _)
  · refine wpAny_pure ?_
    refine own_put hns hw hsz fun h' tk' hn' hs => hq h' tk' ⟨⟨_, (hs.2 x hne.symm).trans hx, rfl, hnc, .inr ⟨dx, rfl, hne, hn'⟩⟩, fun b' ob _ hbd hb => (hs.2 b' (hbd _ dx hx rfl)).trans hb, fun o₀ e₀ => ?_⟩
    obtain rfl := Option.some.inj (hx.symm.trans e₀)
    exact ⟨_, (hs.2 x hne.symm).trans hx, rfl, rfl, rfl, fun _ e => e, fun e => by cases e⟩

theorem own_store {Q : Unit → Shared → Prop} {ns : List Str} (X : K.In h) (hc : clsIn K C = some cd) (hdct : cd.hasDict = true) (hs : findIn K (.ref C) "__setattr__" = some (some (.builtin "object.__setattr__")))
    (ht : takerIn K C name = some none) (hr : ∀ self, refuseLoop self "__setattr__" cd.mro = pure ()) (hob : mroIn K C (.type "object") = some true) (I : h.Inst x C mA)
    (hq : ∀ h' tk', Stored h h' x C (fun y => if y = name then some v else mA y) → Q () ⟨h', g, d, tk', os⟩) (hw : Within mA ns) (hsz : ns.length ≤ sizeLine) :
    wpAny (model prog w) A (setAttr (.ref x) name v) Q E ⟨h, g, d, t, os⟩ := by
  have I' : ∃ ox od, InstAt h x ox C od := by
    obtain ⟨o, hx, hcl, hnc, hd⟩ := I
    have hno : notCls o = true := by
      obtain ⟨_, _, oda, _⟩ := o
      cases oda <;> first | rfl | exact absurd rfl (hnc _)
    rcases hd with ⟨hd, _⟩ | ⟨dx, hd, _, o', es, ep, e1, _⟩
    · exact ⟨o, none, hx, hcl, hno, by rw [hd]; trivial⟩
    · exact ⟨o, some o', hx, hcl, hno, by rw [hd]; exact e1⟩
  obtain ⟨ox, od, IA⟩ := I'
  have SF := PySem.F.store_object
  have sub : Looks (model prog w) h (isInstance (.ref x) (.type "object")) true := IA.type.andThen (looks_mroIn X hob)
  have hm : Looks (model prog w) h (mroOf (.ref C)) cd.mro := (looks_clsIn X hc).andThen .now
  obtain ⟨attr, ha, hr'⟩ := Option.bind_eq_some_iff.mp ht
  have L3 : Looks (model prog w) h (storeTaker? attr) none := by
    cases attr with
    | none => exact .now
    | some a =>
      obtain ⟨b, hb, e⟩ := Option.map_eq_some_iff.mp hr'
      refine (looks_takesIn X hb).andThen ?_
      cases b
      · exact .now
      · cases e
  refine set_plain (s := ⟨h, g, d, t, os⟩) X IA hs ?_
  refine codeAny_call_builtin SF.slot.plain SF.entry (@check_slot (model prog w) _ _ ⟨h, g, d, t + 1, os⟩ "object.__setattr__" "object" "__setattr__" (.ref x) [.str name t, v] [] _ SF.kind SF.split sub (SF.args (.ref x) (.str name t) v) ?_)
  rw [osa_eq, refuse_eq]
  refine wpAny_bind (wpAny_bind (IA.type.here (wpAny_bind (hm.here ?_))))
  rw [hr]
  refine wpAny_pure (wpAny_bind (IA.type.here (wpAny_bind ((looks_findIn X ha).here (wpAny_bind (L3.here ?_))))))
  exact own_storeDict X hc hdct I hq hw hsz
end

section
variable {prog : Program} {w : World} {A : Around} {E : Value → Shared → Prop} {h : Heap} {g : Array GenState} {d : Drawn} {t : Nat} {os : OsState}
variable {nm q : Str} {C N : Addr} {bs bm bm0 : List Value} {hdct : Bool} {sn : List Str} {sub : List Value} {ab : Bool} {col : Option Bool} {dd : Option Addr} {k0 k1 k2 k3 k5 : Option Value} {B newId initId : String}

theorem own_checkInit (F : ExcBaseFacts B newId initId bm0) (hB : bm.contains (.type B) = true) {M : Model} {e : Addr} {oe : Obj} {rest : List Value} {Q : Unit → Shared → Prop}
    (hC : h.get? C = some (excClassObj nm q C N bs bm hdct sn sub ab col dd k0 k1 k2 k3 k5 newId)) (he : h.get? e = some oe) (hcls : oe.cls = .ref C) (hq : Q () ⟨h, g, d, t, os⟩) :
    wpAny M A (checkBuiltinCall initId ⟨.ref e :: rest, []⟩) Q E ⟨h, g, d, t, os⟩ := by
  obtain ⟨oc, od, oda, sl⟩ := oe
  obtain rfl : oc = .ref C := hcls
  have is : Looks M h (isInstance (.ref e) (.type B)) true := ((Looks.ld he).andThen .now).andThen (own_sub hC (own_has hB rfl))
  have hs := F.noStar
  simp only [checkBuiltinCall, F.initKind, F.initSplit, F.initRow]
  refine wpAny_bind (is.here ?_)
  simp only [Bool.not_true, Bool.false_eq_true, if_false]
  unfold Bind.checkArgs
  repeat lk
  rw [if_pos hs]
  refine wpAny_pure (wpAny_onRaise ?_)
  exact (Looks.of_pure (check_star_args _ _ _ _ _ _)).here hq

theorem own_init (F : ExcBaseFacts B newId initId bm0) (hB : bm.contains (.type B) = true) {e tA : Addr} {v : Value} {od : Option Addr} {sl : Array (Option Value)} {Q : Value → Shared → Prop}
    (hC : h.get? C = some (excClassObj nm q C N bs bm hdct sn sub ab col dd k0 k1 k2 k3 k5 newId)) (he : h.get? e = some ⟨.ref C, od, .fields #[.ref tA, .none, .none, .none, .bool false, .none], sl⟩)
    (hq : Q .none ⟨(h.push (tupOf [v])).update e (Obj.mapFields (·.setIfInBounds 0 (.ref h.objs.size))), g, d, t, os⟩) :
    wpAny (model prog w) A (call (.builtin initId) [.ref e, v]) Q E ⟨h, g, d, t, os⟩ := by
  refine wpAny_call (codeAny_call_builtin F.init.plain F.initEntry (own_checkInit F hB hC he rfl ?_))
  have he₁ := Heap.get?_push_of_some (tupOf [v]) he
  wp_walk
  exact hq

theorem own_raise {s : Shared} {env : Env} {xe : Expr} {pos : Pos} {Q : Flow → Shared → Prop} {KF : Frag} (hb : ktsIn KF C "BaseException" = true) (hh : A.handled = none)
    (h : wpAny (model prog w) A (eval xe env) (fun v s₁ => Hold (∃ e tA od sl, v = .ref e ∧ KF.In s₁.heap ∧
      s₁.heap.get? e = some ⟨.ref C, od, .fields #[.ref tA, .none, .none, .none, .bool false, .none], sl⟩ ∧ E (.ref e) s₁)) E s) :
    wpAny (model prog w) A (exec (.Raise (some xe) none pos) env) Q E s := by
  rw [arm_exec_Raise]
  refine wpAny_bind (wpAny_standAt ?_)
  unfold raiseStmt
  refine wpAny_bind (wpAny_bind (wpAny_mono h (fun v s₁ h₁ => wpAny_bind (wpAny_standAt (wpAny_pure ?_))) fun _ _ x => x))
  obtain ⟨e, tA, od, sl, rfl, X, he, hE⟩ := h₁
  obtain ⟨nm, q, N, bs, bm, hdct, sn, sub, ab, col, dd, k0, k1, k2, k3, k5, newId, hC, hb1, _⟩ := kts_cls X hb
  have hcB : (Value.ref C :: bm).contains (.type "BaseException") = true := by rw [List.contains_cons, hb1, Bool.or_true]
  obtain ⟨hp, g, d, tk, os⟩ := s₁
  repeat (first | with_reducible refine wpAny_loadPart_at he ?_ | with_reducible refine wpAny_loadPart_at hC ?_ | (with_reducible refine wpAny_isSubtype_exc hC ?_; rw [hcB]) | wp_step)
  exact wpAny_raiseNew_none hh hE
end
end

-- Die
section
set_option maxRecDepth 100000
set_option maxHeartbeats 8000000

/-- a dict object of at most k names -/
def NsObj (o : Obj) (k : Nat) : Prop := ∃ (mA : Str → Option Value) (ns : List Str), ns.length ≤ k ∧ Within mA ns ∧ (∃ y, (mA y).isSome = true) ∧ ∀ (h : Heap) (a : Addr), h.get? a = some o → h.Ns1 a mA
abbrev exc0 (od : Option Addr) (t : Addr) : Obj := ⟨.ref 58, od, .fields #[.ref t, .none, .none, .none, .bool false, .none], #[]⟩

theorem die_mro (self : Value) : refuseLoop self "__setattr__" [.ref 58, .ref 38, .type "Exception", .type "BaseException", .type "object"] = pure () := by
  rw [refuseLoop_ref, refuseLoop_ref]
  kernel_rfl

section
variable {w : World} {A : Around} {E : Value → Shared → Prop} {s : Shared} {g : Heap} {L e : Addr} {m : Str → Option Value} {news : Led} {gg : Obj → Led}

theorem die_cls (X : (written.heap_1 w.params).In g) : ∃ cd, clsIn (written.heap_1 w.params) 58 = some cd ∧ cd.hasDict = true ∧ cd.mro = [.ref 58, .ref 38, .type "Exception", .type "BaseException", .type "object"] := by
  refine ⟨_, by k_is, rfl, rfl⟩

theorem under_tc {dp un : Nat} {gd : Option (List Code)} {cn : Str} {cs : Scope} {a : Addr} {ccd : Value} {cl : List (Str × Addr)} {outer : List Env} {v : List Value} {C : Addr} :
    ∃ u, u ≤ 10 ∧ (ktrTop dp un gd cn cs L a ccd cl outer).under (.builtin "type.__call__" ⟨.ref C :: v, []⟩) = ktrTop (dp + 1) (un + u) gd cn cs L a ccd cl outer := by
  exact ⟨_, Nat.le_of_ble_eq_true (by with_unfolding_all rfl), rfl⟩

theorem news_keep {h h' : Heap} (F : Fr g L h m) (N : News g L h news) (k : ∀ b o, h.get? b = some o → h'.get? b = some o) : Fr g L h' m ∧ News g L h' news :=
  ⟨F.keeps k, News.grown N k⟩

theorem init_use {tA : Addr} {od : Option Addr} {v : Value} {Q : Value → Shared → Prop} (F : Fr g L s.heap m) (X : (written.heap_1 w.params).In g) (N : News g L s.heap news) (U : UpdF e (exc0 od tA) news gg)
    (h : ∀ h' t, Fr g L h' m → News g L h' ((t, tupOf [v]) :: gg (exc0 od t)) → (∀ p ∈ news, p.1 < t) → Q .none { s with heap := h' }) :
    wpAny (model PG w) A (call (.builtin "Exception.__init__") [.ref e, v]) Q E s := by
  obtain ⟨pre, post, rfl, hg, h1, h2⟩ := U.split
  obtain ⟨hp, gn, d, t, os⟩ := s
  have he := (N (e, exc0 od tA) (List.mem_append_right _ (.head _))).1
  have Xs := X.keeps F.keep
  have F₁ := F.push (tupOf [v])
  have N₁ := News.push F N (tupOf [v])
  have hC : hp.get? 58 = some _ := Xs _ _ (by k_is)
  refine own_init PySem.F.excBase_Exception (bm := [.ref 38, .type "Exception", .type "BaseException", .type "object"]) (by decide) hC he ?_
  have hne : ∀ p ∈ (hp.objs.size, tupOf [v]) :: pre, p.1 ≠ e := fun p hp' => by
    rcases List.mem_cons.mp hp' with rfl | hp'
    · exact Nat.ne_of_gt (Heap.lt_size he)
    · exact h1 p hp'
  obtain ⟨F₂, N₂⟩ := news_upd (o' := exc0 od hp.objs.size) (f := Obj.mapFields (·.setIfInBounds 0 (.ref hp.objs.size))) (pre := (hp.objs.size, tupOf [v]) :: pre) F₁ N₁ hne h2 rfl rfl
  exact h _ hp.objs.size F₂ (by rw [hg]; exact N₂) fun p hp' => Heap.lt_size (N p hp').1

theorem set0_use {tA : Addr} {name : Str} {v : Value} {Q : Unit → Shared → Prop} (F : Fr g L s.heap m) (X : (written.heap_1 w.params).In g) (N : News g L s.heap news) (U : UpdF e (exc0 none tA) news gg)
    (ht : takerIn (written.heap_1 w.params) 58 name = some none)
    (h : ∀ h' d od tk', Fr g L h' m → News g L h' ((d, od) :: gg (exc0 (some d) tA)) → NsObj od 1 → (∀ p ∈ news, p.1 ≠ d) → Q () { s with heap := h', toks := tk' }) :
    wpAny (model PG w) A (setAttr (.ref e) name v) Q E s := by
  obtain ⟨pre, post, rfl, hg, h1, h2⟩ := U.split
  obtain ⟨hp, gn, d, t, os⟩ := s
  have he := N (e, exc0 none tA) (List.mem_append_right _ (.head _))
  have Xs := X.keeps F.keep
  obtain ⟨cd, hc, hdct, hmro⟩ := die_cls X
  refine own_store (mA := fun _ => none) (ns := []) Xs hc hdct (by k_is) ht (by rw [hmro]; exact die_mro) (by k_is) ⟨_, he.1, rfl, fun c => nofun, .inl ⟨rfl, fun _ => rfl⟩⟩ (fun h' tk' hS => ?_) Within.nil (Nat.zero_le _)
  obtain ⟨hI, hk, hx⟩ := hS
  obtain ⟨o₁, ho₁, c1, c2, c3, _, c5⟩ := hx _ he.1
  obtain ⟨o₂, ho₂, _, _, hd⟩ := hI
  obtain rfl : o₁ = o₂ := Option.some.inj (ho₁.symm.trans ho₂)
  rcases hd with ⟨_, hm⟩ | ⟨dx, hdx, hne, hns⟩
  · have := hm name; simp at this
  obtain ⟨oc, odi, oda, osl⟩ := o₁
  dsimp only at c1 c2 c3 hdx
  subst c1 c2 c3 hdx
  have hfresh : hp.get? dx = none := c5 rfl dx rfl
  obtain ⟨od, es, ep, hod, r⟩ := id hns
  have keep : ∀ b o, b ≠ e → hp.get? b = some o → h'.get? b = some o := fun b o hb e' => hk b o hb (fun o₀ dx' q q' => by rw [he.1] at q; cases q; cases q') e'
  obtain ⟨oL, es', ep', hL, r'⟩ := F.ns
  have hLe : L ≠ e := fun q => he.2.1 q.symm
  have F' : Fr g L h' m := ⟨⟨oL, es', ep', keep _ _ hLe hL, r'⟩, fun b o q => keep b o (fun z => by rw [z, he.2.2] at q; cases q) (F.keep b o q), F.above⟩
  refine h h' dx od tk' F' (fun p hp' => ?_) ⟨_, [name], Nat.le_refl _, Within.cons name v Within.nil, ⟨name, by simp⟩, fun h₂ a q => ⟨od, es, ep, q, r⟩⟩ fun p hp' q => ?_
  · rcases List.mem_cons.mp hp' with rfl | hp'
    · refine ⟨hod, fun q => ?_, ?_⟩
      · dsimp only at q; rw [q, hL] at hfresh; cases hfresh
      · cases q : g.get? dx with
        | none => rfl
        | some o => have := F.keep _ _ q; rw [hfresh] at this; cases this
    · rw [hg] at hp'
      rcases List.mem_append.mp hp' with hp' | hp'
      · exact ⟨keep _ _ (h1 p hp') (N p (List.mem_append_left _ hp')).1, (N p (List.mem_append_left _ hp')).2⟩
      · rcases List.mem_cons.mp hp' with rfl | hp'
        · exact ⟨ho₁, he.2⟩
        · exact ⟨keep _ _ (h2 p hp') (N p (List.mem_append_right _ (.tail _ hp'))).1, (N p (List.mem_append_right _ (.tail _ hp'))).2⟩
  · have := (N p hp').1; rw [q, hfresh] at this; cases this

theorem set1_use {tA dx : Addr} {od : Obj} {k : Nat} {name : Str} {v : Value} {Q : Unit → Shared → Prop} (F : Fr g L s.heap m) (X : (written.heap_1 w.params).In g) (N : News g L s.heap news) (U : UpdF dx od news gg)
    (hm : (e, exc0 (some dx) tA) ∈ news) (hne : dx ≠ e) (hN : NsObj od k) (hk : k ≤ 100) (ht : takerIn (written.heap_1 w.params) 58 name = some none)
    (h : ∀ h' od' tk', Fr g L h' m → News g L h' (gg od') → Q () { s with heap := h', toks := tk' }) :
    wpAny (model PG w) A (setAttr (.ref e) name v) Q E s := by
  obtain ⟨pre, post, rfl, hg, h1, h2⟩ := U.split
  obtain ⟨hp, gn, d, t, os⟩ := s
  have he := N _ hm
  have hdx := N (dx, od) (List.mem_append_right _ (.head _))
  have Xs := X.keeps F.keep
  obtain ⟨cd, hc, hdct, hmro⟩ := die_cls X
  obtain ⟨mA, ns, hlen, hw, ⟨y, hy⟩, hns⟩ := hN
  refine own_store (mA := mA) (ns := ns) Xs hc hdct (by k_is) ht (by rw [hmro]; exact die_mro) (by k_is) ⟨_, he.1, rfl, fun c => nofun, .inr ⟨dx, rfl, hne, hns _ _ hdx.1⟩⟩ (fun h' tk' hS => ?_) hw (by rw [sizeLine_eq]; omega)
  obtain ⟨hI, hk', hx⟩ := hS
  obtain ⟨o₁, ho₁, c1, c2, c3, c4, _⟩ := hx _ he.1
  obtain ⟨oc, odi, oda, osl⟩ := o₁
  have c6 : odi = some dx := c4 dx rfl
  clear c4
  dsimp only at c1 c2 c3
  subst c1 c2 c3
  cases c6
  obtain ⟨o₂, ho₂, _, _, hd⟩ := hI
  obtain rfl := Option.some.inj (ho₁.symm.trans ho₂)
  rcases hd with ⟨q, _⟩ | ⟨dx', hdx', _, hns'⟩
  · cases q
  cases hdx'
  obtain ⟨od', es, ep, hod, r⟩ := id hns'
  have keep : ∀ b o, b ≠ dx → hp.get? b = some o → h'.get? b = some o := fun b o hb e' => by
    by_cases hbe : b = e
    · subst hbe
      have := he.1; rw [e'] at this; cases this; exact ho₁
    · exact hk' b o hbe (fun o₀ dx' q q' => by rw [he.1] at q; cases q; cases q'; exact hb) e'
  obtain ⟨oL, es', ep', hL, r'⟩ := F.ns
  have F' : Fr g L h' m := ⟨⟨oL, es', ep', keep _ _ (fun q => hdx.2.1 q.symm) hL, r'⟩, fun b o q => keep b o (fun z => by rw [z, hdx.2.2] at q; cases q) (F.keep b o q), F.above⟩
  refine h h' od' tk' F' fun p hp' => ?_
  rw [hg] at hp'
  rcases List.mem_append.mp hp' with hp' | hp'
  · exact ⟨keep _ _ (h1 p hp') (N p (List.mem_append_left _ hp')).1, (N p (List.mem_append_left _ hp')).2⟩
  · rcases List.mem_cons.mp hp' with rfl | hp'
    · exact ⟨hod, hdx.2⟩
    · exact ⟨keep _ _ (h2 p hp') (N p (List.mem_append_right _ (.tail _ hp'))).1, (N p (List.mem_append_right _ (.tail _ hp'))).2⟩
end


theorem meta_Exc : typeOf (.type "Exception") = pure (.type "type") := by kernel_rfl

theorem init35_spec {w : World} {p : Program} {loose : List Str} {mean : ExcName → Option Value} {mg mb : Str → Option Value} {e t : Addr} {v : Value} {hv : handedIn v = true} :
    Does 3 w p loose mean mg mb 35 [.ref e, v] [(e, exc0 none t)]
      (fun r news' => ∃ t' d od, news' = [(d, od), (t', tupOf [v]), (e, exc0 (some d) t')] ∧ r = .none ∧ NsObj od 1 ∧ t' ≠ d ∧ e ≠ d ∧ @LT.lt Nat _ e t') := by
  k_with_none
  k_with "execs cons" => (k_here; (with_reducible refine' gentk ?F ?e1 ?e2 ?e3 ?e4 ?_); (case F => k_asm); (case e1 => k_dflt exact rfl); (case e2 => k_dflt exact rfl); (case e3 => k_dflt exact rfl); (case e4 => k_dflt exact rfl); intro tk')
  k_with "getMethod type:Exception" => (k_here; refine' method_type ?F ?X ?m (by decide +kernel) ?e ?h ?_; (case F => k_asm); (case X => k_asm); (case m => exact meta_Exc); (case e => k_dflt k_is); (case h => k_handed))
  k_with "call builtin:Exception.__init__" => (k_here; k_dflt (refine' init_use ?F ?X ?N ?U ?_; (case F => k_asm); (case X => k_asm); (case N => k_asm); (case U => k_updF); k_whole); intro h' t' F' N' l1; (try dsimp only at N'); (try k_lt l1))
  k_with "setAttr ref" => (k_here; k_dflt (refine' set0_use ?F ?X ?N ?U ?t ?_; (case F => k_asm); (case X => k_asm); (case N => k_asm); (case U => k_updF); (case t => k_is); k_whole); intro h' d' od' tk' F' N' n' l1; (try dsimp only at N'))
  unfold Does
  intro dp un gd cn cs fa ccd cl outer A₀ base h₀ L m s R B F X N T hkf hdp hun hret
  k_dflt (refine' code_defG ?k1 ?k2 ?k3 ?k4 ?k5 ?kA ?kF ?kK ?k6 ?k7 ?k8 ?k9 ?kB ?_ ?c2 ?c3 ?c4 ?c5; (case kA => exact rfl); (case kF => exact rfl); (case kK => assumption); (case k1 => k_asm); (case k2 => k_asm); (case k3 => k_asm); (case k4 => k_asm); (case k5 => k_asm); (case k6 => k_is); (case k7 => k_is); (case k8 => ktr_room); (case k9 => exact BindsTo.of_eq rfl); (case c5 => decide); (case kB => exact locs rfl); (case c2 => exact rfl); (case c3 => exact rfl); (case c4 => exact rfl); k_whole; intro g' L' h' FG' F' N' B' X' T' kG'; (try dsimp only); (try k_lift B'); (try k_fold))
  k_steps
  (rename ∀ _, _ → _ ≠ _ => l9)
  refine hret _ _ _ _ (by k_asm) (by k_asm) (left_of (by assumption) (by assumption) (by assumption)) ⟨_, _, _, rfl, rfl, by assumption, l9 _ (.head _), l9 _ (.tail _ (.head _)), lt1_lt (by assumption) (by k_mem)⟩


theorem init55_spec {w : World} {p : Program} {loose : List Str} {mean : ExcName → Option Value} {mg mb : Str → Option Value} {e t : Addr} {v : Value} :
    Does 6 w p loose mean mg mb 55 [.ref e, v] [(e, exc0 none t)]
      (fun r news' => ∃ t' d od vs, news' = [(d, od), (t', tupOf vs), (e, exc0 (some d) t')] ∧ r = .none) := by
  k_with_none
  k_with "execs cons" => (k_here; (with_reducible refine' gentk ?F ?e1 ?e2 ?e3 ?e4 ?_); (case F => k_asm); (case e1 => k_dflt exact rfl); (case e2 => k_dflt exact rfl); (case e3 => k_dflt exact rfl); (case e4 => k_dflt exact rfl); intro tk')
  k_with "getMethod type:Exception" => (k_here; refine' method_type ?F ?X ?m (by decide +kernel) ?e ?h ?_; (case F => k_asm); (case X => k_asm); (case m => exact meta_Exc); (case e => k_dflt k_is); (case h => k_handed))
  k_with "call builtin:Exception.__init__" => (k_here; k_dflt (refine' init_use ?F ?X ?N ?U ?_; (case F => k_asm); (case X => k_asm); (case N => k_asm); (case U => k_updF); k_whole); intro h' t' F' N' l1; (try dsimp only at N'); (try k_lt l1))
  k_with "setAttr ref" => (k_here; k_dflt (refine' set0_use ?F ?X ?N ?U ?t ?_; (case F => k_asm); (case X => k_asm); (case N => k_asm); (case U => k_updF); (case t => k_is); k_whole); intro h' d' od' tk' F' N' n' l1; (try dsimp only at N'))
  k_with "call ref" => (k_here; (with_reducible show wpAny _ _ (call (Value.ref 35) _) _ _ _); k_dflt (refine' Does.go (init35_spec (hv := rfl)) ?k1 ?k2 ?k3 ?k4 ?k5 ?kK ?kd ?ku ?_; (case k1 => k_asm); (case k2 => k_asm); (case k3 => k_asm); (case k4 => k_asm); (case k5 => k_asm); (case kK => first | assumption | exact rfl); (case kd => ktr_room); (case ku => ktr_units); k_whole); intro r' n' h' tk' F' N' G' q'; obtain ⟨t9, d9, od9, e1, e2, q1, q2, q3, q4⟩ := q'; subst e1 e2; (try k_fold))
  unfold Does
  intro dp un gd cn cs fa ccd cl outer A₀ base h₀ L m s R B F X N T hkf hdp hun hret
  k_dflt (refine' code_defG ?k1 ?k2 ?k3 ?k4 ?k5 ?kA ?kF ?kK ?k6 ?k7 ?k8 ?k9 ?kB ?_ ?c2 ?c3 ?c4 ?c5; (case kA => exact rfl); (case kF => exact rfl); (case kK => assumption); (case k1 => k_asm); (case k2 => k_asm); (case k3 => k_asm); (case k4 => k_asm); (case k5 => k_asm); (case k6 => k_is); (case k7 => k_is); (case k8 => ktr_room); (case k9 => exact BindsTo.of_eq rfl); (case c5 => decide); (case kB => exact locs rfl); (case c2 => exact rfl); (case c3 => exact rfl); (case c4 => exact rfl); k_whole; intro g' L' h' FG' F' N' B' X' T' kG'; (try dsimp only); (try k_lift B'); (try k_fold))
  k_steps
  (with_reducible rename NsObj _ _ => nsO)
  k_dflt (refine' set1_use ?F ?X ?N ?U ?m ?ne nsO ?k ?t ?_)
  (case F => k_asm); (case X => k_asm); (case N => k_asm); 
  (case ne => exact Ne.symm (by assumption))
  (case m => k_mem)
  (case U => exact UpdF.head (by intro p hp; rcases List.mem_cons.mp hp with rfl | hp; exact (by assumption); rw [List.mem_singleton.mp hp]; exact (by assumption)))
  (case k => decide); (case t => k_is); k_whole; intro h' od' tk' F' N'
  (try dsimp only)
  (try k_fold)
  k_steps
  refine hret _ _ _ _ (by k_asm) (by k_asm) (left_of (by assumption) (by assumption) (by assumption)) ⟨_, _, _, _, rfl, rfl⟩

theorem die_use {w : World} {p : Program} {loose : List Str} {mean : ExcName → Option Value} {mg mb : Str → Option Value} {v : Value}
    {dp un : Nat} {gd : Option (List Code)} {cn : Str} {cs : Scope} {a : Addr} {ccd : Value} {cl : List (Str × Addr)} {outer : List Env} {A₀ : Around} {base h₀ : Heap} {L : Addr} {m : Str → Option Value} {s : Shared} {Q E : Value → Shared → Prop} {news : Led}
    (B : Below A₀ base outer h₀) (F : Fr h₀ L s.heap m) (X : (written.heap_1 w.params).In h₀) (N : News h₀ L s.heap news) (T : Top p loose mean mg mb h₀) (hk : cs.kind = .function) (hdp : dp + 8 < recursionLimit) (hun : un + 80 < cLine)
    (h : ∀ h' e t d vs tk', Fr h₀ L h' m → News h₀ L h' ((e, exc0 (some d) t) :: (t, tupOf vs) :: news) → (∀ b o, s.heap.get? b = some o → h'.get? b = some o) → s.heap.get? e = none → s.heap.get? t = none → Q (.ref e) { s with heap := h', toks := tk' }) :
    wpAny (model PG w) (ktrTop dp un gd cn cs L a ccd cl outer) (call (.ref 58) [v]) Q E s := by
  obtain ⟨hp, gn, d, t, os⟩ := s
  have Xs := X.keeps F.keep
  have hC : hp.get? 58 = some _ := Xs _ _ (by k_is)
  refine wpAny_call (own_make PySem.F.excBase_Exception (fI := 55) (bm := [.ref 38, .type "Exception", .type "BaseException", .type "object"]) (by decide) (by decide) (by decide) hC (looks_findIn Xs (by k_is)) (fun self => bind_fn Xs self (by k_is)) (by rw [sizeLine_eq]; exact Nat.le_of_ble_eq_true rfl) ?_)
  obtain ⟨u, hu, eA⟩ := under_tc (dp := dp) (un := un) (gd := gd) (cn := cn) (cs := cs) (L := L) (a := a) (ccd := ccd) (cl := cl) (outer := outer) (v := [v]) (C := 58)
  rw [eA]
  have hsz : (hp.push (tupOf [v])).objs.size = hp.objs.size + 1 := Heap.size_push ..
  have F₁ := F.push (tupOf [v])
  have F₂ := F₁.push (excObj 58 hp.objs.size)
  have old : ∀ b o, hp.get? b = some o → ((hp.push (tupOf [v])).push (excObj 58 hp.objs.size)).get? b = some o := fun b o e => Heap.get?_push_of_some _ (Heap.get?_push_of_some _ e)
  have N₂ := News.push F₁ News.nil (excObj 58 hp.objs.size)
  rw [hsz] at N₂
  refine init55_spec (w := w) (t := hp.objs.size) (dp + 1) (un + u) gd cn cs a ccd cl outer A₀ base h₀ L m _ _ B F₂ X N₂ T hk (by omega) (by omega) fun r news' h' tk' F' N' G' hp' => ?_
  obtain ⟨t', dx, od, vs, rfl, rfl⟩ := hp'
  have none_of : ∀ b, ((hp.push (tupOf [v])).push (excObj 58 hp.objs.size)).get? b = none → hp.get? b = none := fun b e => by
    cases q : hp.get? b with
    | none => rfl
    | some o => rw [old b o q] at e; cases e
  have he0 : hp.get? (hp.objs.size + 1) = none := Heap.get?_none_of_le (Nat.le_succ _)
  have keep : ∀ b o, hp.get? b = some o → h'.get? b = some o := fun b o e => G'.1 b o (old b o e) fun q => by
    rw [show b = hp.objs.size + 1 from List.mem_singleton.mp q, he0] at e; cases e
  refine ⟨rfl, h h' _ t' dx vs tk' F' (fun p hp' => ?_) keep he0 ?_⟩
  · rcases List.mem_cons.mp hp' with rfl | hp'
    · exact N' _ (.tail _ (.tail _ (.head _)))
    · rcases List.mem_cons.mp hp' with rfl | hp'
      · exact N' _ (.tail _ (.head _))
      · exact ⟨keep _ _ (N p hp').1, (N p hp').2⟩
  · rcases G'.2 (t', tupOf vs) (.tail _ (.head _)) with q | q
    · have : t' = hp.objs.size + 1 := List.mem_singleton.mp q
      rw [this]; exact he0
    · exact none_of _ q
end

-- Fly
section
set_option maxRecDepth 100000
set_option maxHeartbeats 400000

/-- a Die is on its way up through the frames l; all that stood at S stands, but the frames' own cells -/
def Flew (base : Heap) (l : List Env) (e : Addr) (S h' : Heap) : Prop := ∃ t vs, RaisedS base S l e (.ref 58) t vs [] h' ∧ S.UpToSlots h'

theorem hide_sub {h : Heap} {as : List Addr} {b : Addr} {o : Obj} (e : (hideAll h as).get? b = some o) : h.get? b = some o := of_hideAll _ e

section
variable {M : Model} {A : Around} {E : Value → Shared → Prop} {s' : Shared} {base g S : Heap} {outer : List Env} {env : Env} {L e : Addr} {m : Str → Option Value} {Q : Unit → Shared → Prop}

theorem fly_first {t d : Addr} {vs : List Value} {news : Led} (K : Below A base outer g) (hf : env.frame = some L) (hke : env.scope.kind = .function) (F : Fr g L s'.heap m) (N : News g L s'.heap ((e, exc0 (some d) t) :: (t, tupOf vs) :: news))
    (hS : ∀ b o, S.get? b = some o → s'.heap.get? b = some o) (hL : S.get? L = none) (he : S.get? e = none) (ht : S.get? t = none)
    (hQ : ∀ h', Flew base outer e S h' → Q () { s' with heap := h' }) :
    wpAny M (A.deeper env) (leaving env (.ref e)) Q E s' := by
  have K' := pushX K F hf hke
  have Ne := N _ (.head _)
  have Nt := N _ (.tail _ (.head _))
  have hbe : base.get? e = none := fresh_of_stays K.stays Ne.2.2
  have hbt : base.get? t = none := fresh_of_stays K.stays Nt.2.2
  have hte : t ≠ e := fun q => by
    have := Nt.1; rw [q, Ne.1] at this; cases this
  generalize hfs : (env :: outer).filterMap (·.frame) = fs
  have hin : ∀ env' ∈ (env :: outer), ∀ b, env'.frame = some b → b ∈ e :: t :: fs := fun env' he' b hb => .tail _ (.tail _ (hfs ▸ List.mem_filterMap.mpr ⟨env', he', hb⟩))
  have frn : ∀ b ∈ fs, base.get? b = none ∧ ∃ o, s'.heap.get? b = some o ∧ ∀ vs, o.data ≠ .fields vs := fun b hb => K'.frames.mem (hfs ▸ hb)
  have st : base.StaysIn (hideAll s'.heap (e :: t :: fs)) := fun b o q => hideAll_get _ (K'.stays b o q) fun hm => by
    rcases List.mem_cons.mp hm with rfl | hm
    · rw [hbe] at q; cases q
    · rcases List.mem_cons.mp hm with rfl | hm
      · rw [hbt] at q; cases q
      · rw [(frn b hm).1] at q; cases q
  refine wpAny_leaving_firstW (base := hideAll s'.heap (e :: t :: fs)) (a0 := .ref t) (Around.frames_deeper K.stack) (funFrames_hide K'.frames hin) hf Ne.1 (fun b o q => of_hideAll _ q) (hideAll_none _ (.head _)) rfl rfl rfl fun h' hL' => ?_
  obtain ⟨k1, ⟨_, _, k2⟩, k3, k4⟩ := hL'
  refine hQ h' ⟨t, vs, ⟨⟨_, st, fun b o q nb => hideAll_get _ (hS b o q) fun hm => ?_, List.forall_mem_nil _, ⟨k1, hideAll_none _ (.head _), k2, k3⟩, hideAll_none _ (.tail _ (.head _))⟩, Heap.TupAt.of_slots ⟨_, _, Nt.1, rfl, rfl⟩ k4⟩, fun b o q hn => k4 b o (hS b o q) hn⟩
  rcases List.mem_cons.mp hm with rfl | hm
  · rw [he] at q; cases q
  · rcases List.mem_cons.mp hm with rfl | hm
    · rw [ht] at q; cases q
    · subst hfs
      rcases List.mem_filterMap.mp hm with ⟨env', he', hb⟩
      rcases List.mem_cons.mp he' with rfl | he'
      · rw [hf] at hb; cases hb; rw [hL] at q; cases q
      · exact nb (List.mem_filterMap.mpr ⟨env', he', hb⟩)

theorem fly_next {S₀ : Heap} (hst : A.frames = some outer) (hf : env.frame = some L) (R : Flew base (env :: outer) e S s'.heap) (hS : ∀ b o, S₀.get? b = some o → S.get? b = some o) (hL : S₀.get? L = none)
    (hQ : ∀ h', Flew base outer e S₀ h' → Q () { s' with heap := h' }) :
    wpAny M (A.deeper env) (leaving env (.ref e)) Q E s' := by
  obtain ⟨t, vs, ⟨⟨B, hB, hBG, _, hfl, hnew⟩, htup⟩, hU⟩ := R
  refine wpAny_leaves_onW (Around.frames_deeper hst) hf hfl fun h' x1 x2 => hQ h' ⟨t, vs, ⟨⟨B, hB, fun b o q nb => hBG b o (hS b o q) fun hm => ?_, List.forall_mem_nil _, x1, hnew⟩, htup.of_slots x2⟩, fun b o q hn => ?_⟩
  · rcases List.mem_filterMap.mp hm with ⟨env', he', hb⟩
    rcases List.mem_cons.mp he' with rfl | he'
    · rw [hf] at hb; cases hb; rw [hL] at q; cases q
    · exact nb (List.mem_filterMap.mpr ⟨env', he', hb⟩)
  · exact (hU.trans x2) b o (hS b o q) hn
end

/-- the same with the ledger that stood -/
theorem Flew.news {base S h' : Heap} {l : List Env} {e : Addr} {as : List Addr} {news : Led} (R : Flew base l e S h') (has : as = news.map (·.1)) (hN : ∀ p ∈ news, S.get? p.1 = some p.2 ∧ base.get? p.1 = none ∧ p.1 ∉ l.filterMap (·.frame)) :
    ∃ t vs, RaisedS base (hideAll S as) l e (.ref 58) t vs news h' ∧ (hideAll S as).UpToSlots h' := by
  obtain ⟨t, vs, ⟨⟨B, hB, hBG, _, hfl, hnew⟩, htup⟩, hU⟩ := R
  refine ⟨t, vs, ⟨⟨B, hB, fun b o q nb => hBG b o (of_hideAll _ q) nb, fun p hp => ⟨hBG _ _ (hN p hp).1 (hN p hp).2.2, hideAll_none _ (has ▸ List.mem_map_of_mem hp), (hN p hp).2.1⟩, hfl, hnew⟩, htup⟩, fun b o q hn => hU b o (of_hideAll _ q) hn⟩

/-- a call that may raise Die -/
def DoesR (b : Nat) (w : World) (p : Program) (loose : List Str) (mean : ExcName → Option Value) (mg mb : Str → Option Value) (f : Addr) (vs : List Value) (news : Led) (post : Value → Led → Prop) (rc : Prop) : Prop :=
  ∀ (dp un : Nat) (gd : Option (List Code)) (cn : Str) (cs : Scope) (a : Addr) (ccd : Value) (cl : List (Str × Addr)) (outer : List Env) (A₀ : Around) (base h₀ : Heap) (L : Addr) (m : Str → Option Value) (s : Shared) (R : Result → Shared → Prop),
    Below A₀ base outer h₀ → Fr h₀ L s.heap m → (written.heap_1 w.params).In h₀ → News h₀ L s.heap news → Top p loose mean mg mb h₀ → cs.kind = .function → dp + b < recursionLimit → un + 10 * b < cLine →
    (∀ r news' h' tk', Fr h₀ L h' m → News h₀ L h' news' → Left s.heap h' news news' → post r news' → R (.ok (.ret r)) { s with heap := h', toks := tk' }) →
    (∀ e h' tk', Flew base (envX cn cs L a ccd cl :: outer) e s.heap h' → rc → R (.error (.ref e)) { s with heap := h', toks := tk' }) →
    codeAny (model PG w) (ktrTop dp un gd cn cs L a ccd cl outer) (.call (.ref f) ⟨vs, []⟩) R s
theorem DoesR.go {b : Nat} {w : World} {p : Program} {loose : List Str} {mean : ExcName → Option Value} {mg mb : Str → Option Value} {f : Addr} {vs : List Value} {news : Led} {post : Value → Led → Prop} {rc : Prop}
    {dp un : Nat} {gd : Option (List Code)} {cn : Str} {cs : Scope} {a : Addr} {ccd : Value} {cl : List (Str × Addr)} {outer : List Env} {A₀ : Around} {base h₀ : Heap} {L : Addr} {m : Str → Option Value} {s : Shared} {Q E : Value → Shared → Prop}
    (D : DoesR b w p loose mean mg mb f vs news post rc) (B : Below A₀ base outer h₀) (F : Fr h₀ L s.heap m) (X : (written.heap_1 w.params).In h₀) (N : News h₀ L s.heap news) (T : Top p loose mean mg mb h₀) (hk : cs.kind = .function) (hdp : dp + b < recursionLimit) (hun : un + 10 * b < cLine)
    (k : ∀ r news' h' tk', Fr h₀ L h' m → News h₀ L h' news' → Left s.heap h' news news' → post r news' → Q r { s with heap := h', toks := tk' })
    (kr : ∀ e h' tk', Flew base (envX cn cs L a ccd cl :: outer) e s.heap h' → rc → E (.ref e) { s with heap := h', toks := tk' }) :
    wpAny (model PG w) (ktrTop dp un gd cn cs L a ccd cl outer) (call (.ref f) vs) Q E s := wpAny_call (D dp un gd cn cs a ccd cl outer A₀ base h₀ L m s _ B F X N T hk hdp hun k kr)

theorem sub_g {S g h' : Heap} {L : Addr} {m : Str → Option Value} {news : Led} (G : GSub S g (news.map (·.1))) (F : Fr g L h' m) (N : News g L h' news) (hs : ∀ p ∈ news, S.get? p.1 = some p.2) : ∀ b o, S.get? b = some o → h'.get? b = some o := fun b o e => by
  by_cases hb : b ∈ news.map (·.1)
  · obtain ⟨p, hp, rfl⟩ := List.mem_map.mp hb
    have := hs p hp; rw [e] at this; cases this
    exact (N p hp).1
  · exact F.keep b o (G b o e hb)
theorem fresh_L {S g h' : Heap} {L : Addr} {m : Str → Option Value} {news : Led} (G : GSub S g (news.map (·.1))) (F : Fr g L h' m) (N : News g L h' news) : S.get? L = none := by
  cases q : S.get? L with
  | none => rfl
  | some o =>
    have h1 := G L o q fun hm => by
      obtain ⟨p, hp, e⟩ := List.mem_map.mp hm
      exact (N p hp).2.1 e
    rw [kts_self F] at h1; cases h1
theorem fresh_in {S h : Heap} {b : Addr} (k : ∀ b o, S.get? b = some o → h.get? b = some o) (e : h.get? b = none) : S.get? b = none := kts_none k e

theorem die_up {M : Model} {A : Around} {E : Value → Shared → Prop} {s' : Shared} {base g S h1 : Heap} {outer : List Env} {env : Env} {L e t d : Addr} {m8 m9 : Str → Option Value} {Q : Unit → Shared → Prop} {news : Led} {vs : List Value}
    (N9 : News g L s'.heap ((e, exc0 (some d) t) :: (t, tupOf vs) :: news)) (K : ∀ b o, h1.get? b = some o → s'.heap.get? b = some o) (x1 : h1.get? e = none) (x2 : h1.get? t = none) (N8 : News g L h1 news) (F8 : Fr g L h1 m8) (F9 : Fr g L s'.heap m9)
    (G : GSub S g (news.map (·.1))) (B : Below A base outer g) (hf : env.frame = some L) (hke : env.scope.kind = .function) (hs : ∀ p ∈ news, S.get? p.1 = some p.2)
    (hQ : ∀ h', Flew base outer e S h' → Q () { s' with heap := h' }) :
    wpAny M (A.deeper env) (leaving env (.ref e)) Q E s' :=
  have hsub := sub_g G F8 N8 hs
  fly_first (S := S) B hf hke F9 N9 (fun b o q => K _ _ (hsub b o q)) (fresh_L G F8 N8) (fresh_in hsub x1) (fresh_in hsub x2) hQ
end

-- Comp
section
set_option maxRecDepth 100000
set_option maxHeartbeats 8000000

/-- the heap that a called body stands on: the caller's, its ledger hidden -/
abbrev under (H : Heap) (news : Led) : Heap := hideAll H (news.map (·.1))
/-- entering a def that has cells of its own: the body from a frame and a ledger of its own, over the ground named outright -/
theorem cells_core {prog : Program} {w : World} {A : Around} {s : Shared} {h₀ : Heap} {L : Addr} {news : Led} {R : Result → Shared → Prop} {name qual : Str} {params : Arguments} {body : List Stmt} {scope : Scope} {dV kV doc pm cdv ct oc : Value}
    {an od : Option Addr} {osl : Array (Option Value)} {f : Addr} {args : Args} {binds : List (Str × Value)} (N : News h₀ L s.heap news) (lim : s.heap.NoLimit)
    (ho : s.heap.get? f = some ⟨oc, od, .func (fnOf name qual params body scope dV kV doc pm an cdv ct), osl⟩) (hcd : s.heap.CodeRec cdv qual) (hroom : A.depth < recursionLimit)
    (hbind : BindsTo s (fnOf name qual params body scope dV kV doc pm an cdv ct) args binds) (hkind : (binds.all fun y => scope.names.lookup y.1 == some .local || scope.names.lookup y.1 == some .cell) = true)
    (hnd : ((cellsFrom 0 scope.names []).map (·.1)).Nodup)
    (h : ∀ h₁ tk cells, Fr (under s.heap news) s.heap.objs.size h₁ (bindL (envOfC qual scope s.heap.objs.size f cdv).kindOf binds fun _ => none) → News (under s.heap news) s.heap.objs.size h₁ (cells ++ news) →
      CellsAre (bindC (envOfC qual scope s.heap.objs.size f cdv).kindOf binds fun _ => none) (cellsFrom (s.heap.objs.size + 1) scope.names []) cells →
      wpAny (model prog w) (A.deeper (envOfC qual scope s.heap.objs.size f cdv)) (execs body (envOfC qual scope s.heap.objs.size f cdv))
        (fun fl s' => R (.ok (.ret (match fl with | .ret v => v | _ => .none))) s')
        (fun e s' => wpAny (model prog w) (A.deeper (envOfC qual scope s.heap.objs.size f cdv)) (leaving (envOfC qual scope s.heap.objs.size f cdv) e) (fun _ s'' => R (.error e) s'') (fun e' s'' => R (.error e') s'') s')
        { s with heap := h₁, toks := tk })
    (hco : scope.isCoroutine = false) (hgen : scope.isGenerator = false) (hk : scope.kind = .function) : codeAny (model prog w) A (.call (.ref f) args) R s := by
  refine codeAny_call_function hroom ho rfl hco hgen rfl hcd (hbind _ _ _ _ (wpAny_newFunctionEnv_cells hk (kindsX hkind _) fun env' he s' made => ?_))
  subst he
  obtain ⟨h₁, tk, rfl, _⟩ := made.done
  have stays := made.toInCall.keep
  have names := cellsFrom_names scope.names 0 (s.heap.objs.size + 1) [] [] rfl ▸ hnd
  obtain ⟨cells, NC, Y⟩ := Cl.news (h₀ := s.heap) (Nat.le_refl _) fun n c hm => ⟨made.cell n c (lookup_of_mem_nodup names hm), made.above n c hm⟩
  have both : News (under s.heap news) s.heap.objs.size h₁ (cells ++ news) := fun p hp => (List.mem_append.mp hp).elim
    (fun new => ⟨(NC p new).1, (NC p new).2.1, Option.eq_none_iff_forall_ne_some.mpr fun o q => nomatch (NC p new).2.2.symm.trans (of_hideAll _ q)⟩)
    (fun old => ⟨stays _ _ (N p old).1, Nat.ne_of_lt (Heap.lt_size (N p old).1), hideAll_none _ (List.mem_map_of_mem old)⟩)
  exact ⟨lim.keeps stays, codeAny_func (h h₁ tk cells ⟨made.toInCall.ns, fun b o q => stays b o (of_hideAll _ q), Nat.le_of_eq (hideAll_size _ _)⟩ both Y)⟩

/-- the same, what stands beside the ledger standing in the ground -/
theorem enter_cells {prog : Program} {w : World} {A₀ A : Around} {s : Shared} {base h₀ : Heap} {outer : List Env} {L : Addr} {m mg mb : Str → Option Value} {env : Env} {news : Led} {K : Frag} {p : Program} {loose : List Str} {mean : ExcName → Option Value}
    {R : Result → Shared → Prop} {name qual : Str} {params : Arguments} {body : List Stmt} {scope : Scope} {dV kV doc pm cdv ct oc : Value} {an od : Option Addr} {osl : Array (Option Value)} {f : Addr} {args : Args} {binds : List (Str × Value)}
    (B : Below A₀ base outer h₀) (F : Fr h₀ L s.heap m) (X₀ : K.In h₀) (N : News h₀ L s.heap news) (T : Top p loose mean mg mb h₀) (hA : A.frames = some (env :: outer)) (hf : env.frame = some L) (hke : env.scope.kind = .function)
    (ho : K.lookup f = some ⟨oc, od, .func (fnOf name qual params body scope dV kV doc pm an cdv ct), osl⟩) (hcd : codeIn K cdv qual = true) (hroom : A.depth < recursionLimit)
    (hbind : BindsTo s (fnOf name qual params body scope dV kV doc pm an cdv ct) args binds) (hkind : (binds.all fun y => scope.names.lookup y.1 == some .local || scope.names.lookup y.1 == some .cell) = true)
    (hnd : ((cellsFrom 0 scope.names []).map (·.1)).Nodup)
    (h : ∀ g L' h₁ tk cells, Fr h₀ L g m → Fr g L' h₁ (bindL (envOfC qual scope L' f cdv).kindOf binds fun _ => none) → News g L' h₁ (cells ++ news) →
      CellsAre (bindC (envOfC qual scope L' f cdv).kindOf binds fun _ => none) (cellsFrom (L' + 1) scope.names []) cells → Below A base (env :: outer) g → K.In g → Top p loose mean mg mb g → (∀ p ∈ news, p.1 < L') → GSub s.heap g (news.map (·.1)) →
      wpAny (model prog w) (A.deeper (envOfC qual scope L' f cdv)) (execs body (envOfC qual scope L' f cdv))
        (fun fl s' => LeaveK h₀ L m g R (match fl with | .ret v => v | _ => .none) s')
        (fun e s' => wpAny (model prog w) (A.deeper (envOfC qual scope L' f cdv)) (leaving (envOfC qual scope L' f cdv) e) (fun _ s'' => R (.error e) s'') (fun e' s'' => R (.error e') s'') s')
        { s with heap := h₁, toks := tk })
    (hco : scope.isCoroutine = false) (hgen : scope.isGenerator = false) (hk : scope.kind = .function) : codeAny (model prog w) A (.call (.ref f) args) R s := by
  obtain ⟨FG, BG, st, lv⟩ := groundX (R := R) B F N hA hf hke
  have Xs := X₀.keeps F.keep
  exact cells_core N (T.nolimit.keeps F.keep) (Xs _ _ ho) (codeRec_of Xs hcd) hroom hbind hkind hnd
    (fun h₁ tk cells F₁ N₁ Y => wpAny_mono (h _ _ h₁ tk cells FG F₁ N₁ Y BG (X₀.keeps st) (T.keeps st) (fun p hp => Heap.lt_size (N p hp).1) fun b o e n => hideAll_get _ e n) (fun _ _ hl => lv _ _ hl) fun _ _ y => y) hco hgen hk

section
variable {prog : Program} {w : World} {A : Around} {E : Value → Shared → Prop} {env : Env}

/-- a list comprehension whose element turns things: J holds from turn to turn; ch: what the element may turn -/
theorem comp_turns {elt iter : Expr} {x : Str} {px : Pos} {scope : Scope} {cl : List (Str × Addr)} {pos : Pos} {s₂ : Shared} {I : Addr} {fp wr ch : List Addr} {n : Nat} {P : Nat → Value → Prop}
    {St : Nat → Heap → Prop} {Q : Value → Shared → Prop} (W : Walks prog w A I fp wr n P St) (hsz : n ≤ sizeLine) (J : Nat → List Value → Heap → Prop)
    (hcell : ∀ y ∈ scope.names, y.2 ≠ .cell) (hkind : scope.kind = .function) (hx : scope.names.lookup x = some .local) (hst : St 0 s₂.heap) (hfp : ∀ b ∈ fp, b < s₂.heap.objs.size) (hch : ∀ b ∈ ch, b < s₂.heap.objs.size) (hcf : ∀ b ∈ fp, b ∉ ch)
    (hJ0 : J 0 [] s₂.heap)
    (hJ : ∀ i ys h h', J i ys h → (∀ b o, b < s₂.heap.objs.size → b ∉ wr → h.get? b = some o → h'.get? b = some o) → J i ys h')
    (turn : ∀ C i ys v s₃ m₃ E', i < n → s₂.heap.objs.size ≤ C → P i v → s₃.heap.Ns C m₃ → m₃ x = some v → J i ys s₃.heap → s₃.gens = s₂.gens → s₃.drawn = s₂.drawn → s₃.os = s₂.os →
      wpAny (model prog w) A (eval elt (compEnvC scope cl C env)) (fun y s₄ => ∃ h tk, s₄ = { s₃ with heap := h, toks := tk } ∧ GSub s₃.heap h ch ∧ J (i + 1) (ys ++ [y]) h) E' s₃)
    (done : ∀ D h' tk ys, s₂.heap.get? D = none → h'.PlainList D (List.toArray ys) → ys.length = n → J n ys h' → GSub s₂.heap h' (wr ++ ch) → Q (.ref D) { s₂ with heap := h', toks := tk }) :
    wpAny (model prog w) A (newList []) (fun acc s₃ => wpAny (model prog w) A (newFunctionEnv scope env.globals cl [] env.qual none .none (some env)) (fun cenv s₄ =>
      codeAny (model prog w) A (.compStart (.ListComp elt [⟨.Name x px, iter, [], 0⟩] scope pos) 0 (.ref I) acc { cenv with scope := relabel scope env }) (compPost (model prog w) A E none Q acc cenv.locals) s₄) E s₃) E s₂ := by
  refine wpAny_newObj_type (wpAny_newFunctionEnv hcell (by intro y hy; simp at hy) (fun h₁ hns₁ hsb₁ => ?_) hkind)
  dsimp only at hns₁ hsb₁ ⊢
  generalize hH2 : s₂.heap.push { cls := .type "list", dict := none, data := .seq ([] : List Value).toArray } = H2 at hns₁ hsb₁ ⊢
  have hC : H2.objs.size = s₂.heap.objs.size + 1 := by rw [← hH2, Heap.size_push]
  have low : ∀ b, b < s₂.heap.objs.size → b ≠ H2.objs.size ∧ b ≠ s₂.heap.objs.size := fun b hb => ⟨by rw [hC]; exact Nat.ne_of_lt (Nat.lt_succ_of_lt hb), Nat.ne_of_lt hb⟩
  have hDC : s₂.heap.objs.size ≠ H2.objs.size := by rw [hC]; exact Nat.ne_of_lt (Nat.lt_succ_self _)
  have hDf : ∀ b ∈ fp, b ≠ s₂.heap.objs.size ∧ b ≠ H2.objs.size := fun b hb => ⟨(low b (hfp b hb)).2, (low b (hfp b hb)).1⟩
  have hwr : ∀ b ∈ wr, b ∈ fp := W.sub
  have fresh : ∀ a, s₂.heap.objs.size ≤ a → s₂.heap.get? a = none := fun a ha => by
    cases e : s₂.heap.get? a with
    | none => rfl
    | some o' => exact absurd (Heap.lt_size e) (Nat.not_lt.mpr ha)
  have old : ∀ b o, s₂.heap.get? b = some o → h₁.get? b = some o := fun b o e => hsb₁.extBut b o (low b (Heap.lt_size e)).1 (Heap.get?_push_of_some _ (hH2 ▸ Heap.get?_push_of_some _ e))
  have up : ∀ {h h' : Heap}, (∀ b o, h.get? b = some o → h'.get? b = some o) → ∀ b o, b < s₂.heap.objs.size → b ∉ wr → h.get? b = some o → h'.get? b = some o := fun k b o _ _ e => k b o e
  have loop : codeAny (model prog w) A (.compLoop (.ListComp elt [⟨.Name x px, iter, [], 0⟩] scope pos) 0 (.ref I) (.ref s₂.heap.objs.size) (compEnvC scope cl H2.objs.size env))
        (compPost (model prog w) A E none Q (.ref s₂.heap.objs.size) H2.objs.size) { s₂ with heap := h₁, toks := s₂.toks + ([] : List (Str × Value)).length } := by
    refine codeAny_compLoop_list (fun k s' => ∃ i h tk ys m', s' = { s₂ with heap := h, toks := tk } ∧ k = n + 1 - i ∧ i ≤ n ∧ St i h ∧ h.PlainList s₂.heap.objs.size (List.toArray ys) ∧ ys.length = i ∧ h.Ns H2.objs.size m' ∧ J i ys h ∧ GSub s₂.heap h (wr ++ ch)) ?_ (n + 1)
      ⟨0, h₁, _, [], _, rfl, rfl, Nat.zero_le _, W.frame _ _ _ hst fun b _ o e => old b o e, ⟨_, hsb₁.extBut _ _ hDC (Heap.get?_push_of_some _ (hH2 ▸ Heap.get?_push_size _ rfl))⟩, rfl, hns₁, hJ _ _ _ _ hJ0 (up old), fun b o e _ => old b o e⟩
    rintro k s' ⟨i, h, tk, ys, m', rfl, rfl, hi, hSt, hacc, hlen, hNs, hJi, hG⟩
    by_cases hlt : i < n
    · refine W.item i _ _ _ hlt hSt fun v h₂ tk₂ hPv hSt₂ hk₂ => ?_
      have hCw : H2.objs.size ∉ wr := fun q => (hDf _ (hwr _ q)).2 rfl
      have hDw : s₂.heap.objs.size ∉ wr := fun q => (hDf _ (hwr _ q)).1 rfl
      have hCc : H2.objs.size ∉ ch := fun q => (low _ (hch _ q)).1 rfl
      have hDc : s₂.heap.objs.size ∉ ch := fun q => (low _ (hch _ q)).2 rfl
      refine wpAny_assign_Name (wpAny_storeName_local (env := compEnvC scope cl H2.objs.size env) (lookup_relabel_local hx) (hNs.at' fun o e => hk₂ _ o hCw e) (fun h₃ hn₃ hs₃ => ?_) (by simp [compEnvC, relabel, hkind]))
      have hk₃ : ∀ b o, b ≠ H2.objs.size → b ∉ wr → h.get? b = some o → h₃.get? b = some o := fun b o hbC hbw e => hs₃.extBut b o hbC (hk₂ b o hbw e)
      refine wpAny_mono (turn H2.objs.size i ys v _ _ _ hlt (by rw [hC]; exact Nat.le_succ _) hPv hn₃ (by simp) (hJ _ _ _ _ hJi fun b o hb hbw e => hk₃ b o (low b hb).1 hbw e) rfl rfl rfl) (fun y s₄ hy => ?_) fun _ _ e => e
      obtain ⟨h₄, tk₄, rfl, hG₄, hJ₄⟩ := hy
      have hacc₄ : h₄.PlainList s₂.heap.objs.size (List.toArray ys) := hacc.at fun o e => hG₄ _ o (hk₃ _ o hDC hDw e) hDc
      have hSt₄ : St (i + 1) h₄ := W.frame _ _ _ hSt₂ fun b hb o e => hG₄ _ o (hs₃.extBut b o (hDf b hb).2 e) (hcf b hb)
      have hNs₄ := hn₃.at' fun o e => hG₄ _ o e hCc
      refine wpAny_list_append_plain hacc₄ (fun h₅ hl₅ hs₅ => ?_) (by rw [List.size_toArray, hlen]; exact Nat.le_trans hi hsz)
      have hk₅ : ∀ b o, b ≠ s₂.heap.objs.size → h₄.get? b = some o → h₅.get? b = some o := fun b o hb e => hs₅.extBut b o hb e
      refine ⟨n + 1 - (i + 1), by omega, i + 1, h₅, _, ys ++ [y], _, rfl, rfl, hlt, W.frame _ _ _ hSt₄ fun b hb o e => hk₅ b o (hDf b hb).1 e, by simpa using hl₅, by simp [hlen],
        hNs₄.at' fun o e => hk₅ _ o (Ne.symm hDC) e, hJ _ _ _ _ hJ₄ fun b o hb _ e => hk₅ b o (low b hb).2 e, fun b o e hb => ?_⟩
      have hlow := low b (Heap.lt_size e)
      exact hk₅ b o hlow.2 (hG₄ b o (hk₃ b o hlow.1 (fun q => hb (List.mem_append_left _ q)) (hG b o e hb)) fun q => hb (List.mem_append_right _ q))
    · obtain rfl : i = n := Nat.le_antisymm hi (Nat.not_lt.mp hlt)
      refine W.done _ _ _ hSt fun h₂ tk₂ hk₂ => ?_
      have hCw : H2.objs.size ∉ wr := fun q => (hDf _ (hwr _ q)).2 rfl
      have hDw : s₂.heap.objs.size ∉ wr := fun q => (hDf _ (hwr _ q)).1 rfl
      refine ⟨_, hNs.at' fun o e => hk₂ _ o hCw e, fun h₃ hs₃ => done _ h₃ _ ys (fresh _ (Nat.le_refl _)) (hacc.at fun o e => hs₃.extBut _ o hDC (hk₂ _ o hDw e)) hlen (hJ _ _ _ _ hJi fun b o hb hbw e => hs₃.extBut b o (low b hb).1 (hk₂ b o hbw e)) fun b o e hb => ?_⟩
      exact hs₃.extBut b o (low b (Heap.lt_size e)).1 (hk₂ b o (fun q => hb (List.mem_append_left _ q)) (hG b o e hb))
  exact codeAny_compStart_list loop (W.self 0 _ _ _ (W.frame _ _ _ hst fun b _ o e => old b o e) loop)

/-- the block of a comprehension, its iterator at hand -/
def CompNow (prog : Program) (w : World) (A : Around) (E : Value → Shared → Prop) (env : Env) (elt iter : Expr) (x : Str) (px : Pos) (scope : Scope) (cl : List (Str × Addr)) (pos : Pos) (Q : Value → Shared → Prop) (it : Value) (s₂ : Shared) : Prop :=
  wpAny (model prog w) A (newList []) (fun acc s₃ => wpAny (model prog w) A (newFunctionEnv scope env.globals cl [] env.qual none .none (some env)) (fun cenv s₄ =>
      codeAny (model prog w) A (.compStart (.ListComp elt [⟨.Name x px, iter, [], 0⟩] scope pos) 0 it acc { cenv with scope := relabel scope env }) (compPost (model prog w) A E none Q acc cenv.locals) s₄) E s₃) E s₂
theorem comp_own {elt iter : Expr} {x : Str} {px : Pos} {scope : Scope} {cl : List (Str × Addr)} {pos : Pos} {Q : Value → Shared → Prop} {s : Shared}
    (hclos : closureFor scope env = pure cl) (hkind : scope.kind = .function) (hnames : ∀ y ∈ scope.names, y.2 = .local → scope.names.lookup y.1 = some .local)
    (h : wpAny (model prog w) A (eval iter env) (fun xv s₁ => wpAny (model prog w) A (pyIter xv) (fun it s₂ => CompNow prog w A E env elt iter x px scope cl pos Q it s₂) E s₁) E s)
    (hs : ∀ x, foldedSetIterable iter env x = pure x := by intro _; rfl) :
    wpAny (model prog w) A (eval (.ListComp elt [⟨.Name x px, iter, [], 0⟩] scope pos) env) Q E s := by
  rw [eval_ListComp]
  exact wpAny_comprehension_free (use := none) rfl hs hclos hkind hnames h

/-- a list comprehension over range(n) -/
theorem comp_range {elt iter : Expr} {x : Str} {px : Pos} {scope : Scope} {cl : List (Str × Addr)} {pos : Pos} {Q : Value → Shared → Prop} {s : Shared} {r : Addr} {b₀ : Int} {t₀ u₀ v₀ : Tok} {ch : List Addr} (n : Nat) (J : Nat → List Value → Heap → Prop)
    (hh : A.handled = none) (hr : IsRange s.heap r 0 b₀ 1 t₀ u₀ v₀) (hb : b₀ = (n : Int)) (hn : n ≤ 1000)
    (hcell : ∀ y ∈ scope.names, y.2 ≠ .cell) (hkind : scope.kind = .function) (hx : scope.names.lookup x = some .local) (hch : ∀ b ∈ ch, b < s.heap.objs.size)
    (hJ0 : J 0 [] s.heap)
    (hJ : ∀ i ys h h', J i ys h → (∀ b o, b < s.heap.objs.size → h.get? b = some o → h'.get? b = some o) → J i ys h')
    (turn : ∀ C i ys s₃ E', i < n → s.heap.objs.size ≤ C → J i ys s₃.heap → s₃.gens = s.gens → s₃.drawn = s.drawn → s₃.os = s.os →
      wpAny (model prog w) A (eval elt (compEnvC scope cl C env)) (fun y s₄ => ∃ h tk, s₄ = { s₃ with heap := h, toks := tk } ∧ GSub s₃.heap h ch ∧ J (i + 1) (ys ++ [y]) h) E' s₃)
    (done : ∀ D h' tk ys, s.heap.get? D = none → h'.PlainList D (List.toArray ys) → ys.length = n → J n ys h' → GSub s.heap h' ch → Q (.ref D) { s with heap := h', toks := tk }) :
    wpAny (model prog w) A (pyIter (.ref r)) (fun it s₂ => CompNow prog w A E env elt iter x px scope cl pos Q it s₂) E s := by
  subst hb
  have hsz : Builtin.Range.rangeSize 0 (n : Int) 1 = (n : Int) := by
    unfold Builtin.Range.rangeSize
    simp
    try omega
  have hfit : Builtin.Range.rangeFitsLong (n : Int) = true := by unfold Builtin.Range.rangeFitsLong; simp; omega
  refine wpAny_pyIter_range hr (by unfold Builtin.Range.small; simp [hsz, hfit]; decide) ?_
  have old : ∀ b o, s.heap.get? b = some o → (s.heap.push { cls := .type "range_iterator", data := .fields #[rawInt 0, rawInt (Builtin.Range.rangeSize 0 (n : Int) 1), rawInt 1] }).get? b = some o := fun b o e => Heap.get?_push_of_some _ e
  have low : ∀ b, b < s.heap.objs.size → b ∉ [s.heap.objs.size] := fun b hb q => Nat.ne_of_lt hb (List.mem_singleton.mp q)
  refine comp_turns (W := (Walks.range hh s.heap.objs.size 0 1 n).bound) (ch := ch) (by rw [sizeLine_eq]; omega) J hcell hkind hx ?_ ?_ ?_ ?_ ?_ ?_ ?_ ?_
  · show IsRangeIter _ _ _ _ _
    rw [hsz]
    simpa using Heap.get?_push_size _ rfl
  · intro b hb
    rw [List.mem_singleton.mp hb]
    show _ < (Heap.push _ _).objs.size
    rw [Heap.size_push]; exact Nat.lt_succ_self _
  · intro b hb
    show _ < (Heap.push _ _).objs.size
    rw [Heap.size_push]; exact Nat.lt_succ_of_lt (hch b hb)
  · intro b hb q
    rw [List.mem_singleton.mp hb] at q
    exact Nat.lt_irrefl _ (hch _ q)
  · exact hJ _ _ _ _ hJ0 fun b o _ e => old b o e
  · intro i ys h h' hj hk
    exact hJ _ _ _ _ hj fun b o hb e => hk b o (by show _ < (Heap.push _ _).objs.size; rw [Heap.size_push]; exact Nat.lt_succ_of_lt hb) (low b hb) e
  · intro C i ys v s₃ m₃ E' hi hC hP hns hm hj h1 h2 h3
    exact turn C i ys s₃ E' hi (Nat.le_trans (by show _ ≤ (Heap.push _ _).objs.size; rw [Heap.size_push]; exact Nat.le_succ _) hC) hj h1 h2 h3
  · intro D h' tk ys hD hpl hlen hj hG
    refine done D h' tk ys ?_ hpl hlen hj fun b o e hb => hG b o (old b o e) fun q => ?_
    · cases q : s.heap.get? D with
      | none => rfl
      | some o => exact absurd (hD.symm.trans (old _ _ q)) (fun z => nomatch z)
    · rcases List.mem_append.mp q with q | q
      · exact low b (Heap.lt_size e) q
      · exact hb q

/-- a list comprehension over a text's signs, its element making nothing old anew -/
theorem comp_text {elt iter : Expr} {x : Str} {px : Pos} {scope : Scope} {cl : List (Str × Addr)} {pos : Pos} {Q : Value → Shared → Prop} {s : Shared} {xt : Str} {tt : Tok} (ok : Nat → Value → Prop)
    (hh : A.handled = none) (hn : xt.cps.size ≤ 1000)
    (hcell : ∀ y ∈ scope.names, y.2 ≠ .cell) (hkind : scope.kind = .function) (hx : scope.names.lookup x = some .local)
    (turn : ∀ C (i c : Nat) u s₃ m₃ E', xt.cps[i]? = some c → s.heap.objs.size ≤ C → s₃.heap.Ns C m₃ → m₃ x = some (.str ⟨#[c]⟩ u) → (∀ b o, s.heap.get? b = some o → s₃.heap.get? b = some o) →
      wpAny (model prog w) A (eval elt (compEnvC scope cl C env)) (fun y s₄ => Hold (∃ h tk, s₄ = { s₃ with heap := h, toks := tk } ∧ (∀ b o, s₃.heap.get? b = some o → h.get? b = some o) ∧ ok c y)) E' s₃)
    (done : ∀ D c h' tk ys, s.heap.get? D = none → h'.get? D = some (listOf (List.toArray ys) c) → ys.length = xt.cps.size → (∀ (i c : Nat) (y : Value), xt.cps[i]? = some c → ys[i]? = some y → ok c y) → (∀ b o, s.heap.get? b = some o → h'.get? b = some o) → Q (.ref D) { s with heap := h', toks := tk }) :
    wpAny (model prog w) A (pyIter (.str xt tt)) (fun it s₂ => CompNow prog w A E env elt iter x px scope cl pos Q it s₂) E s := by
  refine wpAny_pyIter_str fun oI St hW hst => ?_
  have old : ∀ b o, s.heap.get? b = some o → (s.heap.push oI).get? b = some o := fun b o e => Heap.get?_push_of_some _ e
  have low : ∀ b, b < s.heap.objs.size → b ∉ [s.heap.objs.size] := fun b hb q => Nat.ne_of_lt hb (List.mem_singleton.mp q)
  have up : ∀ b, b < s.heap.objs.size → b < (s.heap.push oI).objs.size := fun b hb => by rw [Heap.size_push]; exact Nat.lt_succ_of_lt hb
  refine comp_turns (W := hW A hh) (ch := []) (by rw [sizeLine_eq]; omega) (fun i ys h => ys.length = i ∧ (∀ b o, s.heap.get? b = some o → h.get? b = some o) ∧ ∀ (j c : Nat) (y : Value), xt.cps[j]? = some c → ys[j]? = some y → ok c y) hcell hkind hx hst ?_ (fun b hb => nomatch hb) (fun b _ hb => nomatch hb) ⟨rfl, old, fun j c y _ hy => by simp at hy⟩ ?_ ?_ ?_
  · intro b hb
    rw [List.mem_singleton.mp hb]
    show _ < (Heap.push _ _).objs.size
    rw [Heap.size_push]; exact Nat.lt_succ_self _
  · rintro i ys h h' ⟨hl, hj, hok⟩ hk
    exact ⟨hl, fun b o e => hk b o (up b (Heap.lt_size e)) (low b (Heap.lt_size e)) (hj b o e), hok⟩
  · rintro C i ys v s₃ m₃ E' hi hC ⟨c, u, hc, rfl⟩ hns hm ⟨hl, hj, hok⟩ _ _ _
    refine wpAny_mono (turn C i c u s₃ m₃ E' hc (Nat.le_trans (by show _ ≤ (Heap.push _ _).objs.size; rw [Heap.size_push]; exact Nat.le_succ _) hC) hns hm hj) (fun y s₄ hy => ?_) fun _ _ e => e
    obtain ⟨h, tk, rfl, hG, hy⟩ := hy
    refine ⟨h, tk, rfl, fun b o e _ => hG b o e, by simp [hl], fun b o e => hG b o (hj b o e), fun j c' y' hc' hy' => ?_⟩
    by_cases hji : j < ys.length
    · rw [List.getElem?_append_left hji] at hy'
      exact hok j c' y' hc' hy'
    · by_cases hje : j = ys.length
      · subst hje
        rw [hl, hc] at hc'
        simp at hy'
        cases hc'; subst hy'; exact hy
      · rw [List.getElem?_eq_none (by simp; omega)] at hy'; cases hy'
  · rintro D h' tk ys hD ⟨c, hpl⟩ hlen ⟨_, hj, hok⟩ hG
    refine done D c h' tk ys ?_ hpl hlen hok hj
    cases q : s.heap.get? D with
    | none => rfl
    | some o => exact absurd (hD.symm.trans (old _ _ q)) (fun z => nomatch z)
end
end

-- Turn
section
set_option maxRecDepth 100000
set_option maxHeartbeats 1000000

/-- what stands when frames may have been turned -/
def LeftT (fs : List Addr) (H h' : Heap) (news news' : Led) : Prop :=
  (∀ b o, H.get? b = some o → b ∉ news.map (·.1) → ∃ sl, h'.get? b = some { o with slots := sl } ∧ (b ∉ fs → h'.get? b = some o)) ∧ ∀ p ∈ news', p.1 ∈ news.map (·.1) ∨ H.get? p.1 = none

abbrev frs (l : List Env) : List Addr := l.filterMap (·.frame)

structure Ground (w : World) (p : Program) (loose : List Str) (mean : ExcName → Option Value) (mg mb : Str → Option Value) (A₀ : Around) (base : Heap) (outer : List Env) (g : Heap) : Prop where
  B : Below A₀ base outer g
  XB : (written.heap_1 w.params).In base
  TB : Top p loose mean mg mb base
  D : KtsDicts (frs outer) g
section
variable {w : World} {p : Program} {loose : List Str} {mean : ExcName → Option Value} {mg mb : Str → Option Value} {A₀ A : Around} {base h₀ h' g' : Heap} {outer : List Env} {L L' : Addr} {m m' : Str → Option Value} {H : Heap} {news news' : Led} {env : Env}
theorem Ground.X (G : Ground w p loose mean mg mb A₀ base outer h₀) : (written.heap_1 w.params).In h₀ := G.XB.keeps G.B.stays
theorem Ground.T (G : Ground w p loose mean mg mb A₀ base outer h₀) : Top p loose mean mg mb h₀ := G.TB.keeps G.B.stays
theorem Ground.turn (G : Ground w p loose mean mg mb A₀ base outer h₀) (T : KtsTurn (frs outer) h₀ g') : Ground w p loose mean mg mb A₀ base outer g' :=
  ⟨⟨G.B.stack, fun b o e => T.other b o (G.B.stays b o e) (fun hm => by
    rw [(G.B.frames.mem hm).1] at e
    cases e), G.B.frames.of_keeps fun b o e _ => by
    obtain ⟨sl', hs'⟩ := T.up e
    exact ⟨_, hs', rfl⟩⟩, G.XB, G.TB, G.D.turn T⟩

theorem frs_cons (hf : env.frame = some L) : frs (env :: outer) = L :: frs outer := by
  unfold frs
  rw [List.filterMap_cons, hf]

/-- a frame over the ground, its ledger hidden -/
theorem fr_hide {g h : Heap} {L : Addr} {m : Str → Option Value} {news : Led} (F : Fr g L h m) (N : News g L h news) : Fr g L (hideAll h (news.map (·.1))) m := by
  have far : ∀ b, (b = L ∨ ∃ o, g.get? b = some o) → b ∉ news.map (·.1) := by
    rintro b hb hm
    obtain ⟨p, hp, rfl⟩ := List.mem_map.mp hm
    rcases hb with e | ⟨o, e⟩
    · exact (N p hp).2.1 e
    · exact nomatch (N p hp).2.2.symm.trans e
  obtain ⟨oL, es, ep, hL, r⟩ := F.ns
  exact ⟨⟨oL, es, ep, hideAll_get _ hL (far L (.inl rfl)), r⟩, fun b o e => hideAll_get _ (F.keep b o e) (far b (.inr ⟨o, e⟩)), F.above⟩

/-- the ground that a called body stands on -/
theorem Ground.push (G : Ground w p loose mean mg mb A₀ base outer h₀) (F : Fr h₀ L H m) (N : News h₀ L H news) (hA : A.frames = some (env :: outer)) (hf : env.frame = some L) (hke : env.scope.kind = .function) :
    Ground w p loose mean mg mb A base (env :: outer) (hideAll H (news.map (·.1))) := by
  obtain ⟨FG, BG, st, _⟩ := groundX (R := fun _ _ => True) (s := { heap := H }) G.B F N hA hf hke
  refine ⟨BG, G.XB, G.TB, ?_⟩
  rw [frs_cons hf]
  intro b hb
  rcases List.mem_cons.mp hb with rfl | hb
  · obtain ⟨oL, es, ep, hL, hLd, _⟩ := FG.ns
    exact ⟨oL, es, ep, hL, hLd⟩
  · obtain ⟨o, es, n, ho, hd⟩ := G.D b hb
    exact ⟨o, es, n, st b o ho, hd⟩

theorem turn_back (G : Ground w p loose mean mg mb A₀ base outer h₀) (F : Fr h₀ L H m) (N : News h₀ L H news) (T' : KtsTurn (L :: frs outer) (hideAll H (news.map (·.1))) g') (F' : Fr g' L' h' m') (N' : News g' L' h' news') :
    ∃ h₀', KtsTurn (frs outer) h₀ h₀' ∧ Fr h₀' L h' m ∧ News h₀' L h' news' ∧ Ground w p loose mean mg mb A₀ base outer h₀' ∧ LeftT (L :: frs outer) H h' news news' := by
  have FG := fr_hide F N
  have st := FG.keep
  obtain ⟨oL, es, ep, hLg, hLd, hLk, hLf⟩ := FG.ns
  have nL₀ : h₀.get? L = none := kts_self F
  obtain ⟨sl, hs⟩ := T'.up hLg
  obtain ⟨T₁, S₁⟩ := kts_turn_at (h := h') (fs := frs outer) (g := h₀)
    (fun b hb => by
      obtain ⟨_, o, ho', _⟩ := G.B.frames.mem hb
      exact ⟨o, ho'⟩)
    (fun b o e nmem => F'.keep b o (T'.other b o (st b o e) (fun q => by
      rcases List.mem_cons.mp q with z | z
      · rw [z, nL₀] at e
        cases e
      · exact nmem z)))
    (fun b o e hm => by
      obtain ⟨sl', hs'⟩ := T'.up (st b o e)
      exact ⟨sl', F'.keep _ _ hs'⟩)
  refine ⟨_, T₁, ⟨⟨_, es, ep, F'.keep _ _ hs, hLd, hLk, hLf⟩, S₁, by rw [T₁.size]; exact F.above⟩, fun p hp => ⟨(N' p hp).1, fun q => ?_, ?_⟩, G.turn T₁, fun b o e nb => ?_, fun p hp => ?_⟩
  · have := (N' p hp).2.2; rw [q, hs] at this; cases this
  · refine T₁.none_ _ ?_
    cases q : h₀.get? p.1 with
    | none => rfl
    | some o =>
      obtain ⟨sl', hs'⟩ := T'.up (st _ _ q)
      have := (N' p hp).2.2
      rw [hs'] at this
      cases this
  · have hg := hideAll_get (news.map (·.1)) e nb
    obtain ⟨sl', hs'⟩ := T'.up hg
    exact ⟨sl', F'.keep _ _ hs', fun nf => F'.keep _ _ (T'.other b o hg nf)⟩
  · by_cases h : p.1 ∈ news.map (·.1)
    · exact .inl h
    · refine .inr ?_
      cases q : H.get? p.1 with
      | none => rfl
      | some o =>
        obtain ⟨sl', hs'⟩ := T'.up (hideAll_get (news.map (·.1)) q h)
        have := (N' p hp).2.2
        rw [hs'] at this
        cases this
end

/-- a call that may turn the frames below -/
def DoesT (b : Nat) (w : World) (p : Program) (loose : List Str) (mean : ExcName → Option Value) (mg mb : Str → Option Value) (f : Addr) (vs : List Value) (news : Led) (post : Value → Led → Prop) : Prop :=
  ∀ (dp un : Nat) (gd : Option (List Code)) (cn : Str) (cs : Scope) (a : Addr) (ccd : Value) (cl : List (Str × Addr)) (outer : List Env) (A₀ : Around) (base h₀ : Heap) (L : Addr) (m : Str → Option Value) (s : Shared) (R : Result → Shared → Prop),
    Ground w p loose mean mg mb A₀ base outer h₀ → Fr h₀ L s.heap m → News h₀ L s.heap news → cs.kind = .function → dp + b < recursionLimit → un + 10 * b < cLine →
    (∀ r news' h' tk' h₀', KtsTurn (frs outer) h₀ h₀' → Fr h₀' L h' m → News h₀' L h' news' → Ground w p loose mean mg mb A₀ base outer h₀' → LeftT (L :: frs outer) s.heap h' news news' → post r news' → R (.ok (.ret r)) { s with heap := h', toks := tk' }) →
    codeAny (model PG w) (ktrTop dp un gd cn cs L a ccd cl outer) (.call (.ref f) ⟨vs, []⟩) R s

def EndT (w : World) (p : Program) (loose : List Str) (mean : ExcName → Option Value) (mg mb : Str → Option Value) (A₀ : Around) (base : Heap) (outer : List Env) (h₀ : Heap) (L : Addr) (m : Str → Option Value) (H : Heap) (news : Led) (g : Heap) (R : Result → Shared → Prop) (v : Value) (s' : Shared) : Prop :=
  ∃ g' L' m' news', KtsTurn (L :: frs outer) g g' ∧ Fr g' L' s'.heap m' ∧ News g' L' s'.heap news' ∧
    ∀ h₀', KtsTurn (frs outer) h₀ h₀' → Fr h₀' L s'.heap m → News h₀' L s'.heap news' → Ground w p loose mean mg mb A₀ base outer h₀' → LeftT (L :: frs outer) H s'.heap news news' → R (.ok (.ret v)) s'

section
variable {w : World} {A₀ A : Around} {s : Shared} {base h₀ : Heap} {outer : List Env} {L : Addr} {m mg mb : Str → Option Value} {env : Env} {news : Led} {p : Program} {loose : List Str} {mean : ExcName → Option Value}
    {R : Result → Shared → Prop} {name qual : Str} {params : Arguments} {body : List Stmt} {scope : Scope} {dV kV doc pm cdv ct oc : Value} {an od : Option Addr} {osl : Array (Option Value)} {f : Addr} {args : Args} {binds : List (Str × Value)}
theorem enter_turn
    (G₀ : Ground w p loose mean mg mb A₀ base outer h₀) (F : Fr h₀ L s.heap m) (N : News h₀ L s.heap news) (hA : A.frames = some (env :: outer)) (hf : env.frame = some L) (hke : env.scope.kind = .function)
    (ho : (written.heap_1 w.params).lookup f = some ⟨oc, od, .func (fnOf name qual params body scope dV kV doc pm an cdv ct), osl⟩) (hcd : codeIn (written.heap_1 w.params) cdv qual = true) (hroom : A.depth < recursionLimit)
    (hbind : BindsTo s (fnOf name qual params body scope dV kV doc pm an cdv ct) args binds) (hloc : ∀ y ∈ binds, scope.names.lookup y.1 = some .local)
    (h : ∀ g L' h₁, Fr h₀ L g m → Fr g L' h₁ (fun y => binds.reverse.lookup y) → News g L' h₁ news → Ground w p loose mean mg mb A base (env :: outer) g → GSub s.heap g (news.map (·.1)) →
      wpAny (model PG w) (A.deeper (envOf qual scope L' f cdv)) (execs body (envOf qual scope L' f cdv))
        (fun fl s' => EndT w p loose mean mg mb A₀ base outer h₀ L m s.heap news g R (match fl with | .ret v => v | _ => .none) s')
        (fun e s' => wpAny (model PG w) (A.deeper (envOf qual scope L' f cdv)) (leaving (envOf qual scope L' f cdv) e) (fun _ s'' => R (.error e) s'') (fun e' s'' => R (.error e') s'') s')
        { s with heap := h₁, toks := s.toks + binds.length })
    (hco : scope.isCoroutine = false) (hgen : scope.isGenerator = false) (hk : scope.kind = .function)
    (hcell : ∀ x ∈ scope.names, x.2 ≠ .cell) : codeAny (model PG w) A (.call (.ref f) args) R s := by
  obtain ⟨FG, BG, st, lv⟩ := groundX (R := R) G₀.B F N hA hf hke
  refine codeAny_call_def (fd := fnX name qual params body scope [] dV kV doc pm an cdv ct) (body := body) (binds := binds) hroom ((G₀.X.keeps F.keep) _ _ ho) rfl (G₀.T.nolimit.keeps F.keep) (codeRec_of (G₀.X.keeps F.keep) hcd) rfl hbind hcell hloc (fun h₁ hns hk₁ => ?_) hco hgen hk
  exact wpAny_mono (h _ s.heap.objs.size h₁ FG ⟨hns, fun b o e => hk₁ b o (of_hideAll _ e), Nat.le_of_eq (hideAll_size _ _)⟩
    (fun p hp => ⟨hk₁ _ _ (N p hp).1, Nat.ne_of_lt (Heap.lt_size (N p hp).1), hideAll_none _ (List.mem_map_of_mem hp)⟩) (G₀.push F N hA hf hke) (fun b o e n => hideAll_get _ e n)) (fun fl s' hl => (by
      obtain ⟨g', L', m', news', T', F', N', k⟩ := hl
      obtain ⟨h₀', a1, a2, a3, a4, a5⟩ := turn_back G₀ F N T' F' N'
      exact k h₀' a1 a2 a3 a4 a5)) fun _ _ y => y
theorem enter_turnC
    (G₀ : Ground w p loose mean mg mb A₀ base outer h₀) (F : Fr h₀ L s.heap m) (N : News h₀ L s.heap news) (hA : A.frames = some (env :: outer)) (hf : env.frame = some L) (hke : env.scope.kind = .function)
    (ho : (written.heap_1 w.params).lookup f = some ⟨oc, od, .func (fnOf name qual params body scope dV kV doc pm an cdv ct), osl⟩) (hcd : codeIn (written.heap_1 w.params) cdv qual = true) (hroom : A.depth < recursionLimit)
    (hbind : BindsTo s (fnOf name qual params body scope dV kV doc pm an cdv ct) args binds) (hkind : (binds.all fun y => scope.names.lookup y.1 == some .local || scope.names.lookup y.1 == some .cell) = true)
    (hnd : ((cellsFrom 0 scope.names []).map (·.1)).Nodup)
    (h : ∀ g L' h₁ tk cells, Fr h₀ L g m → Fr g L' h₁ (bindL (envOfC qual scope L' f cdv).kindOf binds fun _ => none) → News g L' h₁ (cells ++ news) →
      CellsAre (bindC (envOfC qual scope L' f cdv).kindOf binds fun _ => none) (cellsFrom (L' + 1) scope.names []) cells → Ground w p loose mean mg mb A base (env :: outer) g → (∀ p ∈ news, p.1 < L') → GSub s.heap g (news.map (·.1)) →
      wpAny (model PG w) (A.deeper (envOfC qual scope L' f cdv)) (execs body (envOfC qual scope L' f cdv))
        (fun fl s' => EndT w p loose mean mg mb A₀ base outer h₀ L m s.heap news g R (match fl with | .ret v => v | _ => .none) s')
        (fun e s' => wpAny (model PG w) (A.deeper (envOfC qual scope L' f cdv)) (leaving (envOfC qual scope L' f cdv) e) (fun _ s'' => R (.error e) s'') (fun e' s'' => R (.error e') s'') s')
        { s with heap := h₁, toks := tk })
    (hco : scope.isCoroutine = false) (hgen : scope.isGenerator = false) (hk : scope.kind = .function) : codeAny (model PG w) A (.call (.ref f) args) R s := by
  obtain ⟨FG, _⟩ := groundX (R := R) G₀.B F N hA hf hke
  have Xs := G₀.X.keeps F.keep
  refine cells_core N (G₀.T.nolimit.keeps F.keep) (Xs _ _ ho) (codeRec_of Xs hcd) hroom hbind hkind hnd (fun h₁ tk cells F₁ N₁ Y => wpAny_mono
    (h _ _ h₁ tk cells FG F₁ N₁ Y (G₀.push F N hA hf hke) (fun p hp => Heap.lt_size (N p hp).1) fun b o e n => hideAll_get _ e n) (fun fl s' hl => ?_) fun _ _ y => y) hco hgen hk
  obtain ⟨g', L', m', news', T', F', N', k⟩ := hl
  obtain ⟨h₀', a1, a2, a3, a4, a5⟩ := turn_back G₀ F N T' F' N'
  exact k h₀' a1 a2 a3 a4 a5
end
end

-- Heard
section
set_option maxRecDepth 100000
set_option maxHeartbeats 1000000
theorem heard_spec {w : World} {p : Program} {loose : List Str} {mean : ExcName → Option Value} {mg mb : Str → Option Value} {q : Addr} {news : Led} {post : Value → Led → Prop} {rc : Prop} {b : Nat} {oq : Obj} {fd : FuncData}
    (hq : (q, oq) ∈ news) (hfd : oq.data = .func fd)
    (DD : DoesR b w p loose mean mg mb q [] news post rc) :
    DoesT (b + 3) w p loose mean mg mb 641 [.ref q] news (fun r n => post r n ∨ (r = .none ∧ n = news ∧ rc)) := by
  k_with_none
  k_with "execs cons" => (k_here; (with_reducible refine' gentk ?F ?e1 ?e2 ?e3 ?e4 ?_); (case F => k_asm); (case e1 => k_dflt exact rfl); (case e2 => k_dflt exact rfl); (case e3 => k_dflt exact rfl); (case e4 => k_dflt exact rfl); intro tk')
  unfold DoesT
  intro dp un gd cn cs fa ccd cl outer A₀ base h₀ L m s R G₀ F N hkf hdp hun hret
  k_dflt (refine' enter_turn G₀ ?k2 ?k4 ?kA ?kF ?kK ?k6 ?k7 ?k8 ?k9 ?kB ?_ ?c2 ?c3 ?c4 ?c5)
  (case kA => exact rfl)
  (case kF => exact rfl)
  (case kK => assumption)
  (case k2 => k_asm)
  (case k4 => k_asm)
  (case k6 => k_dflt k_is)
  (case k7 => k_dflt k_is)
  (case k8 => ktr_room)
  (case k9 => exact BindsTo.of_eq rfl)
  (case c5 => decide)
  (case kB => exact locs rfl)
  (case c2 => exact rfl)
  (case c3 => exact rfl)
  (case c4 => exact rfl)
  intro g' L' h' FG' F' N' G' kG'
  have X' := G'.X
  have B' := G'.B
  have T' := G'.T
  (try dsimp only)
  (try k_lift B')
  (try k_fold)
  k_steps
  refine callWith_meth0 hfd (N' _ hq).1 ?_
  k_dflt (refine' DoesR.go DD ?k1 ?k2 ?k3 ?k4 ?k5 ?kK ?kd ?ku ?kk ?kr)
  (case k1 => k_asm)
  (case k2 => k_asm)
  (case k3 => k_asm)
  (case k4 => k_asm)
  (case k5 => k_asm)
  (case kK => exact rfl)
  (case kd => ktr_room)
  (case ku => ktr_units)
  (case kk =>
    intro r n' h2 tk2 F2 N2 L2 q2
    exact ⟨g', L', _, n', KtsTurn.refl, F2, N2, fun h₀' a1 a2 a3 a4 a5 => hret _ _ _ _ h₀' a1 a2 a3 a4 a5 (.inl q2)⟩)
  (case kr =>
    intro e h2 tk2 fl hrc
    obtain ⟨t, vs, RR, hup⟩ := Flew.news fl rfl (fun p hp => ⟨(N' p hp).1, fresh_of_stays B'.stays (N' p hp).2.2, fun hm => (by
      rcases List.mem_cons.mp (show p.1 ∈ L' :: L :: frs outer from hm) with z | z
      · exact (N' p hp).2.1 z
      · obtain ⟨_, o, ho, _⟩ := B'.frames.mem (show p.1 ∈ frs (envX cn cs L fa ccd cl :: outer) from z)
        rw [(N' p hp).2.2] at ho; cases ho)⟩)
    k_dflt (refine' caught_SO0 RR (fr_hide F' N') B' hup G'.XB G'.TB G'.D KtsTurn.refl ?ex ?q ?k)
    (case ex => k_is)
    (case q => kts_isx)
    (case k =>
      intro h9 g9 news9 T9 F9 N9 got9 Nl9 B9 X9 P9 D9
      k_steps
      exact ⟨g9, L', _, news, T9, F9, Nl9, fun h₀' a1 a2 a3 a4 a5 => hret _ _ _ _ h₀' a1 a2 a3 a4 a5 (.inr ⟨rfl, rfl, hrc⟩)⟩))
end

-- Texts
section
set_option maxRecDepth 100000
set_option maxHeartbeats 8000000

/-- a text of code points -/
abbrev tx (cs : List Nat) : Str := ⟨List.toArray cs⟩
theorem tx_len (cs : List Nat) : (tx cs).length = cs.length := by show (List.toArray cs).size = _; simp
theorem tx_app (a b : List Nat) : (tx a ++ tx b : Str) = tx (a ++ b) := by
  show (⟨List.toArray a ++ List.toArray b⟩ : Str) = _
  simp
theorem glued_nil (parts : List (List Nat)) : Builtin.Str.glued (Str.ofString "") (parts.map tx) = tx parts.flatten := by
  unfold Builtin.Str.glued
  have e0 : (Str.ofString "").cps = #[] := by decide +kernel
  have gen : ∀ (l : List (List Nat)) (acc : List Nat), (l.map tx).foldl (fun (a : Array Nat) (p : Str) => a ++ (Str.ofString "").cps ++ p.cps) (List.toArray acc) = List.toArray (acc ++ l.flatten) := by
    intro l
    induction l with
    | nil => intro acc; simp
    | cons x r ih =>
      intro acc
      rw [List.map_cons, List.foldl_cons, e0]
      have := ih (acc ++ x)
      rw [e0] at this
      simp only [List.flatten_cons, ← List.append_assoc]
      rw [← this]
      simp
  cases parts with
  | nil => rfl
  | cons x r =>
    have := gen r x
    simp only [List.map_cons, List.drop_succ_cons, List.drop_zero, List.headD_cons]
    show (⟨_⟩ : Str) = ⟨_⟩
    rw [this, List.flatten_cons]

theorem len_flat {parts : List (List Nat)} {b : Nat} (h : ∀ p ∈ parts, p.length ≤ b) : parts.flatten.length ≤ parts.length * b := by
  induction parts with
  | nil => simp
  | cons x r ih =>
    have h1 := h x (.head _)
    have h2 := ih fun p hp => h p (.tail _ hp)
    simp only [List.flatten_cons, List.length_append, List.length_cons, Nat.succ_mul]
    omega

section
variable {prog : Program} {w : World} {A : Around} {E : Value → Shared → Prop} {s : Shared} {t : Tok} {Q : Value → Shared → Prop}
/-- ''.join of a list of small texts -/
theorem join_texts {h₀ : Heap} {L D : Addr} {led : Led} {ys : List Value} {c : Nat} {ok : List Nat → Prop} (N : News h₀ L s.heap led) (hm : (D, listOf (List.toArray ys) c) ∈ led)
    (hys : ∀ y ∈ ys, ∃ a t, y = .str (tx a) t ∧ ok a ∧ a.length ≤ 2) (hlen : ys.length ≤ 1000)
    (h : ∀ (parts : List (List Nat)) t' k, parts.length = ys.length → (∀ p ∈ parts, ok p ∧ p.length ≤ 2) → (∀ (i : Nat), ∀ y, ys[i]? = some y → ∃ a t, parts[i]? = some a ∧ y = .str (tx a) t) → Q (.str (tx parts.flatten) t') { s with toks := k }) :
    wpAny (model prog w) A (call (.builtin "str.join") [.str (Str.ofString "") t, .ref D]) Q E s := by
  have ex : ∃ l : List (List Nat × Tok), ys = strValues (l.map fun p => (tx p.1, p.2)) ∧ ∀ p ∈ l, ok p.1 ∧ p.1.length ≤ 2 := by
    clear hm hlen h
    induction ys with
    | nil => exact ⟨[], rfl, fun _ hp => nomatch hp⟩
    | cons y r ih =>
      obtain ⟨a, t, rfl, h1, h2⟩ := hys y (.head _)
      obtain ⟨l, rfl, hl⟩ := ih fun z hz => hys z (.tail _ hz)
      exact ⟨(a, t) :: l, rfl, fun p hp => by
        rcases List.mem_cons.mp hp with rfl | hp
        · exact ⟨h1, h2⟩
        · exact hl p hp⟩
  obtain ⟨l, rfl, hl⟩ := ex
  have hl' : l.length ≤ 1000 := by simpa [strValues] using hlen
  have e1 : (l.map fun p => (tx p.1, p.2)).map (·.1) = (l.map (·.1)).map tx := by simp
  refine SC.join (l := l.map fun p => (tx p.1, p.2)) (texts := (l.map (·.1)).map tx) ⟨_, (N _ hm).1, rfl, _, rfl⟩ e1 ?_ fun t' k => ?_
  · have hB : ∀ y ∈ (l.map (·.1)).map tx, y.length ≤ 2 := fun y hy => by
      obtain ⟨a, ha, rfl⟩ := List.mem_map.mp hy
      obtain ⟨p, hp, rfl⟩ := List.mem_map.mp ha
      rw [tx_len]; exact (hl p hp).2
    have hf := StrLaws.joinFits (sep := Str.ofString "") hB (by
      rw [show (Str.ofString "").length = 0 from by decide +kernel]
      simp only [List.length_map]
      omega)
    unfold JoinOk
    rw [hf]; rfl
  · show Q (.str (Builtin.Str.glued _ _) t') _
    rw [glued_nil]
    refine h _ t' k (by simp [strValues]) (fun p hp => ?_) fun i y hy => ?_
    · obtain ⟨q, hq, rfl⟩ := List.mem_map.mp hp
      exact hl q hq
    · simp only [strValues, List.map_map, List.getElem?_map, Option.map_eq_some_iff] at hy
      obtain ⟨q, hq, rfl⟩ := hy
      exact ⟨q.1, q.2, by simp [hq], rfl⟩
end
end

-- Join
section
section
variable {M : Model} {A : Around} {E : Value → Shared → Prop} {s s₀ : Shared} {h₀ : Heap} {L : Addr} {m : Str → Option Value}
/-- ways that meet behind an expression: what they hand on alike -/
def JoinV (P : Value → Led → Prop) (h₀ : Heap) (L : Addr) (m : Str → Option Value) (s₀ : Shared) (v : Value) (s' : Shared) : Prop :=
  ∃ h' tk news, s' = ⟨h', s₀.gens, s₀.drawn, tk, s₀.os⟩ ∧ Fr h₀ L h' m ∧ News h₀ L h' news ∧ P v news
theorem join_v {t : Sem Value} {Q : Value → Shared → Prop} (P : Value → Led → Prop) (_ : Fr h₀ L s.heap m) (e2 : s.gens = s₀.gens) (e3 : s.drawn = s₀.drawn) (e4 : s.os = s₀.os)
    (h1 : wpAny M A t (JoinV P h₀ L m s₀) E s) (h2 : ∀ v news h' tk, P v news → Fr h₀ L h' m → News h₀ L h' news → Q v ⟨h', s₀.gens, s₀.drawn, tk, s₀.os⟩) : wpAny M A t Q E s :=
  wpAny_mono h1 (fun v s' ⟨h', tk, news, e, F, N, p⟩ => e ▸ h2 v news h' tk p F N) fun _ _ e => e
theorem JoinV.mk {P : Value → Led → Prop} {v : Value} {h' hh : Heap} {gg : Array GenState} {dd : Drawn} {k : Nat} {oo : OsState} {news : Led} (F : Fr h₀ L h' m) (N : News h₀ L h' news) (e1 : hh = h') (e2 : gg = s₀.gens) (e3 : dd = s₀.drawn) (e4 : oo = s₀.os) (p : P v news) :
    JoinV P h₀ L m s₀ v ⟨hh, gg, dd, k, oo⟩ := by
  subst e1 e2 e3 e4
  exact ⟨_, _, _, rfl, F, N, p⟩
theorem join_u {t : Sem Value} {Q : Value → Shared → Prop} {d : Addr} {o : Obj} {news : Led} {g : Obj → Led} (P : Value → Obj → Prop) (_ : Fr h₀ L s.heap m) (_ : News h₀ L s.heap news) (_ : UpdF d o news g)
    (h1 : wpAny M A t (JoinV (fun v n => ∃ o', n = g o' ∧ P v o') h₀ L m s₀) E s) (h2 : ∀ v o' h' tk, P v o' → Fr h₀ L h' m → News h₀ L h' (g o') → Q v ⟨h', s₀.gens, s₀.drawn, tk, s₀.os⟩) : wpAny M A t Q E s :=
  wpAny_mono h1 (fun v s' ⟨h', tk, news, e, F, N, o', e2, p⟩ => e ▸ h2 v o' h' tk p F (e2 ▸ N)) fun _ _ e => e
/-- ways that meet behind a statement that sets one name to an int -/
def JoinF (P : Int → Prop) (x : Str) (m₀ : Str → Option Value) (h₀ : Heap) (L : Addr) (s₀ : Shared) (fl : Flow) (s' : Shared) : Prop :=
  ∃ i u h' tk, fl = .next ∧ s' = ⟨h', s₀.gens, s₀.drawn, tk, s₀.os⟩ ∧ Fr h₀ L h' (fun y => if y = x then some (.int i u) else m₀ y) ∧ News h₀ L h' [] ∧ P i
theorem join_f {t : Sem Flow} {Q : Flow → Shared → Prop} {x : Str} {m₀ : Str → Option Value} {v0 : Value} (P : Int → Prop) (_ : Fr h₀ L s.heap (fun y => if y = x then some v0 else m₀ y))
    (h1 : wpAny M A t (JoinF P x m₀ h₀ L s₀) E s) (h2 : ∀ i u h' tk, P i → Fr h₀ L h' (fun y => if y = x then some (.int i u) else m₀ y) → News h₀ L h' [] → Q .next ⟨h', s₀.gens, s₀.drawn, tk, s₀.os⟩) : wpAny M A t Q E s :=
  wpAny_mono h1 (fun fl s' ⟨i, u, h', tk, e1, e2, F, N, p⟩ => e1 ▸ e2 ▸ h2 i u h' tk p F N) fun _ _ e => e
theorem fr_over {h : Heap} {x : Str} {u v : Option Value} {m₀ : Str → Option Value} (F : Fr h₀ L h (fun y => if y = x then v else if y = x then u else m₀ y)) : Fr h₀ L h (fun y => if y = x then v else m₀ y) := by
  have e : (fun y => if y = x then v else if y = x then u else m₀ y) = (fun y => if y = x then v else m₀ y) := by
    funext y
    by_cases q : y = x
    · rw [if_pos q, if_pos q]
    · rw [if_neg q, if_neg q, if_neg q]
  exact e ▸ F
theorem JoinF.mk {P : Int → Prop} {x : Str} {m₀ : Str → Option Value} {i : Int} {u : Tok} {h' hh : Heap} {gg : Array GenState} {dd : Drawn} {k : Nat} {oo : OsState} (F : Fr h₀ L h' (fun y => if y = x then some (.int i u) else m₀ y)) (N : News h₀ L h' []) (e1 : hh = h') (e2 : gg = s₀.gens) (e3 : dd = s₀.drawn) (e4 : oo = s₀.os) (p : P i) :
    JoinF P x m₀ h₀ L s₀ .next ⟨hh, gg, dd, k, oo⟩ := by
  subst e1 e2 e3 e4
  exact ⟨_, _, _, _, rfl, rfl, F, N, p⟩
end
end

-- Cut
section
set_option maxRecDepth 100000
set_option maxHeartbeats 8000000

/-- the law's own cutting -/
def cutL (size off cnt : Int) : Option (Int × Int) :=
  let b := if 0 ≤ off then off else size + off
  let e := if cnt < 0 then size + cnt else b + cnt
  if size < b ∨ (b < 0 ∧ e < 0) then none else some (max b 0, min (max b (max e 0)) size)

def spanPost (size off cnt : Int) (r : Value) (news' : Led) : Prop :=
  match cutL size off cnt with
  | none => r = .none ∧ news' = []
  | some (b, e) => ∃ T n t1 t2, r = .ref T ∧ news' = [(T, ({ cls := .type "tuple", data := .seq #[.int b t1, .int e t2] n } : Obj))]

theorem cutL_some {size off cnt b e b' e' : Int} (hb : (0 ≤ off ∧ b = off) ∨ (¬ 0 ≤ off ∧ b = size + off)) (he : (cnt < 0 ∧ e = size + cnt) ∨ (¬ cnt < 0 ∧ e = b + cnt)) (hn : ¬(size < b ∨ (b < 0 ∧ e < 0)))
    (hb' : b' = max b 0) (he' : e' = min (max b (max e 0)) size) : cutL size off cnt = some (b', e') := by
  subst hb' he'
  unfold cutL
  rcases hb with ⟨h1, rfl⟩ | ⟨h1, rfl⟩ <;> rcases he with ⟨h2, rfl⟩ | ⟨h2, rfl⟩ <;> simp only [h1, h2, if_true, if_false] <;> rw [if_neg hn]
theorem cutL_none {size off cnt b e : Int} (hb : (0 ≤ off ∧ b = off) ∨ (¬ 0 ≤ off ∧ b = size + off)) (he : (cnt < 0 ∧ e = size + cnt) ∨ (¬ cnt < 0 ∧ e = b + cnt)) (hn : size < b ∨ (b < 0 ∧ e < 0)) : cutL size off cnt = none := by
  unfold cutL
  rcases hb with ⟨h1, rfl⟩ | ⟨h1, rfl⟩ <;> rcases he with ⟨h2, rfl⟩ | ⟨h2, rfl⟩ <;> simp only [h1, h2, if_true, if_false] <;> rw [if_pos hn]

theorem cutL_big {size off cnt b : Int} (hb : (0 ≤ off ∧ b = off) ∨ (¬ 0 ≤ off ∧ b = size + off)) (hn : size < b) : cutL size off cnt = none := by
  by_cases h : cnt < 0
  · exact cutL_none hb (.inl ⟨h, rfl⟩) (.inl hn)
  · exact cutL_none hb (.inr ⟨h, rfl⟩) (.inl hn)
theorem spanPost_none {size off cnt : Int} (h : cutL size off cnt = none) : spanPost size off cnt .none [] := by
  unfold spanPost; rw [h]; exact ⟨rfl, rfl⟩
theorem spanPost_some {size off cnt b e : Int} {T : Addr} {n : Nat} {t1 t2 : Tok} (h : cutL size off cnt = some (b, e)) : spanPost size off cnt (.ref T) [(T, ({ cls := .type "tuple", data := .seq #[.int b t1, .int e t2] n } : Obj))] := by
  unfold spanPost; rw [h]; exact ⟨T, n, t1, t2, rfl, rfl⟩

theorem cut_spec {w : World} {p : Program} {loose : List Str} {mean : ExcName → Option Value} {mg mb : Str → Option Value} {a : List Nat} {t to tc : Tok} {off cnt : Int}
    (ha : a.length ≤ 100) (ho : -100 ≤ off ∧ off ≤ 100) (hc : -100 ≤ cnt ∧ cnt ≤ 100) :
    Does 3 w p loose mean mg mb 622 [.str (tx a) t, .int off to, .int cnt tc] [] (spanPost a.length off cnt) := by
  k_with_none
  k_with "execs cons" => (k_here; (with_reducible refine' gentk ?F ?e1 ?e2 ?e3 ?e4 ?_); (case F => k_asm); (case e1 => k_dflt exact rfl); (case e2 => k_dflt exact rfl); (case e3 => k_dflt exact rfl); (case e4 => k_dflt exact rfl); intro tk')
  k_with "eval IfExp" => (k_here; (with_reducible show wpAny _ _ (eval (Expr.IfExp (Expr.Compare (Expr.Name (Str.ofString "offset") _) _ _ _) _ _ _) _) _ _ _); (fail_if_success (with_reducible show wpAny _ _ _ (JoinV _ _ _ _ _) _ _)); k_dflt (refine' join_v (s₀ := s) (fun v n => n = [] ∧ ∃ i u, v = Value.int i u ∧ ((0 ≤ off ∧ i = off) ∨ (¬ 0 ≤ off ∧ i = ((tx a).length : Int) + off))) ?F rfl rfl rfl ?_ ?_; (case F => k_asm)); rotate_left; (intro v' n' h' tk' p' F' N'; obtain ⟨e1, b9, t9, e2, hb9⟩ := p'; subst e1 e2; (try rw [hlen] at hb9); (try k_fold)); rotate_left)
  k_with "eval IfExp" => (k_here; (with_reducible show wpAny _ _ (eval (Expr.IfExp (Expr.Compare (Expr.Name (Str.ofString "count") _) _ _ _) _ _ _) _) _ _ _); (fail_if_success (with_reducible show wpAny _ _ _ (JoinV _ _ _ _ _) _ _)); k_dflt (refine' join_v (s₀ := s) (fun v n => n = [] ∧ ∃ i u, v = Value.int i u ∧ ((cnt < 0 ∧ i = ((tx a).length : Int) + cnt) ∨ (¬ cnt < 0 ∧ i = b9 + cnt))) ?F rfl rfl rfl ?_ ?_; (case F => k_asm)); rotate_left; (intro v' n' h' tk' p' F' N'; obtain ⟨e1, e9, t9, e2, he9⟩ := p'; subst e1 e2; (try rw [hlen] at he9); (try k_fold)); rotate_left)
  unfold Does
  intro dp un gd cn cs fa ccd cl outer A₀ base h₀ L m s R B F X N T hkf hdp hun hret
  have hlen := tx_len a
  k_dflt (refine' code_defG ?k1 ?k2 ?k3 ?k4 ?k5 ?kA ?kF ?kK ?k6 ?k7 ?k8 ?k9 ?kB ?_ ?c2 ?c3 ?c4 ?c5; (case kA => exact rfl); (case kF => exact rfl); (case kK => assumption); (case k1 => k_asm); (case k2 => k_asm); (case k3 => k_asm); (case k4 => k_asm); (case k5 => k_asm); (case k6 => k_is); (case k7 => k_is); (case k8 => ktr_room); (case k9 => exact BindsTo.of_eq rfl); (case c5 => decide); (case kB => exact locs rfl); (case c2 => exact rfl); (case c3 => exact rfl); (case c4 => exact rfl); k_whole; intro g' L' h' FG' F' N' B' X' T' kG'; (try dsimp only); (try k_lift B'); (try k_fold))
  k_steps
  all_goals first
    | (refine JoinV.mk (by k_asm) (by k_asm) rfl rfl rfl rfl ⟨rfl, _, _, rfl, ?_⟩; first | exact Or.inl ⟨by omega, rfl⟩ | exact Or.inr ⟨by omega, rfl⟩)
    | (refine hret _ _ _ _ (by k_asm) (by k_asm) (left_of (by assumption) (by assumption) (by assumption)) ?_
       first
       | (refine spanPost_none (cutL_none hb9 he9 (by omega)))
       | (refine spanPost_some (cutL_some hb9 he9 (by omega) ?_ ?_) <;> (repeat' split) <;> omega))

theorem span_spec {w : World} {p : Program} {loose : List Str} {mean : ExcName → Option Value} {mg mb : Str → Option Value} {len : Nat} {t to tc : Tok} {off cnt : Int}
    (ha : len ≤ 100) (ho : -100 ≤ off ∧ off ≤ 100) (hc : -100 ≤ cnt ∧ cnt ≤ 100) :
    Does 3 w p loose mean mg mb 359 [.int (len : Int) t, .int off to, .int cnt tc] [] (spanPost len off cnt) := by
  k_with_none
  k_with "execs cons" => (k_here; (with_reducible refine' gentk ?F ?e1 ?e2 ?e3 ?e4 ?_); (case F => k_asm); (case e1 => k_dflt exact rfl); (case e2 => k_dflt exact rfl); (case e3 => k_dflt exact rfl); (case e4 => k_dflt exact rfl); intro tk')
  k_with "exec If" => (k_here; (with_reducible show wpAny _ _ (exec (Stmt.If (Expr.Compare (Expr.Name (Str.ofString "offset") _) _ _ _) _ _ _) _) _ _ _); (fail_if_success (with_reducible show wpAny _ _ _ (JoinF _ _ _ _ _ _) _ _)); k_dflt (refine' join_f (s₀ := s) (fun i => (0 ≤ off ∧ i = off) ∨ (¬ 0 ≤ off ∧ i = (len : Int) + off)) ?F ?_ ?_; (case F => k_asm)); rotate_left; (intro b9 t9 h' tk' hb9 F' N'; (try k_fold)); rotate_left)
  k_with "exec If" => (k_here; (with_reducible show wpAny _ _ (exec (Stmt.If (Expr.BoolOp _ (Expr.Compare (Expr.Name (Str.ofString "count") _) _ _ _ :: _) _) _ _ _) _) _ _ _); (fail_if_success (with_reducible show wpAny _ _ _ (JoinF _ _ _ _ _ _) _ _)); k_dflt (refine' join_f (s₀ := s) (fun i => (cnt < 0 ∧ i = (len : Int) + cnt) ∨ (¬ cnt < 0 ∧ i = b9 + cnt)) ?F ?_ ?_; (case F => k_asm)); rotate_left; (intro e9 t9 h' tk' he9 F' N'; (try k_fold)); rotate_left)
  unfold Does
  intro dp un gd cn cs fa ccd cl outer A₀ base h₀ L m s R B F X N T hkf hdp hun hret
  k_dflt (refine' code_defG ?k1 ?k2 ?k3 ?k4 ?k5 ?kA ?kF ?kK ?k6 ?k7 ?k8 ?k9 ?kB ?_ ?c2 ?c3 ?c4 ?c5; (case kA => exact rfl); (case kF => exact rfl); (case kK => assumption); (case k1 => k_asm); (case k2 => k_asm); (case k3 => k_asm); (case k4 => k_asm); (case k5 => k_asm); (case k6 => k_is); (case k7 => k_is); (case k8 => ktr_room); (case k9 => exact BindsTo.of_eq rfl); (case c5 => decide); (case kB => exact locs rfl); (case c2 => exact rfl); (case c3 => exact rfl); (case c4 => exact rfl); k_whole; intro g' L' h' FG' F' N' B' X' T' kG'; (try dsimp only); (try k_lift B'); (try k_fold))
  k_steps
  all_goals first
    | (refine JoinF.mk (by k_asm) (by k_asm) rfl rfl rfl rfl ?_; first | exact Or.inl ⟨by omega, rfl⟩ | exact Or.inr ⟨by omega, rfl⟩ | ((try dsimp only); omega))
    | (refine JoinF.mk (fr_over (by k_asm)) (by k_asm) rfl rfl rfl rfl ?_; first | exact Or.inl ⟨by omega, rfl⟩ | exact Or.inr ⟨by omega, rfl⟩ | ((try dsimp only); omega))
    | (refine hret _ _ _ _ (by k_asm) (by k_asm) (left_of (by assumption) (by assumption) (by assumption)) ?_
       first
       | (refine spanPost_none (cutL_none hb9 he9 (by omega)))
       | (refine spanPost_none (cutL_big hb9 (by omega)))
       | (refine spanPost_some (cutL_some hb9 he9 (by omega) ?_ ?_) <;> (repeat' split) <;> omega))
end

-- Put
section
set_option maxRecDepth 100000
set_option maxHeartbeats 4000000
theorem die_raise {w : World} {A : Around} {E : Value → Shared → Prop} {s : Shared} {env : Env} {xe : Expr} {pos : Pos} {Q : Flow → Shared → Prop} {g : Heap} (_X : (written.heap_1 w.params).In g) (hq : ktsIn (written.heap_1 w.params) 58 "BaseException" = true) (hh : A.handled = none)
    (h : wpAny (model PG w) A (eval xe env) (fun v s₁ => Hold (∃ e tA od sl, v = .ref e ∧ (written.heap_1 w.params).In s₁.heap ∧ s₁.heap.get? e = some ⟨.ref 58, od, .fields #[.ref tA, .none, .none, .none, .bool false, .none], sl⟩ ∧ E (.ref e) s₁)) E s) :
    wpAny (model PG w) A (exec (.Raise (some xe) none pos) env) Q E s := own_raise hq hh h
-- the raise of a Die
-- the span

theorem put_spec {w : World} {p : Program} {loose : List Str} {mean : ExcName → Option Value} {mg mb : Str → Option Value} {a nw : List Nat} {t to tc tn : Tok} {off cnt : Int}
    (ha : a.length ≤ 100) (hn : nw.length ≤ 100) (ho : -100 ≤ off ∧ off ≤ 100) (hc : -100 ≤ cnt ∧ cnt ≤ 100) :
    DoesR 20 w p loose mean mg mb 373 [.str (tx a) t, .int off to, .int cnt tc, .str (tx nw) tn] []
      (fun r news' => ∃ b e T n t1 t2, cutL a.length off cnt = some (b, e) ∧ r = .ref T ∧
        news' = [(T, ({ cls := .type "tuple", data := .seq #[.str (Txt.slice (tx a) (some b) (some e)) t1, .str (Txt.slice (tx a) none (some b) ++ tx nw ++ Txt.slice (tx a) (some e) none) t2] n } : Obj))]) (cutL a.length off cnt = none) := by
  k_with_none
  k_with "execs cons" => (k_here; (with_reducible refine' gentk ?F ?e1 ?e2 ?e3 ?e4 ?_); (case F => k_asm); (case e1 => k_dflt exact rfl); (case e2 => k_dflt exact rfl); (case e3 => k_dflt exact rfl); (case e4 => k_dflt exact rfl); intro tk')
  k_with "exec Raise some none" => (k_here; k_dflt (refine' die_raise ?X ?q ?h ?_; (case X => k_asm); (case q => kts_isx); (case h => rfl)); (try k_fold))
  k_with "call ref" => (k_here; (with_reducible show wpAny _ _ (call (Value.ref 58) _) _ _ _); k_dflt (refine' die_use ?k1 ?k2 ?k3 ?k4 ?k5 ?kK ?kd ?ku ?_; (case k1 => k_asm); (case k2 => k_asm); (case k3 => k_asm); (case k4 => k_asm); (case k5 => k_asm); (case kK => first | assumption | exact rfl); (case kd => ktr_room); (case ku => ktr_units); k_whole); intro h' e' t' d' vs' tk' F' N' K' x1' x2'; (try k_fold))
  k_with "Hold" => (refine Hold.mk ⟨_, _, _, _, rfl, (by k_in), (News.get (by k_asm) (List.Mem.head _)), ?_⟩)
  k_with "call ref" => (k_here; (with_reducible show wpAny _ _ (call (Value.ref 359) _) _ _ _); k_dflt (refine' Does.go (span_spec ?ha ?ho ?hc) ?k1 ?k2 ?k3 ?k4 ?k5 ?kK ?kd ?ku ?_; (case k1 => k_asm); (case k2 => k_asm); (case k3 => k_asm); (case k4 => k_asm); (case k5 => k_asm); (case kK => first | assumption | exact rfl); (case kd => ktr_room); (case ku => ktr_units); (case ha => omega); (case ho => omega); (case hc => omega); k_whole); intro r' n' h' tk' F' N' G' q'; unfold spanPost at q'; (split at q' <;> (first | (obtain ⟨e1, e2⟩ := q'; subst e1 e2) | (obtain ⟨T9, n9, t9, u9, e1, e2⟩ := q'; subst e1 e2))); (all_goals (try k_fold)))
  unfold DoesR
  intro dp un gd cn cs fa ccd cl outer A₀ base h₀ L m s R B F X N T hkf hdp hun hret hraise
  have hlen := tx_len a
  have hlen2 := tx_len nw
  k_dflt (refine' code_defG ?k1 ?k2 ?k3 ?k4 ?k5 ?kA ?kF ?kK ?k6 ?k7 ?k8 ?k9 ?kB ?_ ?c2 ?c3 ?c4 ?c5; (case kA => exact rfl); (case kF => exact rfl); (case kK => assumption); (case k1 => k_asm); (case k2 => k_asm); (case k3 => k_asm); (case k4 => k_asm); (case k5 => k_asm); (case k6 => k_is); (case k7 => k_is); (case k8 => ktr_room); (case k9 => exact BindsTo.of_eq rfl); (case c5 => decide); (case kB => exact locs rfl); (case c2 => exact rfl); (case c3 => exact rfl); (case c4 => exact rfl); k_whole; intro g' L' h' FG' F' N' B' X' T' kG'; (try dsimp only); (try k_lift B'); (try k_fold))
  k_steps
  · (rename cutL _ _ _ = none => hcut)
    exact die_up (S := s.heap) (by assumption) (by assumption) (by assumption) (by assumption) (by assumption) (by assumption) (by assumption) (by assumption) (by assumption) rfl rfl (List.forall_mem_nil _) (fun h9 fl => hraise _ _ _ fl (by rw [← hlen]; exact hcut))
  · (rename cutL _ _ _ = some _ => hcut)
    refine hret _ [_] _ _ (by k_asm) (cb_drop (by k_asm) (List.forall_mem_cons.mpr ⟨.head _, List.forall_mem_nil _⟩)) (left_of (by assumption) (by assumption) (cb_drop (by assumption) (List.forall_mem_cons.mpr ⟨.head _, List.forall_mem_nil _⟩))) ⟨_, _, _, _, _, _, by rw [← hlen]; exact hcut, rfl, rfl⟩
end

-- Within
section
set_option maxRecDepth 100000
set_option maxHeartbeats 4000000

theorem within_spec {w : World} {p : Program} {loose : List Str} {mean : ExcName → Option Value} {mg mb : Str → Option Value} {x : Str} {t tm : Tok} {ra dr la dl : Addr} {esR esL : List DictEntry} {nR nL : Nat} {most : Int}
    (hx : x.length ≤ 400) (h1 : getL (Str.ofString "limits") esR = some (some (.ref la))) (h2 : getL (Str.ofString "text") esL = some (some (.int most tm))) :
    DoesR 12 w p loose mean mg mb 387 [.ref ra, .str x t] [(ra, instObj 514 dr), (dr, dictOf esR nR), (la, instObj 536 dl), (dl, dictOf esL nL)]
      (fun r news' => r = .str x t ∧ news' = [(ra, instObj 514 dr), (dr, dictOf esR nR), (la, instObj 536 dl), (dl, dictOf esL nL)] ∧ (x.length : Int) ≤ most) (most < (x.length : Int)) := by
  k_with_none
  k_with "execs cons" => (k_here; (with_reducible refine' gentk ?F ?e1 ?e2 ?e3 ?e4 ?_); (case F => k_asm); (case e1 => k_dflt exact rfl); (case e2 => k_dflt exact rfl); (case e3 => k_dflt exact rfl); (case e4 => k_dflt exact rfl); intro tk')
  k_with "exec Raise some none" => (k_here; k_dflt (refine' die_raise ?X ?q ?h ?_; (case X => k_asm); (case q => kts_isx); (case h => rfl)); (try k_fold))
  k_with "call ref" => (k_here; (with_reducible show wpAny _ _ (call (Value.ref 58) _) _ _ _); k_dflt (refine' die_use ?k1 ?k2 ?k3 ?k4 ?k5 ?kK ?kd ?ku ?_; (case k1 => k_asm); (case k2 => k_asm); (case k3 => k_asm); (case k4 => k_asm); (case k5 => k_asm); (case kK => first | assumption | exact rfl); (case kd => ktr_room); (case ku => ktr_units); k_whole); intro h' e' t' d' vs' tk' F' N' K' x1' x2'; (try k_fold))
  k_with "Hold" => (refine Hold.mk ⟨_, _, _, _, rfl, (by k_in), (News.get (by k_asm) (List.Mem.head _)), ?_⟩)
  unfold DoesR
  intro dp un gd cn cs fa ccd cl outer A₀ base h₀ L m s R B F X N T hkf hdp hun hret hraise
  k_dflt (refine' code_defG ?k1 ?k2 ?k3 ?k4 ?k5 ?kA ?kF ?kK ?k6 ?k7 ?k8 ?k9 ?kB ?_ ?c2 ?c3 ?c4 ?c5; (case kA => exact rfl); (case kF => exact rfl); (case kK => assumption); (case k1 => k_asm); (case k2 => k_asm); (case k3 => k_asm); (case k4 => k_asm); (case k5 => k_asm); (case k6 => k_is); (case k7 => k_is); (case k8 => ktr_room); (case k9 => exact BindsTo.of_eq rfl); (case c5 => decide); (case kB => exact locs rfl); (case c2 => exact rfl); (case c3 => exact rfl); (case c4 => exact rfl); k_whole; intro g' L' h' FG' F' N' B' X' T' kG'; (try dsimp only); (try k_lift B'); (try k_fold))
  k_steps
  · exact die_up (S := s.heap) (by assumption) (by assumption) (by assumption) (by assumption) (by assumption) (by assumption) (by assumption) (by assumption) (by assumption) rfl rfl (fun p hp => (N p hp).1) (fun h9 fl => hraise _ _ _ fl (by assumption))
  · exact hret _ _ _ _ (by k_asm) (by k_asm) (left_of (by assumption) (by assumption) (by assumption)) ⟨rfl, rfl, by omega⟩
end

-- Store
section
set_option maxRecDepth 100000
set_option maxHeartbeats 4000000

abbrev ent (w : World) (x : String) (t : Tok) (v : Value) : DictEntry := ⟨PyData.keyHash w.params (Str.ofString x), .str (Str.ofString x) t, v⟩
theorem pop_none {w : World} {h₀ : Heap} {L : Addr} {s : Shared} {A : Around} {Q E : Value → Shared → Prop} {news : List (Addr × Obj)} {d : Addr} {o : Obj} {k : Int} {tk : Tok} {dflt : Value}
    (N : News h₀ L s.heap news) (hin : (d, o) ∈ news) (hd : o.IsDictOf (intKind PG w) []) (lo : (d == sysModules) = false)
    (h : Q dflt { s with toks := s.toks + 1 }) :
    wpAny (model PG w) A (call (.builtin "dict.pop") [.ref d, .int k tk, dflt]) Q E s := by
  have hm := N (d, o) hin
  have hD : s.heap.DictOf (intKind PG w) d [] := Heap.dictOf_iff.mpr ⟨o, hm.1, hd⟩
  exact call_meetsIn PySem.F.slot_dict_pop hD.typeIs PySem.F.entry_dict_pop (PySem.F.args_dict_pop_3 _ _ _) (meets_dict_pop_default (intKind PG w) d (intKind_is _ _ _ _) lo (by rfl) dflt) ⟨[], hD, rfl, h⟩
/-- a scalar's dict -/
abbrev scEs (w : World) (t1 t2 t3 t4 t5 t6 t7 t8 : Tok) (v1 v2 v3 v4 v5 v6 v7 : Value) : List DictEntry :=
  [ent w "number" t1 v1, ent w "count" t2 v2, ent w "blessed" t3 v3, ent w "weak" t4 v4, ent w "is_destroyed" t5 v5, ent w "is_freed" t6 v6, ent w "value" t7 v7, ent w "magic" t8 .none]

theorem take_spec {w : World} {p : Program} {loose : List Str} {mean : ExcName → Option Value} {mg mb : Str → Option Value} {x : Str} {t : Tok} {ca : Addr} :
    Does 3 w p loose mean mg mb 443 [.ref ca, .str x t] [] (fun r news' => r = .str x t ∧ news' = []) := by
  k_with_none
  k_with "execs cons" => (k_here; (with_reducible refine' gentk ?F ?e1 ?e2 ?e3 ?e4 ?_); (case F => k_asm); (case e1 => k_dflt exact rfl); (case e2 => k_dflt exact rfl); (case e3 => k_dflt exact rfl); (case e4 => k_dflt exact rfl); intro tk')
  k_with "call builtin:dict.pop" => (k_here; k_dflt (refine pop_none (by k_asm) (by k_mem) (by assumption) (by assumption) ?_))
  unfold Does
  intro dp un gd cn cs fa ccd cl outer A₀ base h₀ L m s R B F X N T hkf hdp hun hret
  k_dflt (refine' code_defG ?k1 ?k2 ?k3 ?k4 ?k5 ?kA ?kF ?kK ?k6 ?k7 ?k8 ?k9 ?kB ?_ ?c2 ?c3 ?c4 ?c5; (case kA => exact rfl); (case kF => exact rfl); (case kK => assumption); (case k1 => k_asm); (case k2 => k_asm); (case k3 => k_asm); (case k4 => k_asm); (case k5 => k_asm); (case k6 => k_is); (case k7 => k_is); (case k8 => ktr_room); (case k9 => exact BindsTo.of_eq rfl); (case c5 => decide); (case kB => exact locs rfl); (case c2 => exact rfl); (case c3 => exact rfl); (case c4 => exact rfl); k_whole; intro g' L' h' FG' F' N' B' X' T' kG'; (try dsimp only); (try k_lift B'); (try k_fold))
  k_steps
  exact hret _ [] _ _ (by k_asm) (List.forall_mem_nil _) (left_of (by assumption) (by assumption) (by assumption)) ⟨rfl, rfl⟩
theorem put_off_spec {w : World} {p : Program} {loose : List Str} {mean : ExcName → Option Value} {mg mb : Str → Option Value} {x : Str} {t : Tok} {ca va : Addr} :
    Does 3 w p loose mean mg mb 448 [.ref ca, .ref va, .str x t] [] (fun r news' => r = .none ∧ news' = []) := by
  unfold Does
  intro dp un gd cn cs fa ccd cl outer A₀ base h₀ L m s R B F X N T hkf hdp hun hret
  k_dflt (refine' enter_cells ?k1 ?k2 ?k3 ?k4 ?k5 ?kA ?kF ?kK ?k6 ?k7 ?k8 ?k9 ?kB ?kD ?_ ?c2 ?c3 ?c4; (case kA => exact rfl); (case kF => exact rfl); (case kK => assumption); (case k1 => k_asm); (case k2 => k_asm); (case k3 => k_asm); (case k4 => k_asm); (case k5 => k_asm); (case k6 => k_is); (case k7 => k_is); (case k8 => ktr_room); (case k9 => exact BindsTo.of_eq rfl); (case kB => exact rfl); (case kD => decide +kernel); (case c2 => exact rfl); (case c3 => exact rfl); (case c4 => exact rfl); k_whole; intro g' L' h' tk' cells' FG' F' N' Y' B' X' T' l1 kG'; (try k_lt l1); k_cells Y'; (try simp only [List.cons_append, List.nil_append] at N'); (try dsimp only); (try k_lift B'); (try k_fold))
  k_steps
  exact hret _ [] _ _ (by k_asm) (List.forall_mem_nil _) (left_of (by assumption) (by assumption) (List.forall_mem_nil _)) ⟨rfl, rfl⟩
/-- a call that touches no ledger -/
theorem Does.go0 {b : Nat} {w : World} {p : Program} {loose : List Str} {mean : ExcName → Option Value} {mg mb : Str → Option Value} {f : Addr} {vs : List Value} {news : Led} {post : Value → Prop}
    {dp un : Nat} {gd : Option (List Code)} {cn : Str} {cs : Scope} {a : Addr} {ccd : Value} {cl : List (Str × Addr)} {outer : List Env} {A₀ : Around} {base h₀ : Heap} {L : Addr} {m : Str → Option Value} {s : Shared} {Q E : Value → Shared → Prop}
    (D : Does b w p loose mean mg mb f vs [] (fun r n => post r ∧ n = [])) (B : Below A₀ base outer h₀) (F : Fr h₀ L s.heap m) (X : (written.heap_1 w.params).In h₀) (N : News h₀ L s.heap news) (T : Top p loose mean mg mb h₀) (hk : cs.kind = .function) (hdp : dp + b < recursionLimit) (hun : un + 10 * b < cLine)
    (k : ∀ r h' tk', Fr h₀ L h' m → News h₀ L h' news → (∀ b o, s.heap.get? b = some o → h'.get? b = some o) → post r → Q r { s with heap := h', toks := tk' }) :
    wpAny (model PG w) (ktrTop dp un gd cn cs L a ccd cl outer) (call (.ref f) vs) Q E s :=
  D.go B F X (List.forall_mem_nil _) T hk hdp hun fun r n h' tk' F' _ G q => k r h' tk' F' (news_rest N G.1 fun _ _ z => nomatch z) (fun b o e => G.1 b o e fun z => nomatch z) q.1

theorem store_spec {w : World} {p : Program} {loose : List Str} {mean : ExcName → Option Value} {mg mb : Str → Option Value} {x y : Str} {t ty tn t1 t2 t3 t4 t5 t6 t7 t8 : Tok} {nb : Int} {v2 v3 v4 v5 v6 : Value} {ca dc pa ea va dv : Addr} {esC : List DictEntry} {nC : Nat} {oP oE : Obj}
    (h1 : getL (Str.ofString "places") esC = some (some (.ref pa))) (h2 : getL (Str.ofString "empties") esC = some (some (.ref ea)))
    (m1 : getL (Str.ofString "take") esC = some none) (m2 : getL (Str.ofString "put_off") esC = some none)
    (lP : (pa == sysModules) = false) (hP : oP.IsDictOf (intKind PG w) []) (lE : (ea == sysModules) = false) (hE : oE.IsDictOf (intKind PG w) [])
    (hne : @Ne Nat dv ca ∧ @Ne Nat dv dc ∧ @Ne Nat dv pa ∧ @Ne Nat dv ea ∧ @Ne Nat dv va ∧ @Ne Nat pa ca ∧ @Ne Nat pa dc ∧ @Ne Nat pa ea ∧ @Ne Nat pa va ∧ @Ne Nat ea ca ∧ @Ne Nat ea dc ∧ @Ne Nat ea va) :
    Does 6 w p loose mean mg mb 455 [.ref ca, .ref va, .str x t] [(ca, instObj 493 dc), (dc, dictOf esC nC), (pa, oP), (ea, oE), (va, instObj 98 dv), (dv, dictOf (scEs w t1 t2 t3 t4 t5 t6 t7 t8 (.int nb tn) v2 v3 v4 v5 v6 (.str y ty)) 8)]
      (fun r news' => r = .none ∧ news' = [(ca, instObj 493 dc), (dc, dictOf esC nC), (pa, oP), (ea, oE), (va, instObj 98 dv), (dv, dictOf (scEs w t1 t2 t3 t4 t5 t6 t7 t8 (.int nb tn) v2 v3 v4 v5 v6 (.str x t)) 8)]) := by
  k_with_none
  k_with "execs cons" => (k_here; (with_reducible refine' gentk ?F ?e1 ?e2 ?e3 ?e4 ?_); (case F => k_asm); (case e1 => k_dflt exact rfl); (case e2 => k_dflt exact rfl); (case e3 => k_dflt exact rfl); (case e4 => k_dflt exact rfl); intro tk')
  k_with "call builtin:dict.pop" => (k_here; k_dflt (refine pop_none (by k_asm) (by k_mem) (by assumption) (by assumption) ?_))
  k_with "call ref" => (k_here; (with_reducible show wpAny _ _ (call (Value.ref 443) _) _ _ _); k_dflt (refine' Does.go0 take_spec ?k1 ?k2 ?k3 ?k4 ?k5 ?kK ?kd ?ku ?_; (case k1 => k_asm); (case k2 => k_asm); (case k3 => k_asm); (case k4 => k_asm); (case k5 => k_asm); (case kK => first | assumption | exact rfl); (case kd => ktr_room); (case ku => ktr_units); k_whole); intro r' h' tk' F' N' G' q'; subst q'; (try k_fold))
  k_with "call ref" => (k_here; (with_reducible show wpAny _ _ (call (Value.ref 448) _) _ _ _); k_dflt (refine' Does.go0 put_off_spec ?k1 ?k2 ?k3 ?k4 ?k5 ?kK ?kd ?ku ?_; (case k1 => k_asm); (case k2 => k_asm); (case k3 => k_asm); (case k4 => k_asm); (case k5 => k_asm); (case kK => first | assumption | exact rfl); (case kd => ktr_room); (case ku => ktr_units); k_whole); intro r' h' tk' F' N' G' q'; subst q'; (try k_fold))
  obtain ⟨n1, n2, n3, n4, n5, n6, n7, n8, n9, n10, n11, n12⟩ := hne
  unfold Does
  intro dp un gd cn cs fa ccd cl outer A₀ base h₀ L m s R B F X N T hkf hdp hun hret
  k_dflt (refine' code_defG ?k1 ?k2 ?k3 ?k4 ?k5 ?kA ?kF ?kK ?k6 ?k7 ?k8 ?k9 ?kB ?_ ?c2 ?c3 ?c4 ?c5; (case kA => exact rfl); (case kF => exact rfl); (case kK => assumption); (case k1 => k_asm); (case k2 => k_asm); (case k3 => k_asm); (case k4 => k_asm); (case k5 => k_asm); (case k6 => k_is); (case k7 => k_is); (case k8 => ktr_room); (case k9 => exact BindsTo.of_eq rfl); (case c5 => decide); (case kB => exact locs rfl); (case c2 => exact rfl); (case c3 => exact rfl); (case c4 => exact rfl); k_whole; intro g' L' h' FG' F' N' B' X' T' kG'; (try dsimp only); (try k_lift B'); (try k_fold))
  k_steps
  exact hret _ _ _ _ (by k_asm) (by k_asm) (left_of (by assumption) (by assumption) (by assumption)) ⟨rfl, rfl⟩
end

-- Use
section
set_option maxRecDepth 100000
set_option maxHeartbeats 4000000

theorem left_same {H h' : Heap} {sub : Led} (G : Left H h' sub sub) {h₀ : Heap} {L : Addr} (N : News h₀ L H sub) (N' : News h₀ L h' sub) : ∀ b o, H.get? b = some o → h'.get? b = some o := fun b o e => by
  by_cases hb : b ∈ sub.map (·.1)
  · obtain ⟨p, hp, rfl⟩ := List.mem_map.mp hb
    have := (N p hp).1
    rw [e] at this; cases this
    exact (N' p hp).1
  · exact G.1 b o e hb

section
variable {b : Nat} {w : World} {p : Program} {loose : List Str} {mean : ExcName → Option Value} {mg mb : Str → Option Value} {f : Addr} {vs : List Value} {news sub : Led} {post : Value → Prop}
    {dp un : Nat} {gd : Option (List Code)} {cn : Str} {cs : Scope} {a : Addr} {ccd : Value} {cl : List (Str × Addr)} {outer : List Env} {A₀ : Around} {base h₀ : Heap} {L : Addr} {m : Str → Option Value} {s : Shared} {Q E : Value → Shared → Prop}
/-- a call that only reads -/
theorem Does.ro (D : Does b w p loose mean mg mb f vs sub (fun r n => post r ∧ n = sub)) (B : Below A₀ base outer h₀) (F : Fr h₀ L s.heap m) (X : (written.heap_1 w.params).In h₀) (N : News h₀ L s.heap news) (T : Top p loose mean mg mb h₀) (hk : cs.kind = .function) (hdp : dp + b < recursionLimit) (hun : un + 10 * b < cLine)
    (hs : ∀ p ∈ sub, p ∈ news)
    (k : ∀ r h' tk', Fr h₀ L h' m → News h₀ L h' news → (∀ b o, s.heap.get? b = some o → h'.get? b = some o) → post r → Q r { s with heap := h', toks := tk' }) :
    wpAny (model PG w) (ktrTop dp un gd cn cs L a ccd cl outer) (call (.ref f) vs) Q E s :=
  have Ns : News h₀ L s.heap sub := fun p hp => N p (hs p hp)
  D.go B F X Ns T hk hdp hun fun r n h' tk' F' N' G q => by
    obtain ⟨q, rfl⟩ := q
    have st := left_same G Ns N'
    exact k r h' tk' F' (fun p hp => ⟨st _ _ (N p hp).1, (N p hp).2⟩) st q
theorem DoesR.ro {rc : Prop} (D : DoesR b w p loose mean mg mb f vs sub (fun r n => post r ∧ n = sub) rc) (B : Below A₀ base outer h₀) (F : Fr h₀ L s.heap m) (X : (written.heap_1 w.params).In h₀) (N : News h₀ L s.heap news) (T : Top p loose mean mg mb h₀) (hk : cs.kind = .function) (hdp : dp + b < recursionLimit) (hun : un + 10 * b < cLine)
    (hs : ∀ p ∈ sub, p ∈ news)
    (k : ∀ r h' tk', Fr h₀ L h' m → News h₀ L h' news → (∀ b o, s.heap.get? b = some o → h'.get? b = some o) → post r → Q r { s with heap := h', toks := tk' })
    (kr : Hold (∀ e h' tk', Flew base (envX cn cs L a ccd cl :: outer) e s.heap h' → rc → E (.ref e) { s with heap := h', toks := tk' })) :
    wpAny (model PG w) (ktrTop dp un gd cn cs L a ccd cl outer) (call (.ref f) vs) Q E s :=
  have Ns : News h₀ L s.heap sub := fun p hp => N p (hs p hp)
  D.go B F X Ns T hk hdp hun (fun r n h' tk' F' N' G q => by
    obtain ⟨q, rfl⟩ := q
    have st := left_same G Ns N'
    exact k r h' tk' F' (fun p hp => ⟨st _ _ (N p hp).1, (N p hp).2⟩) st q) kr
def AllNe (d : Addr) : Led → Prop
  | [] => True
  | p :: r => @Ne Nat p.1 d ∧ AllNe d r
theorem allNe_of {d : Addr} {h₀ h : Heap} {L : Addr} (e : h.get? d = none) : ∀ {l : Led}, News h₀ L h l → AllNe d l
  | [], _ => trivial
  | p :: r, N => ⟨fun q => (by have := (N p (.head _)).1; rw [show p.1 = d from q, e] at this; cases this), allNe_of e fun q hq => N q (.tail _ hq)⟩
/-- a call that only makes -/
theorem DoesR.mk {rc : Prop} {post : Value → Led → Prop} (D : DoesR b w p loose mean mg mb f vs [] post rc) (B : Below A₀ base outer h₀) (F : Fr h₀ L s.heap m) (X : (written.heap_1 w.params).In h₀) (N : News h₀ L s.heap news) (T : Top p loose mean mg mb h₀) (hk : cs.kind = .function) (hdp : dp + b < recursionLimit) (hun : un + 10 * b < cLine)
    (k : ∀ r n h' tk', Fr h₀ L h' m → News h₀ L h' (n ++ news) → (∀ b o, s.heap.get? b = some o → h'.get? b = some o) → (∀ p ∈ n, AllNe p.1 news) → post r n → Q r { s with heap := h', toks := tk' })
    (kr : Hold (∀ e h' tk', Flew base (envX cn cs L a ccd cl :: outer) e s.heap h' → rc → E (.ref e) { s with heap := h', toks := tk' })) :
    wpAny (model PG w) (ktrTop dp un gd cn cs L a ccd cl outer) (call (.ref f) vs) Q E s :=
  D.go B F X (List.forall_mem_nil _) T hk hdp hun (fun r n h' tk' F' N' G q => by
    have st : ∀ b o, s.heap.get? b = some o → h'.get? b = some o := fun b o e => G.1 b o e fun z => nomatch z
    refine k r n h' tk' F' (fun p hp => ?_) st (fun p hp => allNe_of ((G.2 p hp).resolve_left fun z => nomatch z) N) q
    rcases List.mem_append.mp hp with hp | hp
    · exact N' p hp
    · exact ⟨st _ _ (N p hp).1, (N p hp).2⟩) kr
end

theorem DoesR.post {b : Nat} {w : World} {p : Program} {loose : List Str} {mean : ExcName → Option Value} {mg mb : Str → Option Value} {f : Addr} {vs : List Value} {news : Led} {post post' : Value → Led → Prop} {rc rc' : Prop}
    (D : DoesR b w p loose mean mg mb f vs news post rc) (hp : ∀ r n, post r n → post' r n) (hr : rc → rc') : DoesR b w p loose mean mg mb f vs news post' rc' :=
  fun dp un gd cn cs a ccd cl outer A₀ base h₀ L m s R B F X N T h1 h2 h3 k kr => D dp un gd cn cs a ccd cl outer A₀ base h₀ L m s R B F X N T h1 h2 h3 (fun r n h' tk' F' N' G q => k r n h' tk' F' N' G (hp r n q)) fun e h' tk' fl c => kr e h' tk' fl (hr c)
theorem within_ro {w : World} {p : Program} {loose : List Str} {mean : ExcName → Option Value} {mg mb : Str → Option Value} {x : Str} {t tm : Tok} {ra dr la dl : Addr} {esR esL : List DictEntry} {nR nL : Nat} {most : Int}
    (hx : x.length ≤ 400) (h1 : getL (Str.ofString "limits") esR = some (some (.ref la))) (h2 : getL (Str.ofString "text") esL = some (some (.int most tm))) :
    DoesR 12 w p loose mean mg mb 387 [.ref ra, .str x t] [(ra, instObj 514 dr), (dr, dictOf esR nR), (la, instObj 536 dl), (dl, dictOf esL nL)]
      (fun r news' => (r = .str x t ∧ (x.length : Int) ≤ most) ∧ news' = [(ra, instObj 514 dr), (dr, dictOf esR nR), (la, instObj 536 dl), (dl, dictOf esL nL)]) (most < (x.length : Int)) :=
  DoesR.post (within_spec hx h1 h2) (fun _ _ q => ⟨⟨q.1, q.2.2⟩, q.2.1⟩) id



section
variable {w : World} {p : Program} {loose : List Str} {mean : ExcName → Option Value} {mg mb : Str → Option Value}

theorem val_str {x : Str} {t : Tok} : Does 3 w p loose mean mg mb 324 [.str x t] [] (fun r n => r = .str x t ∧ n = []) := by
  k_with_none
  k_with "execs cons" => (k_here; (with_reducible refine' gentk ?F ?e1 ?e2 ?e3 ?e4 ?_); (case F => k_asm); (case e1 => k_dflt exact rfl); (case e2 => k_dflt exact rfl); (case e3 => k_dflt exact rfl); (case e4 => k_dflt exact rfl); intro tk')
  unfold Does
  intro dp un gd cn cs fa ccd cl outer A₀ base h₀ L m s R B F X N T hkf hdp hun hret
  k_dflt (refine' code_defG ?k1 ?k2 ?k3 ?k4 ?k5 ?kA ?kF ?kK ?k6 ?k7 ?k8 ?k9 ?kB ?_ ?c2 ?c3 ?c4 ?c5; (case kA => exact rfl); (case kF => exact rfl); (case kK => first | assumption | exact rfl); (case k1 => k_asm); (case k2 => k_asm); (case k3 => k_asm); (case k4 => k_asm); (case k5 => k_asm); (case k6 => k_is); (case k7 => k_is); (case k8 => ktr_room); (case k9 => exact BindsTo.of_eq rfl); (case c5 => decide); (case kB => exact locs rfl); (case c2 => exact rfl); (case c3 => exact rfl); (case c4 => exact rfl); k_whole; intro g' L' h' FG' F' N' B' X' T' kG'; (try dsimp only); (try k_lift B'); (try k_fold))
  k_steps
  exact hret _ [] _ _ (by k_asm) (List.forall_mem_nil _) (left_of (by assumption) (by assumption) (List.forall_mem_nil _)) ⟨rfl, rfl⟩
theorem val_int {x : Int} {t : Tok} : Does 3 w p loose mean mg mb 324 [.int x t] [] (fun r n => r = .int x t ∧ n = []) := by
  unfold Does
  intro dp un gd cn cs fa ccd cl outer A₀ base h₀ L m s R B F X N T hkf hdp hun hret
  k_dflt (refine' code_defG ?k1 ?k2 ?k3 ?k4 ?k5 ?kA ?kF ?kK ?k6 ?k7 ?k8 ?k9 ?kB ?_ ?c2 ?c3 ?c4 ?c5; (case kA => exact rfl); (case kF => exact rfl); (case kK => first | assumption | exact rfl); (case k1 => k_asm); (case k2 => k_asm); (case k3 => k_asm); (case k4 => k_asm); (case k5 => k_asm); (case k6 => k_is); (case k7 => k_is); (case k8 => ktr_room); (case k9 => exact BindsTo.of_eq rfl); (case c5 => decide); (case kB => exact locs rfl); (case c2 => exact rfl); (case c3 => exact rfl); (case c4 => exact rfl); k_whole; intro g' L' h' FG' F' N' B' X' T' kG'; (try dsimp only); (try k_lift B'); (try k_fold))
  k_steps
  exact hret _ [] _ _ (by k_asm) (List.forall_mem_nil _) (left_of (by assumption) (by assumption) (List.forall_mem_nil _)) ⟨rfl, rfl⟩
theorem val_scalar {x : Str} {t t1 t2 t3 t4 t5 t6 t7 t8 : Tok} {va dv : Addr} {v1 v2 v3 v4 v5 v6 : Value} : Does 3 w p loose mean mg mb 324 [.ref va] [(va, instObj 98 dv), (dv, dictOf (scEs w t1 t2 t3 t4 t5 t6 t7 t8 v1 v2 v3 v4 v5 v6 (.str x t)) 8)]
    (fun r n => r = .str x t ∧ n = [(va, instObj 98 dv), (dv, dictOf (scEs w t1 t2 t3 t4 t5 t6 t7 t8 v1 v2 v3 v4 v5 v6 (.str x t)) 8)]) := by
  unfold Does
  intro dp un gd cn cs fa ccd cl outer A₀ base h₀ L m s R B F X N T hkf hdp hun hret
  k_dflt (refine' code_defG ?k1 ?k2 ?k3 ?k4 ?k5 ?kA ?kF ?kK ?k6 ?k7 ?k8 ?k9 ?kB ?_ ?c2 ?c3 ?c4 ?c5; (case kA => exact rfl); (case kF => exact rfl); (case kK => first | assumption | exact rfl); (case k1 => k_asm); (case k2 => k_asm); (case k3 => k_asm); (case k4 => k_asm); (case k5 => k_asm); (case k6 => k_is); (case k7 => k_is); (case k8 => ktr_room); (case k9 => exact BindsTo.of_eq rfl); (case c5 => decide); (case kB => exact locs rfl); (case c2 => exact rfl); (case c3 => exact rfl); (case c4 => exact rfl); k_whole; intro g' L' h' FG' F' N' B' X' T' kG'; (try dsimp only); (try k_lift B'); (try k_fold))
  k_steps
  exact hret _ _ _ _ (by k_asm) (by k_asm) (left_of (by assumption) (by assumption) (by assumption)) ⟨rfl, rfl⟩
theorem text_str {x : Str} {t : Tok} : Does 3 w p loose mean mg mb 331 [.str x t] [] (fun r n => r = .str x t ∧ n = []) := by
  unfold Does
  intro dp un gd cn cs fa ccd cl outer A₀ base h₀ L m s R B F X N T hkf hdp hun hret
  k_dflt (refine' code_defG ?k1 ?k2 ?k3 ?k4 ?k5 ?kA ?kF ?kK ?k6 ?k7 ?k8 ?k9 ?kB ?_ ?c2 ?c3 ?c4 ?c5; (case kA => exact rfl); (case kF => exact rfl); (case kK => first | assumption | exact rfl); (case k1 => k_asm); (case k2 => k_asm); (case k3 => k_asm); (case k4 => k_asm); (case k5 => k_asm); (case k6 => k_is); (case k7 => k_is); (case k8 => ktr_room); (case k9 => exact BindsTo.of_eq rfl); (case c5 => decide); (case kB => exact locs rfl); (case c2 => exact rfl); (case c3 => exact rfl); (case c4 => exact rfl); k_whole; intro g' L' h' FG' F' N' B' X' T' kG'; (try dsimp only); (try k_lift B'); (try k_fold))
  k_steps
  exact hret _ [] _ _ (by k_asm) (List.forall_mem_nil _) (left_of (by assumption) (by assumption) (List.forall_mem_nil _)) ⟨rfl, rfl⟩
theorem num_int {x : Int} {t : Tok} {la : Addr} : Does 3 w p loose mean mg mb 338 [.int x t, .ref la] [] (fun r n => r = .int x t ∧ n = []) := by
  unfold Does
  intro dp un gd cn cs fa ccd cl outer A₀ base h₀ L m s R B F X N T hkf hdp hun hret
  k_dflt (refine' code_defG ?k1 ?k2 ?k3 ?k4 ?k5 ?kA ?kF ?kK ?k6 ?k7 ?k8 ?k9 ?kB ?_ ?c2 ?c3 ?c4 ?c5; (case kA => exact rfl); (case kF => exact rfl); (case kK => first | assumption | exact rfl); (case k1 => k_asm); (case k2 => k_asm); (case k3 => k_asm); (case k4 => k_asm); (case k5 => k_asm); (case k6 => k_is); (case k7 => k_is); (case k8 => ktr_room); (case k9 => exact BindsTo.of_eq rfl); (case c5 => decide); (case kB => exact locs rfl); (case c2 => exact rfl); (case c3 => exact rfl); (case c4 => exact rfl); k_whole; intro g' L' h' FG' F' N' B' X' T' kG'; (try dsimp only); (try k_lift B'); (try k_fold))
  k_steps
  exact hret _ [] _ _ (by k_asm) (List.forall_mem_nil _) (left_of (by assumption) (by assumption) (List.forall_mem_nil _)) ⟨rfl, rfl⟩
theorem need_spec {x : Str} {t t1 t2 t3 t4 t5 t6 t7 t8 : Tok} {va dv : Addr} {v1 v2 v3 v4 v5 v6 : Value} : Does 3 w p loose mean mg mb 289 [.ref va] [(va, instObj 98 dv), (dv, dictOf (scEs w t1 t2 t3 t4 t5 t6 t7 t8 v1 v2 v3 v4 v5 v6 (.str x t)) 8)]
    (fun r n => r = .ref va ∧ n = [(va, instObj 98 dv), (dv, dictOf (scEs w t1 t2 t3 t4 t5 t6 t7 t8 v1 v2 v3 v4 v5 v6 (.str x t)) 8)]) := by
  unfold Does
  intro dp un gd cn cs fa ccd cl outer A₀ base h₀ L m s R B F X N T hkf hdp hun hret
  k_dflt (refine' code_defG ?k1 ?k2 ?k3 ?k4 ?k5 ?kA ?kF ?kK ?k6 ?k7 ?k8 ?k9 ?kB ?_ ?c2 ?c3 ?c4 ?c5; (case kA => exact rfl); (case kF => exact rfl); (case kK => first | assumption | exact rfl); (case k1 => k_asm); (case k2 => k_asm); (case k3 => k_asm); (case k4 => k_asm); (case k5 => k_asm); (case k6 => k_is); (case k7 => k_is); (case k8 => ktr_room); (case k9 => exact BindsTo.of_eq rfl); (case c5 => decide); (case kB => exact locs rfl); (case c2 => exact rfl); (case c3 => exact rfl); (case c4 => exact rfl); k_whole; intro g' L' h' FG' F' N' B' X' T' kG'; (try dsimp only); (try k_lift B'); (try k_fold))
  k_steps
  have hm : ∀ p ∈ [(va, instObj 98 dv), (dv, dictOf (scEs w t1 t2 t3 t4 t5 t6 t7 t8 v1 v2 v3 v4 v5 v6 (.str x t)) 8)], ∀ q, p ∈ q :: [(va, instObj 98 dv), (dv, dictOf (scEs w t1 t2 t3 t4 t5 t6 t7 t8 v1 v2 v3 v4 v5 v6 (.str x t)) 8)] := fun p hp q => .tail _ hp
  exact hret _ [(va, instObj 98 dv), (dv, dictOf (scEs w t1 t2 t3 t4 t5 t6 t7 t8 v1 v2 v3 v4 v5 v6 (.str x t)) 8)] _ _ (by k_asm) (cb_drop (by k_asm) (fun p hp => hm p hp _)) (left_of (by assumption) (by assumption) (cb_drop (by assumption) (fun p hp => hm p hp _))) ⟨rfl, rfl⟩


/-- the arguments of substr, seen from text_at 0 -/
theorem at0_spec {x : Str} {t t1 t2 t3 t4 t5 t6 t7 t8 tz : Tok} {va dv al : Addr} {v1 v2 v3 v4 v5 v6 : Value} {vs : List Value} {n : Nat} : Does 7 w p loose mean mg mb 345 [.ref al, .int 0 tz] [(al, listOf (Value.ref va :: vs).toArray n), (va, instObj 98 dv), (dv, dictOf (scEs w t1 t2 t3 t4 t5 t6 t7 t8 v1 v2 v3 v4 v5 v6 (.str x t)) 8)]
    (fun r n' => r = .str x t ∧ n' = [(al, listOf (Value.ref va :: vs).toArray n), (va, instObj 98 dv), (dv, dictOf (scEs w t1 t2 t3 t4 t5 t6 t7 t8 v1 v2 v3 v4 v5 v6 (.str x t)) 8)]) := by
  k_with_none
  k_with "execs cons" => (k_here; (with_reducible refine' gentk ?F ?e1 ?e2 ?e3 ?e4 ?_); (case F => k_asm); (case e1 => k_dflt exact rfl); (case e2 => k_dflt exact rfl); (case e3 => k_dflt exact rfl); (case e4 => k_dflt exact rfl); intro tk')
  k_with "call ref" => (k_here; (with_reducible show wpAny _ _ (call (Value.ref 324) [Value.str _ _]) _ _ _); (k_dflt (refine' Does.ro val_str ?k1 ?k2 ?k3 ?k4 ?k5 ?kK ?kd ?ku ?km ?_; (case k1 => k_asm); (case k2 => k_asm); (case k3 => k_asm); (case k4 => k_asm); (case k5 => k_asm); (case kK => first | assumption | exact rfl); (case kd => ktr_room); (case ku => ktr_units); (case km => (repeat (first | exact List.forall_mem_nil _ | (refine List.forall_mem_cons.mpr ⟨(by k_mem), ?_⟩)))); k_whole); intro r' h' tk' F' N' G' q'; subst q'; (try k_fold)))
  k_with "call ref" => (k_here; (with_reducible show wpAny _ _ (call (Value.ref 324) [Value.int _ _]) _ _ _); (k_dflt (refine' Does.ro val_int ?k1 ?k2 ?k3 ?k4 ?k5 ?kK ?kd ?ku ?km ?_; (case k1 => k_asm); (case k2 => k_asm); (case k3 => k_asm); (case k4 => k_asm); (case k5 => k_asm); (case kK => first | assumption | exact rfl); (case kd => ktr_room); (case ku => ktr_units); (case km => (repeat (first | exact List.forall_mem_nil _ | (refine List.forall_mem_cons.mpr ⟨(by k_mem), ?_⟩)))); k_whole); intro r' h' tk' F' N' G' q'; subst q'; (try k_fold)))
  k_with "call ref" => (k_here; (with_reducible show wpAny _ _ (call (Value.ref 324) [Value.ref _]) _ _ _); (k_dflt (refine' Does.ro val_scalar ?k1 ?k2 ?k3 ?k4 ?k5 ?kK ?kd ?ku ?km ?_; (case k1 => k_asm); (case k2 => k_asm); (case k3 => k_asm); (case k4 => k_asm); (case k5 => k_asm); (case kK => first | assumption | exact rfl); (case kd => ktr_room); (case ku => ktr_units); (case km => (repeat (first | exact List.forall_mem_nil _ | (refine List.forall_mem_cons.mpr ⟨(by k_mem), ?_⟩)))); k_whole); intro r' h' tk' F' N' G' q'; subst q'; (try k_fold)))
  k_with "call ref" => (k_here; (with_reducible show wpAny _ _ (call (Value.ref 331) _) _ _ _); (k_dflt (refine' Does.ro text_str ?k1 ?k2 ?k3 ?k4 ?k5 ?kK ?kd ?ku ?km ?_; (case k1 => k_asm); (case k2 => k_asm); (case k3 => k_asm); (case k4 => k_asm); (case k5 => k_asm); (case kK => first | assumption | exact rfl); (case kd => ktr_room); (case ku => ktr_units); (case km => (repeat (first | exact List.forall_mem_nil _ | (refine List.forall_mem_cons.mpr ⟨(by k_mem), ?_⟩)))); k_whole); intro r' h' tk' F' N' G' q'; subst q'; (try k_fold)))
  k_with "call ref" => (k_here; (with_reducible show wpAny _ _ (call (Value.ref 338) _) _ _ _); (k_dflt (refine' Does.ro num_int ?k1 ?k2 ?k3 ?k4 ?k5 ?kK ?kd ?ku ?km ?_; (case k1 => k_asm); (case k2 => k_asm); (case k3 => k_asm); (case k4 => k_asm); (case k5 => k_asm); (case kK => first | assumption | exact rfl); (case kd => ktr_room); (case ku => ktr_units); (case km => (repeat (first | exact List.forall_mem_nil _ | (refine List.forall_mem_cons.mpr ⟨(by k_mem), ?_⟩)))); k_whole); intro r' h' tk' F' N' G' q'; subst q'; (try k_fold)))
  unfold Does
  intro dp un gd cn cs fa ccd cl outer A₀ base h₀ L m s R B F X N T hkf hdp hun hret
  k_dflt (refine' code_defG ?k1 ?k2 ?k3 ?k4 ?k5 ?kA ?kF ?kK ?k6 ?k7 ?k8 ?k9 ?kB ?_ ?c2 ?c3 ?c4 ?c5; (case kA => exact rfl); (case kF => exact rfl); (case kK => first | assumption | exact rfl); (case k1 => k_asm); (case k2 => k_asm); (case k3 => k_asm); (case k4 => k_asm); (case k5 => k_asm); (case k6 => k_is); (case k7 => k_is); (case k8 => ktr_room); (case k9 => exact BindsTo.of_eq rfl); (case c5 => decide); (case kB => exact locs rfl); (case c2 => exact rfl); (case c3 => exact rfl); (case c4 => exact rfl); k_whole; intro g' L' h' FG' F' N' B' X' T' kG'; (try dsimp only); (try k_lift B'); (try k_fold))
  k_steps
  exact hret _ _ _ _ (by k_asm) (by k_asm) (left_of (by assumption) (by assumption) (by assumption)) ⟨rfl, rfl⟩
theorem at3_spec {x : Str} {t tz : Tok} {al : Addr} {v0 v1 v2 : Value} {n : Nat} : Does 7 w p loose mean mg mb 345 [.ref al, .int 3 tz] [(al, listOf #[v0, v1, v2, .str x t] n)]
    (fun r n' => r = .str x t ∧ n' = [(al, listOf #[v0, v1, v2, .str x t] n)]) := by
  unfold Does
  intro dp un gd cn cs fa ccd cl outer A₀ base h₀ L m s R B F X N T hkf hdp hun hret
  k_dflt (refine' code_defG ?k1 ?k2 ?k3 ?k4 ?k5 ?kA ?kF ?kK ?k6 ?k7 ?k8 ?k9 ?kB ?_ ?c2 ?c3 ?c4 ?c5; (case kA => exact rfl); (case kF => exact rfl); (case kK => first | assumption | exact rfl); (case k1 => k_asm); (case k2 => k_asm); (case k3 => k_asm); (case k4 => k_asm); (case k5 => k_asm); (case k6 => k_is); (case k7 => k_is); (case k8 => ktr_room); (case k9 => exact BindsTo.of_eq rfl); (case c5 => decide); (case kB => exact locs rfl); (case c2 => exact rfl); (case c3 => exact rfl); (case c4 => exact rfl); k_whole; intro g' L' h' FG' F' N' B' X' T' kG'; (try dsimp only); (try k_lift B'); (try k_fold))
  k_steps
  exact hret _ _ _ _ (by k_asm) (by k_asm) (left_of (by assumption) (by assumption) (by assumption)) ⟨rfl, rfl⟩
theorem num1_spec {x : Int} {t tz : Tok} {ra dr la al : Addr} {v0 v2 v3 v : Value} {n nR : Nat} {esR : List DictEntry} (g1 : getL (Str.ofString "limits") esR = some (some (.ref la))) :
    Does 7 w p loose mean mg mb 352 [.ref ra, .ref al, .int 1 tz, v] [(al, listOf #[v0, .int x t, v2, v3] n), (ra, instObj 514 dr), (dr, dictOf esR nR)]
    (fun r n' => r = .int x t ∧ n' = [(al, listOf #[v0, .int x t, v2, v3] n), (ra, instObj 514 dr), (dr, dictOf esR nR)]) := by
  unfold Does
  intro dp un gd cn cs fa ccd cl outer A₀ base h₀ L m s R B F X N T hkf hdp hun hret
  k_dflt (refine' code_defG ?k1 ?k2 ?k3 ?k4 ?k5 ?kA ?kF ?kK ?k6 ?k7 ?k8 ?k9 ?kB ?_ ?c2 ?c3 ?c4 ?c5; (case kA => exact rfl); (case kF => exact rfl); (case kK => first | assumption | exact rfl); (case k1 => k_asm); (case k2 => k_asm); (case k3 => k_asm); (case k4 => k_asm); (case k5 => k_asm); (case k6 => k_is); (case k7 => k_is); (case k8 => ktr_room); (case k9 => exact BindsTo.of_eq rfl); (case c5 => decide); (case kB => exact locs rfl); (case c2 => exact rfl); (case c3 => exact rfl); (case c4 => exact rfl); k_whole; intro g' L' h' FG' F' N' B' X' T' kG'; (try dsimp only); (try k_lift B'); (try k_fold))
  k_steps
  exact hret _ _ _ _ (by k_asm) (by k_asm) (left_of (by assumption) (by assumption) (by assumption)) ⟨rfl, rfl⟩
theorem num2_spec {x : Int} {t tz : Tok} {ra dr la al : Addr} {v0 v1 v3 v : Value} {n nR : Nat} {esR : List DictEntry} (g1 : getL (Str.ofString "limits") esR = some (some (.ref la))) :
    Does 7 w p loose mean mg mb 352 [.ref ra, .ref al, .int 2 tz, v] [(al, listOf #[v0, v1, .int x t, v3] n), (ra, instObj 514 dr), (dr, dictOf esR nR)]
    (fun r n' => r = .int x t ∧ n' = [(al, listOf #[v0, v1, .int x t, v3] n), (ra, instObj 514 dr), (dr, dictOf esR nR)]) := by
  unfold Does
  intro dp un gd cn cs fa ccd cl outer A₀ base h₀ L m s R B F X N T hkf hdp hun hret
  k_dflt (refine' code_defG ?k1 ?k2 ?k3 ?k4 ?k5 ?kA ?kF ?kK ?k6 ?k7 ?k8 ?k9 ?kB ?_ ?c2 ?c3 ?c4 ?c5; (case kA => exact rfl); (case kF => exact rfl); (case kK => first | assumption | exact rfl); (case k1 => k_asm); (case k2 => k_asm); (case k3 => k_asm); (case k4 => k_asm); (case k5 => k_asm); (case k6 => k_is); (case k7 => k_is); (case k8 => ktr_room); (case k9 => exact BindsTo.of_eq rfl); (case c5 => decide); (case kB => exact locs rfl); (case c2 => exact rfl); (case c3 => exact rfl); (case c4 => exact rfl); k_whole; intro g' L' h' FG' F' N' B' X' T' kG'; (try dsimp only); (try k_lift B'); (try k_fold))
  k_steps
  exact hret _ _ _ _ (by k_asm) (by k_asm) (left_of (by assumption) (by assumption) (by assumption)) ⟨rfl, rfl⟩
end
end

-- StoreUse
section
set_option maxRecDepth 100000
set_option maxHeartbeats 1000000
theorem store_use {w : World} {p : Program} {loose : List Str} {mean : ExcName → Option Value} {mg mb : Str → Option Value} {x y : Str} {t ty tn t1 t2 t3 t4 t5 t6 t7 t8 : Tok} {nb : Int} {v2 v3 v4 v5 v6 : Value} {ca dc pa ea va dv : Addr} {esC : List DictEntry} {nC : Nat} {oP oE : Obj}
    {dp un : Nat} {gd : Option (List Code)} {cn : Str} {cs : Scope} {a : Addr} {ccd : Value} {cl : List (Str × Addr)} {outer : List Env} {A₀ : Around} {base h₀ : Heap} {L : Addr} {m : Str → Option Value} {s : Shared} {Q E : Value → Shared → Prop} {news : Led} {g : Obj → Led} {o₀ : Obj}
    (B : Below A₀ base outer h₀) (F : Fr h₀ L s.heap m) (X : (written.heap_1 w.params).In h₀) (N : News h₀ L s.heap news) (T : Top p loose mean mg mb h₀) (hk : cs.kind = .function) (hdp : dp + 6 < recursionLimit) (hun : un + 60 < cLine)
    (hs : ∀ p ∈ [(ca, instObj 493 dc), (dc, dictOf esC nC), (pa, oP), (ea, oE), (va, instObj 98 dv)], p ∈ news)
    (U : UpdF dv o₀ news g) (ho : o₀ = dictOf (scEs w t1 t2 t3 t4 t5 t6 t7 t8 (.int nb tn) v2 v3 v4 v5 v6 (.str y ty)) 8)
    (h1 : getL (Str.ofString "places") esC = some (some (.ref pa))) (h2 : getL (Str.ofString "empties") esC = some (some (.ref ea)))
    (m1 : getL (Str.ofString "take") esC = some none) (m2 : getL (Str.ofString "put_off") esC = some none)
    (lP : (pa == sysModules) = false) (hP : oP.IsDictOf (intKind PG w) []) (lE : (ea == sysModules) = false) (hE : oE.IsDictOf (intKind PG w) [])
    (hne : @Ne Nat dv ca ∧ @Ne Nat dv dc ∧ @Ne Nat dv pa ∧ @Ne Nat dv ea ∧ @Ne Nat dv va ∧ @Ne Nat pa ca ∧ @Ne Nat pa dc ∧ @Ne Nat pa ea ∧ @Ne Nat pa va ∧ @Ne Nat ea ca ∧ @Ne Nat ea dc ∧ @Ne Nat ea va)
    (k : ∀ h' tk', Fr h₀ L h' m → News h₀ L h' (g (dictOf (scEs w t1 t2 t3 t4 t5 t6 t7 t8 (.int nb tn) v2 v3 v4 v5 v6 (.str x t)) 8)) → GSub s.heap h' [dv] → Q .none { s with heap := h', toks := tk' }) :
    wpAny (model PG w) (ktrTop dp un gd cn cs L a ccd cl outer) (call (.ref 455) [.ref ca, .ref va, .str x t]) Q E s := by
  subst ho
  obtain ⟨pre, post, rfl, hg, d1, d2⟩ := U.split
  have hmo := N (dv, _) (List.mem_append_right _ (.head _))
  have Ns : News h₀ L s.heap [(ca, instObj 493 dc), (dc, dictOf esC nC), (pa, oP), (ea, oE), (va, instObj 98 dv), (dv, dictOf (scEs w t1 t2 t3 t4 t5 t6 t7 t8 (.int nb tn) v2 v3 v4 v5 v6 (.str y ty)) 8)] := fun p hp => by
    rcases List.mem_append.mp (show p ∈ [(ca, instObj 493 dc), (dc, dictOf esC nC), (pa, oP), (ea, oE), (va, instObj 98 dv)] ++ [(dv, dictOf (scEs w t1 t2 t3 t4 t5 t6 t7 t8 (.int nb tn) v2 v3 v4 v5 v6 (.str y ty)) 8)] from hp) with hp | hp
    · exact N p (hs p hp)
    · rw [List.mem_singleton.mp hp]; exact hmo
  refine Does.go (store_spec (x := x) (t := t) h1 h2 m1 m2 lP hP lE hE hne) B F X Ns T hk hdp hun fun r news' h' tk' F' N' G q => ?_
  obtain ⟨rfl, rfl⟩ := q
  have G' : GSub s.heap h' [dv] := fun b ob e nb => by
    by_cases hb : b ∈ ([(ca, instObj 493 dc), (dc, dictOf esC nC), (pa, oP), (ea, oE), (va, instObj 98 dv)] : Led).map (·.1)
    · obtain ⟨p, hp, rfl⟩ := List.mem_map.mp hb
      have h3 := (Ns p (List.mem_append_left [_] hp)).1
      rw [e] at h3; cases h3
      exact (N' p (List.mem_append_left [_] hp)).1
    · refine G.1 b ob e fun q => ?_
      rcases List.mem_append.mp (show b ∈ ([(ca, instObj 493 dc), (dc, dictOf esC nC), (pa, oP), (ea, oE), (va, instObj 98 dv)] : Led).map (·.1) ++ [dv] from q) with q | q
      · exact hb q
      · exact nb q
  refine k h' tk' F' (hg _ ▸ fun p hp => ?_) G'
  rcases List.mem_append.mp hp with hp | hp
  · exact ⟨G' _ _ (N p (List.mem_append_left _ hp)).1 (fun q => d1 p hp (List.mem_singleton.mp q)), (N p (List.mem_append_left _ hp)).2⟩
  · rcases List.mem_cons.mp hp with rfl | hp
    · exact N' _ (List.mem_append_right [_, _, _, _, _] (.head _))
    · exact ⟨G' _ _ (N p (List.mem_append_right _ (.tail _ hp))).1 (fun q => d2 p hp (List.mem_singleton.mp q)), (N p (List.mem_append_right _ (.tail _ hp))).2⟩

end

-- Substr
section
set_option maxRecDepth 100000
set_option maxHeartbeats 1000000

theorem whole_len {a nw : List Nat} (ha : a.length ≤ 100) (hn : nw.length ≤ 100) (x y u v : Option Int) : (Txt.slice (tx a) x y ++ tx nw ++ Txt.slice (tx a) u v).length ≤ 400 := by
  rw [Str.length_append, Str.length_append]
  have h1 := PyProof.Txt.length_slice_le (tx a) x y
  have h2 := PyProof.Txt.length_slice_le (tx a) u v
  have h3 := tx_len a
  have h4 := tx_len nw
  omega
-- the pieces

theorem substr_spec {w : World} {p : Program} {loose : List Str} {mean : ExcName → Option Value} {mg mb : Str → Option Value} {a nw : List Nat} {t to tc tw tx1 tn t1 t2 t3 t4 t5 t6 t7 t8 tm : Tok} {off cnt most nb : Int} {v2 v3 v4 v5 v6 : Value} {ra dr la dl ca dc pa ea va dv al : Addr} {esR esL esC : List DictEntry} {nR nL nC nA : Nat} {oP oE : Obj}
    (ha : a.length ≤ 100) (hn : nw.length ≤ 100) (ho : -100 ≤ off ∧ off ≤ 100) (hc : -100 ≤ cnt ∧ cnt ≤ 100)
    (g1 : getL (Str.ofString "limits") esR = some (some (.ref la))) (g2 : getL (Str.ofString "counter") esR = some (some (.ref ca))) (g3 : getL (Str.ofString "text") esL = some (some (.int most tm)))
    (h1 : getL (Str.ofString "places") esC = some (some (.ref pa))) (h2 : getL (Str.ofString "empties") esC = some (some (.ref ea)))
    (m1 : getL (Str.ofString "take") esC = some none) (m2 : getL (Str.ofString "put_off") esC = some none) (m3 : getL (Str.ofString "store") esC = some none)
    (lP : (pa == sysModules) = false) (hP : oP.IsDictOf (intKind PG w) []) (lE : (ea == sysModules) = false) (hE : oE.IsDictOf (intKind PG w) [])
    (ord : @LT.lt Nat _ dl la ∧ @LT.lt Nat _ la dc ∧ @LT.lt Nat _ dc ca ∧ @LT.lt Nat _ ca pa ∧ @LT.lt Nat _ pa ea ∧ @LT.lt Nat _ ea dr ∧ @LT.lt Nat _ dr ra ∧ @LT.lt Nat _ ra dv ∧ @LT.lt Nat _ dv va ∧ @LT.lt Nat _ va al) :
    DoesR 60 w p loose mean mg mb 394 [.ref ra, .ref al, .int 1 tw] [(al, listOf #[.ref va, .int off to, .int cnt tc, .str (tx nw) tx1] nA), (ra, instObj 514 dr), (dr, dictOf esR nR), (la, instObj 536 dl), (dl, dictOf esL nL), (ca, instObj 493 dc), (dc, dictOf esC nC), (pa, oP), (ea, oE), (va, instObj 98 dv), (dv, dictOf (scEs w t1 t2 t3 t4 t5 t6 t7 t8 (.int nb tn) v2 v3 v4 v5 v6 (.str (tx a) t)) 8)]
      (fun r news' => ∃ b e u1 u2, cutL a.length off cnt = some (b, e) ∧ r = .str (Txt.slice (tx a) (some b) (some e)) u1 ∧ ((Txt.slice (tx a) none (some b) ++ tx nw ++ Txt.slice (tx a) (some e) none).length : Int) ≤ most ∧
        news' = [(al, listOf #[.ref va, .int off to, .int cnt tc, .str (tx nw) tx1] nA), (ra, instObj 514 dr), (dr, dictOf esR nR), (la, instObj 536 dl), (dl, dictOf esL nL), (ca, instObj 493 dc), (dc, dictOf esC nC), (pa, oP), (ea, oE), (va, instObj 98 dv), (dv, dictOf (scEs w t1 t2 t3 t4 t5 t6 t7 t8 (.int nb tn) v2 v3 v4 v5 v6 (.str (Txt.slice (tx a) none (some b) ++ tx nw ++ Txt.slice (tx a) (some e) none) u2)) 8)])
      (∀ b e, cutL a.length off cnt = some (b, e) → most < ((Txt.slice (tx a) none (some b) ++ tx nw ++ Txt.slice (tx a) (some e) none).length : Int)) := by
  k_with_none
  k_with "execs cons" => (k_here; (with_reducible refine' gentk ?F ?e1 ?e2 ?e3 ?e4 ?_); (case F => k_asm); (case e1 => k_dflt exact rfl); (case e2 => k_dflt exact rfl); (case e3 => k_dflt exact rfl); (case e4 => k_dflt exact rfl); intro tk')
  k_with "call ref" => (k_here; (with_reducible show wpAny _ _ (call (Value.ref 345) [_, Value.int 0 _]) _ _ _); (k_dflt (refine' Does.ro at0_spec ?k1 ?k2 ?k3 ?k4 ?k5 ?kK ?kd ?ku ?km ?_; (case k1 => k_asm); (case k2 => k_asm); (case k3 => k_asm); (case k4 => k_asm); (case k5 => k_asm); (case kK => first | assumption | exact rfl); (case kd => ktr_room); (case ku => ktr_units); (case km => (repeat (first | exact List.forall_mem_nil _ | (refine List.forall_mem_cons.mpr ⟨(by k_mem), ?_⟩)))); k_whole); intro r' h' tk' F' N' G' q'; subst q'; (try k_fold)))
  k_with "call ref" => (k_here; (with_reducible show wpAny _ _ (call (Value.ref 345) [_, Value.int 3 _]) _ _ _); (k_dflt (refine' Does.ro at3_spec ?k1 ?k2 ?k3 ?k4 ?k5 ?kK ?kd ?ku ?km ?_; (case k1 => k_asm); (case k2 => k_asm); (case k3 => k_asm); (case k4 => k_asm); (case k5 => k_asm); (case kK => first | assumption | exact rfl); (case kd => ktr_room); (case ku => ktr_units); (case km => (repeat (first | exact List.forall_mem_nil _ | (refine List.forall_mem_cons.mpr ⟨(by k_mem), ?_⟩)))); k_whole); intro r' h' tk' F' N' G' q'; subst q'; (try k_fold)))
  k_with "call ref" => (k_here; (with_reducible show wpAny _ _ (call (Value.ref 352) [_, _, Value.int 1 _, _]) _ _ _); (k_dflt (refine' Does.ro (num1_spec (by with_reducible assumption)) ?k1 ?k2 ?k3 ?k4 ?k5 ?kK ?kd ?ku ?km ?_; (case k1 => k_asm); (case k2 => k_asm); (case k3 => k_asm); (case k4 => k_asm); (case k5 => k_asm); (case kK => first | assumption | exact rfl); (case kd => ktr_room); (case ku => ktr_units); (case km => (repeat (first | exact List.forall_mem_nil _ | (refine List.forall_mem_cons.mpr ⟨(by k_mem), ?_⟩)))); k_whole); intro r' h' tk' F' N' G' q'; subst q'; (try k_fold)))
  k_with "call ref" => (k_here; (with_reducible show wpAny _ _ (call (Value.ref 352) [_, _, Value.int 2 _, _]) _ _ _); (k_dflt (refine' Does.ro (num2_spec (by with_reducible assumption)) ?k1 ?k2 ?k3 ?k4 ?k5 ?kK ?kd ?ku ?km ?_; (case k1 => k_asm); (case k2 => k_asm); (case k3 => k_asm); (case k4 => k_asm); (case k5 => k_asm); (case kK => first | assumption | exact rfl); (case kd => ktr_room); (case ku => ktr_units); (case km => (repeat (first | exact List.forall_mem_nil _ | (refine List.forall_mem_cons.mpr ⟨(by k_mem), ?_⟩)))); k_whole); intro r' h' tk' F' N' G' q'; subst q'; (try k_fold)))
  k_with "call ref" => (k_here; (with_reducible show wpAny _ _ (call (Value.ref 289) _) _ _ _); (k_dflt (refine' Does.ro need_spec ?k1 ?k2 ?k3 ?k4 ?k5 ?kK ?kd ?ku ?km ?_; (case k1 => k_asm); (case k2 => k_asm); (case k3 => k_asm); (case k4 => k_asm); (case k5 => k_asm); (case kK => first | assumption | exact rfl); (case kd => ktr_room); (case ku => ktr_units); (case km => (repeat (first | exact List.forall_mem_nil _ | (refine List.forall_mem_cons.mpr ⟨(by k_mem), ?_⟩)))); k_whole); intro r' h' tk' F' N' G' q'; subst q'; (try k_fold)))
  k_with "call ref" => (k_here; (with_reducible show wpAny _ _ (call (Value.ref 373) _) _ _ _); k_dflt (refine' DoesR.mk (put_spec ?ha ?hn ?ho ?hc) ?k1 ?k2 ?k3 ?k4 ?k5 ?kK ?kd ?ku ?_ ?_; (case k1 => k_asm); (case k2 => k_asm); (case k3 => k_asm); (case k4 => k_asm); (case k5 => k_asm); (case kK => first | assumption | exact rfl); (case kd => ktr_room); (case ku => ktr_units); (case ha => omega); (case hn => omega); (case ho => omega); (case hc => omega)); (intro r' n' h' tk' F' N' G' e' q'; obtain ⟨b9, e9, T9, n9, t9, u9, c9, e1, e2⟩ := q'; subst e1 e2; (have l1 := e' _ (List.Mem.head _)); (simp only [AllNe, and_true] at l1); (try dsimp only at l1); (replace l1 := l1.2.2.2.2.2.2.2.2.2.2); (try k_fold)))
  k_with "call ref" => (k_here; (with_reducible show wpAny _ _ (call (Value.ref 387) _) _ _ _); k_dflt (refine' DoesR.ro (within_ro ?ha ?g1 ?g2) ?k1 ?k2 ?k3 ?k4 ?k5 ?kK ?kd ?ku ?km ?_ ?_; (case k1 => k_asm); (case k2 => k_asm); (case k3 => k_asm); (case k4 => k_asm); (case k5 => k_asm); (case kK => first | assumption | exact rfl); (case kd => ktr_room); (case ku => ktr_units); (case g1 => with_reducible assumption); (case g2 => with_reducible assumption); (case km => (repeat (first | exact List.forall_mem_nil _ | (refine List.forall_mem_cons.mpr ⟨(by k_mem), ?_⟩)))); (case ha => exact whole_len (by assumption) (by assumption) _ _ _ _)); (intro r' h' tk' F' N' G' q'; obtain ⟨e1, q'⟩ := q'; subst e1; (try k_fold)))
  k_with "call ref" => (k_here; (with_reducible show wpAny _ _ (call (Value.ref 455) _) _ _ _); k_dflt (refine' store_use ?k1 ?k2 ?k3 ?k4 ?k5 ?kK ?kd ?ku ?km ?U ?ho ?h1 ?h2 ?m1 ?m2 ?lP ?hP ?lE ?hE ?hne ?_; (case k1 => k_asm); (case k2 => k_asm); (case k3 => k_asm); (case k4 => k_asm); (case k5 => k_asm); (case kK => first | assumption | exact rfl); (case kd => ktr_room); (case ku => ktr_units); (case h1 => with_reducible assumption); (case h2 => with_reducible assumption); (case m1 => with_reducible assumption); (case m2 => with_reducible assumption); (case km => (repeat (first | exact List.forall_mem_nil _ | (refine List.forall_mem_cons.mpr ⟨(by k_mem), ?_⟩)))); (case U => k_updF); (case ho => with_reducible rfl); (case lP => assumption); (case hP => assumption); (case lE => assumption); (case hE => assumption); (case hne => (refine ⟨?_, ?_, ?_, ?_, ?_, ?_, ?_, ?_, ?_, ?_, ?_, ?_⟩ <;> (k_dflt (first | with_reducible assumption | exact lt1_lt (by assumption) (by k_mem) | k_ne | omega))))); (intro h' tk' F' N' G'; (try dsimp only at N'); (try k_fold)))
  have cc1 := lt1_chain ord.1 lt1_nil
  have cc2 := lt1_chain ord.2.1 cc1
  have cc3 := lt1_chain ord.2.2.1 cc2
  have cc4 := lt1_chain ord.2.2.2.1 cc3
  have cc5 := lt1_chain ord.2.2.2.2.1 cc4
  have cc6 := lt1_chain ord.2.2.2.2.2.1 cc5
  have cc7 := lt1_chain ord.2.2.2.2.2.2.1 cc6
  have cc8 := lt1_chain ord.2.2.2.2.2.2.2.1 cc7
  have cc9 := lt1_chain ord.2.2.2.2.2.2.2.2.1 cc8
  have cc10 := lt1_chain ord.2.2.2.2.2.2.2.2.2 cc9
  unfold DoesR
  intro dp un gd cn cs fa ccd cl outer A₀ base h₀ L m s R B F X N T hkf hdp hun hret hraise
  have hlen := tx_len a
  have hlen2 := tx_len nw
  k_dflt (refine' code_defG ?k1 ?k2 ?k3 ?k4 ?k5 ?kA ?kF ?kK ?k6 ?k7 ?k8 ?k9 ?kB ?_ ?c2 ?c3 ?c4 ?c5; (case kA => exact rfl); (case kF => exact rfl); (case kK => first | assumption | exact rfl); (case k1 => k_asm); (case k2 => k_asm); (case k3 => k_asm); (case k4 => k_asm); (case k5 => k_asm); (case k6 => k_is); (case k7 => k_is); (case k8 => ktr_room); (case k9 => exact BindsTo.of_eq rfl); (case c5 => decide); (case kB => exact locs rfl); (case c2 => exact rfl); (case c3 => exact rfl); (case c4 => exact rfl); k_whole; intro g' L' h' FG' F' N' B' X' T' kG'; (try dsimp only); (try k_lift B'); (try k_fold))
  k_steps
  · exact hret _ _ _ _ (by k_asm) (cb_drop (by k_asm) (fun p hp => .tail _ hp)) (left_of (by assumption) (by assumption) (cb_drop (by assumption) (fun p hp => .tail _ hp))) ⟨_, _, _, _, by assumption, rfl, by assumption, rfl⟩
  · intro e h9 tk9 fl rc
    refine fly_next (S₀ := s.heap) rfl rfl fl (sub_g (by assumption) (by assumption) (cb_drop (by assumption) (fun p hp => .tail _ hp)) (fun p hp => (N p hp).1)) (fresh_L (by assumption) (by assumption) (cb_drop (by assumption) (fun p hp => .tail _ hp))) fun h8 fl8 => hraise _ _ _ fl8 ?_
    (rename cutL _ _ _ = _ => c9)
    intro b e hbe
    rw [c9] at hbe
    cases hbe
    exact rc
  · intro e h9 tk9 fl rc
    exact fly_next (S₀ := s.heap) rfl rfl fl (sub_g (by assumption) (by assumption) (by assumption) (fun p hp => (N p hp).1)) (fresh_L (by assumption) (by assumption) (by assumption)) fun h8 fl8 => hraise _ _ _ fl8 fun b e hbe => by rw [rc] at hbe; cases hbe
end

-- Quote
section
set_option maxRecDepth 100000
set_option maxHeartbeats 8000000

/-- one sign guarded -/
def quo (c : Nat) : List Nat := if c = 97 ∨ c = 98 ∨ c = 95 then [c] else [92, c]

abbrev NS : Str := Str.ofString "ABCDEFGHIJKLMNOPQRSTUVWXYZabcdefghijklmnopqrstuvwxyz0123456789_"
theorem occ_of {c : Nat} (h : c ∈ [97, 46, 98, 36, 95, 92]) : (Builtin.Str.occurrences NS ⟨#[c]⟩ 0 NS.length 1).isEmpty = decide (¬ (c = 97 ∨ c = 98 ∨ c = 95)) := by
  simp only [List.mem_cons, List.not_mem_nil, or_false] at h
  rcases h with rfl | rfl | rfl | rfl | rfl | rfl <;> decide +kernel
theorem code_mem {a : List Nat} {pre post : List Int} {n : Nat} (h : KStt.codes (tx a) = pre ++ (n : Int) :: post) : n ∈ a := by
  have e : (n : Int) ∈ KStt.codes (tx a) := by rw [h]; simp
  simp only [KStt.codes, List.mem_map] at e
  obtain ⟨c, hc, e⟩ := e
  have : c = n := by omega
  subst this
  simpa using hc
theorem codes_back (a : List Nat) : (KStt.codes (tx a)).map Int.toNat = a := by
  simp only [KStt.codes, List.map_map]
  rw [show (Int.toNat ∘ fun (c : Nat) => (c : Int)) = id from funext fun c => Int.toNat_natCast c]
  simp
theorem len_quo (c : Nat) : (quo c).length ≤ 2 := by unfold quo; split <;> simp
theorem bs : Str.ofString "\\" = tx [92] := by decide +kernel
theorem quo_plain {out : Str} {a : List Nat} {pre post : List Int} {n : Nat} (hal : ∀ c ∈ a, c ∈ [97, 46, 98, 36, 95, 92]) (e : KStt.codes (tx a) = pre ++ (n : Int) :: post)
    (ho : out = tx ((pre.map Int.toNat).flatMap quo)) (hl : out.length ≤ 2 * pre.length) (hc : (Builtin.Str.occurrences NS ⟨#[n]⟩ 0 NS.length 1).isEmpty = false) :
    out ++ ⟨#[n]⟩ = tx (((pre ++ [(n : Int)]).map Int.toNat).flatMap quo) ∧ (out ++ (⟨#[n]⟩ : Str)).length ≤ 2 * (pre ++ [(n : Int)]).length := by
  rw [occ_of (hal n (code_mem e))] at hc
  have hq : quo n = [n] := by unfold quo; rw [if_pos (Decidable.not_not.mp (of_decide_eq_false hc))]
  have e1 : out ++ (⟨#[n]⟩ : Str) = tx ((pre.map Int.toNat).flatMap quo ++ [n]) := by rw [ho]; exact tx_app _ _
  refine ⟨?_, ?_⟩
  · rw [e1]; simp [hq]
  · rw [e1, tx_len, List.length_append]; rw [ho, tx_len] at hl; rw [List.length_append]; simp only [List.length_cons, List.length_nil]; omega
theorem quo_slash {out : Str} {a : List Nat} {pre post : List Int} {n : Nat} (hal : ∀ c ∈ a, c ∈ [97, 46, 98, 36, 95, 92]) (e : KStt.codes (tx a) = pre ++ (n : Int) :: post)
    (ho : out = tx ((pre.map Int.toNat).flatMap quo)) (hl : out.length ≤ 2 * pre.length) (hc : (Builtin.Str.occurrences NS ⟨#[n]⟩ 0 NS.length 1).isEmpty = true) :
    out ++ Str.ofString "\\" ++ ⟨#[n]⟩ = tx (((pre ++ [(n : Int)]).map Int.toNat).flatMap quo) ∧ (out ++ Str.ofString "\\" ++ (⟨#[n]⟩ : Str)).length ≤ 2 * (pre ++ [(n : Int)]).length := by
  rw [occ_of (hal n (code_mem e))] at hc
  have hq : quo n = [92, n] := by unfold quo; rw [if_neg (of_decide_eq_true hc)]
  have e1 : out ++ Str.ofString "\\" ++ (⟨#[n]⟩ : Str) = tx ((pre.map Int.toNat).flatMap quo ++ [92, n]) := by
    rw [ho, bs, tx_app ((pre.map Int.toNat).flatMap quo) [92]]
    have h9 := tx_app ((pre.map Int.toNat).flatMap quo ++ [92]) [n]
    rw [List.append_assoc] at h9
    exact h9
  refine ⟨?_, ?_⟩
  · rw [e1]; simp [hq]
  · rw [e1, tx_len, List.length_append]; rw [ho, tx_len] at hl; rw [List.length_append]; simp only [List.length_cons, List.length_nil]; omega
theorem quo_small {a : List Nat} {pre post : List Int} {n : Nat} (hal : ∀ c ∈ a, c ∈ [97, 46, 98, 36, 95, 92]) (e : KStt.codes (tx a) = pre ++ (n : Int) :: post) (h : ¬ (n : Int) < 128) : False := by
  have := hal n (code_mem e)
  simp only [List.mem_cons, List.not_mem_nil, or_false] at this
  omega
theorem quo_start : Str.ofString "" = tx ((([] : List Int).map Int.toNat).flatMap quo) ∧ (Str.ofString "").length ≤ 2 * ([] : List Int).length := by decide +kernel

theorem quote_spec {w : World} {p : Program} {loose : List Str} {mean : ExcName → Option Value} {mg mb : Str → Option Value} {a : List Nat} {t : Tok}
    (ha : a.length ≤ 100) (hal : ∀ c ∈ a, c ∈ [97, 46, 98, 36, 95, 92]) :
    Does 3 w p loose mean mg mb 380 [.str (tx a) t] [] (fun r news' => news' = [] ∧ ∃ t', r = .str (tx (a.flatMap quo)) t') := by
  k_with_none
  k_with "execs cons" => (k_here; (with_reducible refine' gentk ?F ?e1 ?e2 ?e3 ?e4 ?_); (case F => k_asm); (case e1 => k_dflt exact rfl); (case e2 => k_dflt exact rfl); (case e3 => k_dflt exact rfl); (case e4 => k_dflt exact rfl); intro tk')
  unfold Does
  intro dp un gd cn cs fa ccd cl outer A₀ base h₀ L m s R B F X N T hkf hdp hun hret
  have hlen := tx_len a
  k_dflt (refine' code_defG ?k1 ?k2 ?k3 ?k4 ?k5 ?kA ?kF ?kK ?k6 ?k7 ?k8 ?k9 ?kB ?_ ?c2 ?c3 ?c4 ?c5; (case kA => exact rfl); (case kF => exact rfl); (case kK => assumption); (case k1 => k_asm); (case k2 => k_asm); (case k3 => k_asm); (case k4 => k_asm); (case k5 => k_asm); (case k6 => k_is); (case k7 => k_is); (case k8 => ktr_room); (case k9 => exact BindsTo.of_eq rfl); (case c5 => decide); (case kB => exact locs rfl); (case c2 => exact rfl); (case c3 => exact rfl); (case c4 => exact rfl); k_whole; intro g' L' h' FG' F' N' B' X' T' kG'; (try dsimp only); (try k_lift B'); (try k_fold))
  (k_with "pyIter str" => k_state (fun pre out => out = tx ((pre.map Int.toNat).flatMap quo) ∧ out.length ≤ 2 * pre.length) "out")
  (k_with "state" => first
    | exact quo_start
    | exact absurd (by assumption) (quo_small hal (by assumption))
    | exact (quo_small hal (by assumption) (by assumption)).elim
    | exact quo_plain hal (by assumption) (by assumption) (by assumption) (by assumption)
    | exact quo_slash hal (by assumption) (by assumption) (by assumption) (by assumption))
  k_steps
  (refine hret _ _ _ _ (by k_asm) (by k_asm) (left_of (by assumption) (by assumption) (by assumption)) ⟨rfl, ?_⟩)
  (rename _ = tx _ => hi)
  rw [codes_back] at hi
  subst hi
  exact ⟨_, rfl⟩
end

-- Qm
section
set_option maxRecDepth 100000
set_option maxHeartbeats 1000000
theorem quo_len {a : List Nat} (ha : a.length ≤ 100) : (tx (a.flatMap quo)).length ≤ 400 := by
  rw [tx_len, List.flatMap_def]
  have := len_flat (b := 2) (parts := a.map quo) (fun p hp => by obtain ⟨c, _, rfl⟩ := List.mem_map.mp hp; exact len_quo c)
  simp only [List.length_map] at this
  omega
theorem quote_ro {w : World} {p : Program} {loose : List Str} {mean : ExcName → Option Value} {mg mb : Str → Option Value} {a : List Nat} {t : Tok}
    (ha : a.length ≤ 100) (hal : ∀ c ∈ a, c ∈ [97, 46, 98, 36, 95, 92]) :
    Does 3 w p loose mean mg mb 380 [.str (tx a) t] [] (fun r news' => (∃ t', r = .str (tx (a.flatMap quo)) t') ∧ news' = []) :=
  fun dp un gd cn cs a' ccd cl outer A₀ base h₀ L m s R B F X N T h1 h2 h3 k => quote_spec ha hal dp un gd cn cs a' ccd cl outer A₀ base h₀ L m s R B F X N T h1 h2 h3 (fun r n h' tk' F' N' G q => k r n h' tk' F' N' G ⟨q.2, q.1⟩)

theorem qm_spec {w : World} {p : Program} {loose : List Str} {mean : ExcName → Option Value} {mg mb : Str → Option Value} {a : List Nat} {t tw t1 t2 t3 t4 t5 t6 t7 t8 tm : Tok} {most : Int} {v1 v2 v3 v4 v5 v6 : Value} {ra dr la dl va dv al : Addr} {esR esL : List DictEntry} {nR nL nA : Nat}
    (ha : a.length ≤ 100) (hal : ∀ c ∈ a, c ∈ [97, 46, 98, 36, 95, 92])
    (g1 : getL (Str.ofString "limits") esR = some (some (.ref la))) (g3 : getL (Str.ofString "text") esL = some (some (.int most tm))) :
    DoesR 30 w p loose mean mg mb 401 [.ref ra, .ref al, .int 1 tw] [(al, listOf #[.ref va] nA), (ra, instObj 514 dr), (dr, dictOf esR nR), (la, instObj 536 dl), (dl, dictOf esL nL), (va, instObj 98 dv), (dv, dictOf (scEs w t1 t2 t3 t4 t5 t6 t7 t8 v1 v2 v3 v4 v5 v6 (.str (tx a) t)) 8)]
      (fun r news' => (∃ t', r = .str (tx (a.flatMap quo)) t' ∧ ((tx (a.flatMap quo)).length : Int) ≤ most) ∧
        news' = [(al, listOf #[.ref va] nA), (ra, instObj 514 dr), (dr, dictOf esR nR), (la, instObj 536 dl), (dl, dictOf esL nL), (va, instObj 98 dv), (dv, dictOf (scEs w t1 t2 t3 t4 t5 t6 t7 t8 v1 v2 v3 v4 v5 v6 (.str (tx a) t)) 8)])
      (most < ((tx (a.flatMap quo)).length : Int)) := by
  k_with_none
  k_with "execs cons" => (k_here; (with_reducible refine' gentk ?F ?e1 ?e2 ?e3 ?e4 ?_); (case F => k_asm); (case e1 => k_dflt exact rfl); (case e2 => k_dflt exact rfl); (case e3 => k_dflt exact rfl); (case e4 => k_dflt exact rfl); intro tk')
  k_with "call ref" => (k_here; (with_reducible show wpAny _ _ (call (Value.ref 345) [_, Value.int 0 _]) _ _ _); (k_dflt (refine' Does.ro at0_spec ?k1 ?k2 ?k3 ?k4 ?k5 ?kK ?kd ?ku ?km ?_; (case k1 => k_asm); (case k2 => k_asm); (case k3 => k_asm); (case k4 => k_asm); (case k5 => k_asm); (case kK => first | assumption | exact rfl); (case kd => ktr_room); (case ku => ktr_units); (case km => (repeat (first | exact List.forall_mem_nil _ | (refine List.forall_mem_cons.mpr ⟨(by k_mem), ?_⟩)))); k_whole); intro r' h' tk' F' N' G' q'; subst q'; (try k_fold)))
  k_with "call ref" => (k_here; (with_reducible show wpAny _ _ (call (Value.ref 380) _) _ _ _); k_dflt (refine' Does.ro (quote_ro ?ha ?hal) ?k1 ?k2 ?k3 ?k4 ?k5 ?kK ?kd ?ku ?km ?_; (case k1 => k_asm); (case k2 => k_asm); (case k3 => k_asm); (case k4 => k_asm); (case k5 => k_asm); (case kK => first | assumption | exact rfl); (case kd => ktr_room); (case ku => ktr_units); (case km => exact List.forall_mem_nil _); (case ha => assumption); (case hal => assumption)); (intro r' h' tk' F' N' G' q'; obtain ⟨t9, e1⟩ := q'; subst e1; (try k_fold)))
  k_with "call ref" => (k_here; (with_reducible show wpAny _ _ (call (Value.ref 387) _) _ _ _); k_dflt (refine' DoesR.ro (within_ro ?ha ?g1 ?g2) ?k1 ?k2 ?k3 ?k4 ?k5 ?kK ?kd ?ku ?km ?_ ?_; (case k1 => k_asm); (case k2 => k_asm); (case k3 => k_asm); (case k4 => k_asm); (case k5 => k_asm); (case kK => first | assumption | exact rfl); (case kd => ktr_room); (case ku => ktr_units); (case g1 => with_reducible assumption); (case g2 => with_reducible assumption); (case km => (repeat (first | exact List.forall_mem_nil _ | (refine List.forall_mem_cons.mpr ⟨(by k_mem), ?_⟩)))); (case ha => exact quo_len (by assumption))); (intro r' h' tk' F' N' G' q'; obtain ⟨e1, q'⟩ := q'; subst e1; (try k_fold)))
  unfold DoesR
  intro dp un gd cn cs fa ccd cl outer A₀ base h₀ L m s R B F X N T hkf hdp hun hret hraise
  k_dflt (refine' code_defG ?k1 ?k2 ?k3 ?k4 ?k5 ?kA ?kF ?kK ?k6 ?k7 ?k8 ?k9 ?kB ?_ ?c2 ?c3 ?c4 ?c5; (case kA => exact rfl); (case kF => exact rfl); (case kK => first | assumption | exact rfl); (case k1 => k_asm); (case k2 => k_asm); (case k3 => k_asm); (case k4 => k_asm); (case k5 => k_asm); (case k6 => k_is); (case k7 => k_is); (case k8 => ktr_room); (case k9 => exact BindsTo.of_eq rfl); (case c5 => decide); (case kB => exact locs rfl); (case c2 => exact rfl); (case c3 => exact rfl); (case c4 => exact rfl); k_whole; intro g' L' h' FG' F' N' B' X' T' kG'; (try dsimp only); (try k_lift B'); (try k_fold))
  k_steps
  · exact hret _ _ _ _ (by k_asm) (by k_asm) (left_of (by assumption) (by assumption) (by assumption)) ⟨⟨_, rfl, by assumption⟩, rfl⟩
  · intro e h9 tk9 fl rc
    exact fly_next (S₀ := s.heap) rfl rfl fl (sub_g (by assumption) (by assumption) (by assumption) (fun p hp => (N p hp).1)) (fresh_L (by assumption) (by assumption) (by assumption)) fun h8 fl8 => hraise _ _ _ fl8 rc
end

-- Lam
section
set_option maxRecDepth 100000
set_option maxHeartbeats 1000000
section
variable {prog : Program} {w : World} {A A₀ : Around} {s : Shared} {K : Frag} {L : Addr} {h₀ base : Heap} {m mg mb : Str → Option Value} {news : List (Addr × Obj)} {p : Program} {loose : List Str} {mean : ExcName → Option Value}
theorem enter_lam {env : Env} {outer : List Env} {R : Result → Shared → Prop} {name qual : Str} {params : Arguments} {body : Expr} {scope : Scope} {cl : List (Str × Addr)} {pm ctv : Value} {c' : Addr} {f : Addr} {oc : Obj} {vs : Array Value} {tq : Tok}
    (B : Below A₀ base outer h₀) (F : Fr h₀ L s.heap m) (X₀ : K.In h₀) (N : News h₀ L s.heap news) (T : Top p loose mean mg mb h₀) (hA : A.frames = some (env :: outer)) (hf : env.frame = some L) (hke : env.scope.kind = .function)
    (ho : (f, kla_obj name qual params body scope cl pm c' ctv) ∈ news) (hoc : (c', oc) ∈ news) (hfo : oc.data = .fields vs) (hvq : vs[1]? = some (.str qual tq)) (hroom : A.depth < recursionLimit)
    (hbind : bindArgs (kla_fn name qual params body scope cl pm (.ref c') ctv) ⟨[], []⟩ = pure [])
    (h : ∀ g L' h₁, Fr h₀ L g m → Fr g L' h₁ (fun _ => none) → News g L' h₁ news → Below A base (env :: outer) g → K.In g → Top p loose mean mg mb g → GSub s.heap g (news.map (·.1)) →
      wpAny (model prog w) (A.deeper (envX qual scope L' f (.ref c') cl)) (eval body (envX qual scope L' f (.ref c') cl))
        (fun v s' => LeaveK h₀ L m g R v s')
        (fun e s' => wpAny (model prog w) (A.deeper (envX qual scope L' f (.ref c') cl)) (leaving (envX qual scope L' f (.ref c') cl) e) (fun _ s'' => R (.error e) s'') (fun e' s'' => R (.error e') s'') s')
        { s with heap := h₁ })
    (hco : scope.isCoroutine = false) (hgen : scope.isGenerator = false) (hk : scope.kind = .function)
    (hcell : ∀ x ∈ scope.names, x.2 ≠ .cell) : codeAny (model prog w) A (.call (.ref f) ⟨[], []⟩) R s := by
  obtain ⟨FG, BG, st, lv⟩ := groundX (R := R) B F N hA hf hke
  have hcd : s.heap.CodeRec (.ref c') qual := ⟨c', oc, vs, tq, rfl, (N _ hoc).1, hfo, hvq⟩
  refine kla_callFunE hroom (N _ ho).1 rfl hco hgen rfl hcd ?_
  rw [hbind]
  refine wpAny_pure (wpAny_newFunctionEnv (binds := []) hcell (fun _ z => nomatch z) (fun h₁ hns hsb => ⟨((T.nolimit).keeps F.keep).fresh _ hsb, ?_⟩) hk)
  show codeAny _ _ (.expr body (envX qual scope s.heap.objs.size f (.ref c') cl)) _ _
  have hk₁ : ∀ b o, s.heap.get? b = some o → h₁.get? b = some o := fun b o e => hsb.extBut b o (Nat.ne_of_lt (Heap.lt_size e)) (Heap.get?_push_of_some _ e)
  exact kla_codeExpr (wpAny_mono (h _ s.heap.objs.size h₁ FG ⟨hns, fun b o e => hk₁ b o (of_hideAll _ e), Nat.le_of_eq (hideAll_size _ _)⟩
    (fun p hp => ⟨hk₁ _ _ (N p hp).1, Nat.ne_of_lt (Heap.lt_size (N p hp).1), hideAll_none _ (List.mem_map_of_mem hp)⟩) BG (X₀.keeps st) (T.keeps st) (fun b o e n => hideAll_get _ e n)) (fun v s' hl => lv _ _ hl) fun _ _ y => y)
end
end

-- Lam1
section
set_option maxRecDepth 100000
set_option maxHeartbeats 1000000
abbrev pars0 : Arguments := { posonlyargs := [], args := [], vararg := none, kwonlyargs := [], kw_defaults := [], kwarg := none, defaults := [] }
abbrev body1 (p1 p2 p3 p4 p5 p6 : Pos) : Expr := (Expr.Name (Str.ofString "quotemeta_func") p1).Call [Expr.Name (Str.ofString "run") p2, Expr.List [Expr.Name (Str.ofString "variable") p3] p4, Expr.Constant (Const.int 1) 0 p5] [] p6
abbrev sc1 : Scope := { kind := ScopeKind.function, names := [(Str.ofString "run", NameKind.free), (Str.ofString "variable", NameKind.free), (Str.ofString "quotemeta_func", NameKind.globalImplicit)], isGenerator := false, isCoroutine := false }

theorem lam1_spec {w : World} {p : Program} {loose : List Str} {mean : ExcName → Option Value} {mg mb : Str → Option Value} {a : List Nat} {t t1 t2 t3 t4 t5 t6 t7 t8 tm tq : Tok} {most : Int} {v1 v2 v3 v4 v5 v6 : Value} {ra dr la dl va dv q c' k1 k2 : Addr} {esR esL : List DictEntry} {nR nL : Nat}
    {qual : Str} {pm ctv : Value} {oc o1 o2 : Obj} {vs : Array Value} {p1 p2 p3 p4 p5 p6 : Pos}
    (ha : a.length ≤ 100) (hal : ∀ c ∈ a, c ∈ [97, 46, 98, 36, 95, 92]) (hfo : oc.data = .fields vs) (hvq : vs[1]? = some (.str qual tq)) (d1 : o1.data = .cell (some (.ref ra))) (d2 : o2.data = .cell (some (.ref va)))
    (g1 : getL (Str.ofString "limits") esR = some (some (.ref la))) (g3 : getL (Str.ofString "text") esL = some (some (.int most tm))) :
    DoesR 40 w p loose mean mg mb q [] [(q, kla_obj "<lambda>" qual pars0 (body1 p1 p2 p3 p4 p5 p6) sc1 [(Str.ofString "variable", k2), (Str.ofString "run", k1)] pm c' ctv), (c', oc), (k1, o1), (k2, o2),
        (ra, instObj 514 dr), (dr, dictOf esR nR), (la, instObj 536 dl), (dl, dictOf esL nL), (va, instObj 98 dv), (dv, dictOf (scEs w t1 t2 t3 t4 t5 t6 t7 t8 v1 v2 v3 v4 v5 v6 (.str (tx a) t)) 8)]
      (fun r news' => (∃ t', r = .str (tx (a.flatMap quo)) t' ∧ ((tx (a.flatMap quo)).length : Int) ≤ most) ∧
        news' = [(q, kla_obj "<lambda>" qual pars0 (body1 p1 p2 p3 p4 p5 p6) sc1 [(Str.ofString "variable", k2), (Str.ofString "run", k1)] pm c' ctv), (c', oc), (k1, o1), (k2, o2),
        (ra, instObj 514 dr), (dr, dictOf esR nR), (la, instObj 536 dl), (dl, dictOf esL nL), (va, instObj 98 dv), (dv, dictOf (scEs w t1 t2 t3 t4 t5 t6 t7 t8 v1 v2 v3 v4 v5 v6 (.str (tx a) t)) 8)])
      (most < ((tx (a.flatMap quo)).length : Int)) := by
  k_with_none
  k_with "execs cons" => (k_here; (with_reducible refine' gentk ?F ?e1 ?e2 ?e3 ?e4 ?_); (case F => k_asm); (case e1 => k_dflt exact rfl); (case e2 => k_dflt exact rfl); (case e3 => k_dflt exact rfl); (case e4 => k_dflt exact rfl); intro tk')
  k_with "eval Name" => (k_here; k_dflt (refine' nameX_F ?N ?c ?m ?d ?_ ?a ?b; (case a => rfl); (case b => rfl); (case N => k_asm); (case c => rfl); (case m => k_mem); (case d => k_asm); k_whole))
  k_with "call ref" => (k_here; (with_reducible show wpAny _ _ (call (Value.ref 401) _) _ _ _); k_dflt (refine' DoesR.ro (qm_spec ?ha ?hal ?g1 ?g2) ?k1 ?k2 ?k3 ?k4 ?k5 ?kK ?kd ?ku ?km ?_ ?_; (case k1 => k_asm); (case k2 => k_asm); (case k3 => k_asm); (case k4 => k_asm); (case k5 => k_asm); (case kK => first | assumption | exact rfl); (case kd => ktr_room); (case ku => ktr_units); (case g1 => with_reducible assumption); (case g2 => with_reducible assumption); (case km => (repeat (first | exact List.forall_mem_nil _ | (refine List.forall_mem_cons.mpr ⟨(by k_mem), ?_⟩)))); (case ha => assumption); (case hal => assumption)); (intro r' h' tk' F' N' G' q'; obtain ⟨t9, e1, q'⟩ := q'; subst e1; (try k_fold)))
  unfold DoesR
  intro dp un gd cn cs fa ccd cl outer A₀ base h₀ L m s R B F X N T hkf hdp hun hret hraise
  k_dflt (refine' enter_lam ?k1 ?k2 ?k3 ?k4 ?k5 ?kA ?kF ?kK ?ho ?hoc hfo hvq ?k8 ?k9 ?_ ?c2 ?c3 ?c4 ?c5)
  (case kA => exact rfl)
  (case kF => exact rfl)
  (case kK => assumption)
  (case k1 => k_asm)
  (case k2 => k_asm)
  (case k3 => k_asm)
  (case k4 => k_asm)
  (case k5 => k_asm)
  (case ho => k_mem)
  (case hoc => k_mem)
  (case k8 => ktr_room)
  (case k9 => exact rfl)
  (case c5 => decide)
  (case c2 => exact rfl)
  (case c3 => exact rfl)
  (case c4 => exact rfl)
  intro g' L' h' FG' F' N' B' X' T' kG'
  (try dsimp only)
  (try k_lift B')
  (try k_fold)
  k_steps
  · refine hret _ _ _ _ (by k_asm) (cb_drop (by k_asm) (fun p hp => .tail _ hp)) (left_of (by assumption) (by assumption) (cb_drop (by assumption) (fun p hp => .tail _ hp))) ⟨⟨_, rfl, by assumption⟩, rfl⟩
  · intro e h9 tk9 fl rc
    refine fly_next (S₀ := s.heap) rfl rfl fl (sub_g (by assumption) (by assumption) (cb_drop (by assumption) (fun p hp => .tail _ hp)) (fun p hp => (N p hp).1)) (fresh_L (by assumption) (by assumption) (cb_drop (by assumption) (fun p hp => .tail _ hp))) fun h8 fl8 => hraise _ _ _ fl8 rc
end

-- Lam2
section
set_option maxRecDepth 100000
set_option maxHeartbeats 1000000
/-- a call that changes one thing -/
theorem DoesR.upd {b : Nat} {w : World} {p : Program} {loose : List Str} {mean : ExcName → Option Value} {mg mb : Str → Option Value} {f : Addr} {vs : List Value} {news pre₀ : Led} {post : Value → Obj → Prop}
    {dp un : Nat} {gd : Option (List Code)} {cn : Str} {cs : Scope} {a : Addr} {ccd : Value} {cl : List (Str × Addr)} {outer : List Env} {A₀ : Around} {base h₀ : Heap} {L : Addr} {m : Str → Option Value} {s : Shared} {Q E : Value → Shared → Prop} {rc : Prop} {g : Obj → Led} {o₀ o₁ : Obj} {dv : Addr}
    (D : DoesR b w p loose mean mg mb f vs (pre₀ ++ [(dv, o₁)]) (fun r n => ∃ o', post r o' ∧ n = pre₀ ++ [(dv, o')]) rc) (B : Below A₀ base outer h₀) (F : Fr h₀ L s.heap m) (X : (written.heap_1 w.params).In h₀) (N : News h₀ L s.heap news) (T : Top p loose mean mg mb h₀) (hk : cs.kind = .function) (hdp : dp + b < recursionLimit) (hun : un + 10 * b < cLine)
    (hs : ∀ p ∈ pre₀, p ∈ news) (U : UpdF dv o₀ news g) (ho : o₀ = o₁)
    (k : ∀ r o' h' tk', Fr h₀ L h' m → News h₀ L h' (g o') → GSub s.heap h' [dv] → post r o' → Q r { s with heap := h', toks := tk' })
    (kr : Hold (∀ e h' tk', Flew base (envX cn cs L a ccd cl :: outer) e s.heap h' → rc → E (.ref e) { s with heap := h', toks := tk' })) :
    wpAny (model PG w) (ktrTop dp un gd cn cs L a ccd cl outer) (call (.ref f) vs) Q E s := by
  subst ho
  obtain ⟨pre, post', rfl, hg, d1, d2⟩ := U.split
  have hmo := N (dv, _) (List.mem_append_right _ (.head _))
  have Ns : News h₀ L s.heap (pre₀ ++ [(dv, o₀)]) := fun p hp => by
    rcases List.mem_append.mp hp with hp | hp
    · exact N p (hs p hp)
    · rw [List.mem_singleton.mp hp]; exact hmo
  refine D.go B F X Ns T hk hdp hun (fun r news' h' tk' F' N' G q => ?_) kr
  obtain ⟨o', q, rfl⟩ := q
  have G' : GSub s.heap h' [dv] := fun b ob e nb => by
    by_cases hb : b ∈ pre₀.map (·.1)
    · obtain ⟨p, hp, rfl⟩ := List.mem_map.mp hb
      have h3 := (Ns p (List.mem_append_left _ hp)).1
      rw [e] at h3; cases h3
      exact (N' p (List.mem_append_left _ hp)).1
    · refine G.1 b ob e fun q => ?_
      rw [List.map_append] at q
      rcases List.mem_append.mp q with q | q
      · exact hb q
      · exact nb q
  refine k r o' h' tk' F' (hg _ ▸ fun p hp => ?_) G' q
  rcases List.mem_append.mp hp with hp | hp
  · exact ⟨G' _ _ (N p (List.mem_append_left _ hp)).1 (fun q => d1 p hp (List.mem_singleton.mp q)), (N p (List.mem_append_left _ hp)).2⟩
  · rcases List.mem_cons.mp hp with rfl | hp
    · exact N' _ (List.mem_append_right _ (.head _))
    · exact ⟨G' _ _ (N p (List.mem_append_right _ (.tail _ hp))).1 (fun q => d2 p hp (List.mem_singleton.mp q)), (N p (List.mem_append_right _ (.tail _ hp))).2⟩

/-- what a heard substr leaves: the old part, the new value -/
def subPost (w : World) (a nw : List Nat) (off cnt most nb : Int) (t1 t2 t3 t4 t5 t6 t7 t8 tn : Tok) (v2 v3 v4 v5 v6 : Value) (r : Value) (o' : Obj) : Prop :=
  ∃ b e u1 u2, cutL a.length off cnt = some (b, e) ∧ r = .str (Txt.slice (tx a) (some b) (some e)) u1 ∧ ((Txt.slice (tx a) none (some b) ++ tx nw ++ Txt.slice (tx a) (some e) none).length : Int) ≤ most ∧
    o' = dictOf (scEs w t1 t2 t3 t4 t5 t6 t7 t8 (.int nb tn) v2 v3 v4 v5 v6 (.str (Txt.slice (tx a) none (some b) ++ tx nw ++ Txt.slice (tx a) (some e) none) u2)) 8
def subBad (a nw : List Nat) (off cnt most : Int) : Prop := ∀ b e, cutL a.length off cnt = some (b, e) → most < ((Txt.slice (tx a) none (some b) ++ tx nw ++ Txt.slice (tx a) (some e) none).length : Int)

theorem substr_upd {w : World} {p : Program} {loose : List Str} {mean : ExcName → Option Value} {mg mb : Str → Option Value} {a nw : List Nat} {t to tc tw tx1 tn t1 t2 t3 t4 t5 t6 t7 t8 tm : Tok} {off cnt most nb : Int} {v2 v3 v4 v5 v6 : Value} {ra dr la dl ca dc pa ea va dv al : Addr} {esR esL esC : List DictEntry} {nR nL nC nA : Nat} {oP oE : Obj}
    (ha : a.length ≤ 100) (hn : nw.length ≤ 100) (ho : -100 ≤ off ∧ off ≤ 100) (hc : -100 ≤ cnt ∧ cnt ≤ 100)
    (g1 : getL (Str.ofString "limits") esR = some (some (.ref la))) (g2 : getL (Str.ofString "counter") esR = some (some (.ref ca))) (g3 : getL (Str.ofString "text") esL = some (some (.int most tm)))
    (h1 : getL (Str.ofString "places") esC = some (some (.ref pa))) (h2 : getL (Str.ofString "empties") esC = some (some (.ref ea)))
    (m1 : getL (Str.ofString "take") esC = some none) (m2 : getL (Str.ofString "put_off") esC = some none) (m3 : getL (Str.ofString "store") esC = some none)
    (lP : (pa == sysModules) = false) (hP : oP.IsDictOf (intKind PG w) []) (lE : (ea == sysModules) = false) (hE : oE.IsDictOf (intKind PG w) [])
    (ord : @LT.lt Nat _ dl la ∧ @LT.lt Nat _ la dc ∧ @LT.lt Nat _ dc ca ∧ @LT.lt Nat _ ca pa ∧ @LT.lt Nat _ pa ea ∧ @LT.lt Nat _ ea dr ∧ @LT.lt Nat _ dr ra ∧ @LT.lt Nat _ ra dv ∧ @LT.lt Nat _ dv va ∧ @LT.lt Nat _ va al) :
    DoesR 60 w p loose mean mg mb 394 [.ref ra, .ref al, .int 1 tw] ([(al, listOf #[.ref va, .int off to, .int cnt tc, .str (tx nw) tx1] nA), (ra, instObj 514 dr), (dr, dictOf esR nR), (la, instObj 536 dl), (dl, dictOf esL nL), (ca, instObj 493 dc), (dc, dictOf esC nC), (pa, oP), (ea, oE), (va, instObj 98 dv)] ++ [(dv, dictOf (scEs w t1 t2 t3 t4 t5 t6 t7 t8 (.int nb tn) v2 v3 v4 v5 v6 (.str (tx a) t)) 8)])
      (fun r n => ∃ o', subPost w a nw off cnt most nb t1 t2 t3 t4 t5 t6 t7 t8 tn v2 v3 v4 v5 v6 r o' ∧ n = [(al, listOf #[.ref va, .int off to, .int cnt tc, .str (tx nw) tx1] nA), (ra, instObj 514 dr), (dr, dictOf esR nR), (la, instObj 536 dl), (dl, dictOf esL nL), (ca, instObj 493 dc), (dc, dictOf esC nC), (pa, oP), (ea, oE), (va, instObj 98 dv)] ++ [(dv, o')])
      (subBad a nw off cnt most) :=
  DoesR.post (substr_spec ha hn ho hc g1 g2 g3 h1 h2 m1 m2 m3 lP hP lE hE ord) (fun r n ⟨b, e, u1, u2, c1, c2, c3, c4⟩ => ⟨_, ⟨b, e, u1, u2, c1, c2, c3, rfl⟩, c4⟩) id
end

-- Lam3
section
set_option maxRecDepth 100000
set_option maxHeartbeats 1000000
abbrev body2 (p1 p2 p3 p4 p5 p6 p7 p8 p9 : Pos) : Expr := (Expr.Name (Str.ofString "substr_func") p1).Call [Expr.Name (Str.ofString "run") p2, Expr.List [Expr.Name (Str.ofString "variable") p3, Expr.Name (Str.ofString "offset") p4, Expr.Name (Str.ofString "count") p5, Expr.Name (Str.ofString "new") p6] p7, Expr.Constant (Const.int 1) 0 p8] [] p9
abbrev sc2 : Scope := { kind := ScopeKind.function, names := [(Str.ofString "count", NameKind.free), (Str.ofString "new", NameKind.free), (Str.ofString "offset", NameKind.free), (Str.ofString "run", NameKind.free), (Str.ofString "variable", NameKind.free), (Str.ofString "substr_func", NameKind.globalImplicit)], isGenerator := false, isCoroutine := false }

theorem lam2_spec {w : World} {p : Program} {loose : List Str} {mean : ExcName → Option Value} {mg mb : Str → Option Value} {a nw : List Nat} {t to tc tx1 tn t1 t2 t3 t4 t5 t6 t7 t8 tm tq : Tok} {off cnt most nb : Int} {v2 v3 v4 v5 v6 : Value} {ra dr la dl ca dc pa ea va dv q c' k1 k2 k3 k4 k5 : Addr} {esR esL esC : List DictEntry} {nR nL nC : Nat} {oP oE : Obj}
    {qual : Str} {pm ctv : Value} {oc o1 o2 o3 o4 o5 : Obj} {vs : Array Value} {p1 p2 p3 p4 p5 p6 p7 p8 p9 : Pos}
    (ha : a.length ≤ 100) (hn : nw.length ≤ 100) (hoff : -100 ≤ off ∧ off ≤ 100) (hcnt : -100 ≤ cnt ∧ cnt ≤ 100)
    (hfo : oc.data = .fields vs) (hvq : vs[1]? = some (.str qual tq)) (d1 : o1.data = .cell (some (.int cnt tc))) (d2 : o2.data = .cell (some (.str (tx nw) tx1))) (d3 : o3.data = .cell (some (.int off to))) (d4 : o4.data = .cell (some (.ref ra))) (d5 : o5.data = .cell (some (.ref va)))
    (g1 : getL (Str.ofString "limits") esR = some (some (.ref la))) (g2 : getL (Str.ofString "counter") esR = some (some (.ref ca))) (g3 : getL (Str.ofString "text") esL = some (some (.int most tm)))
    (h1 : getL (Str.ofString "places") esC = some (some (.ref pa))) (h2 : getL (Str.ofString "empties") esC = some (some (.ref ea)))
    (m1 : getL (Str.ofString "take") esC = some none) (m2 : getL (Str.ofString "put_off") esC = some none) (m3 : getL (Str.ofString "store") esC = some none)
    (lP : (pa == sysModules) = false) (hP : oP.IsDictOf (intKind PG w) []) (lE : (ea == sysModules) = false) (hE : oE.IsDictOf (intKind PG w) [])
    (ord : @LT.lt Nat _ dl la ∧ @LT.lt Nat _ la dc ∧ @LT.lt Nat _ dc ca ∧ @LT.lt Nat _ ca pa ∧ @LT.lt Nat _ pa ea ∧ @LT.lt Nat _ ea dr ∧ @LT.lt Nat _ dr ra ∧ @LT.lt Nat _ ra dv ∧ @LT.lt Nat _ dv va)
    (ord2 : @LT.lt Nat _ dv k1 ∧ @LT.lt Nat _ dv k2 ∧ @LT.lt Nat _ dv k3 ∧ @LT.lt Nat _ dv k4 ∧ @LT.lt Nat _ dv k5 ∧ @LT.lt Nat _ dv q ∧ @LT.lt Nat _ dv c') :
    DoesR 70 w p loose mean mg mb q [] ([(q, kla_obj "<lambda>" qual pars0 (body2 p1 p2 p3 p4 p5 p6 p7 p8 p9) sc2 [(Str.ofString "variable", k5), (Str.ofString "run", k4), (Str.ofString "offset", k3), (Str.ofString "new", k2), (Str.ofString "count", k1)] pm c' ctv), (c', oc), (k1, o1), (k2, o2), (k3, o3), (k4, o4), (k5, o5),
        (ra, instObj 514 dr), (dr, dictOf esR nR), (la, instObj 536 dl), (dl, dictOf esL nL), (ca, instObj 493 dc), (dc, dictOf esC nC), (pa, oP), (ea, oE), (va, instObj 98 dv)] ++ [(dv, dictOf (scEs w t1 t2 t3 t4 t5 t6 t7 t8 (.int nb tn) v2 v3 v4 v5 v6 (.str (tx a) t)) 8)])
      (fun r n => ∃ o', subPost w a nw off cnt most nb t1 t2 t3 t4 t5 t6 t7 t8 tn v2 v3 v4 v5 v6 r o' ∧ n = [(q, kla_obj "<lambda>" qual pars0 (body2 p1 p2 p3 p4 p5 p6 p7 p8 p9) sc2 [(Str.ofString "variable", k5), (Str.ofString "run", k4), (Str.ofString "offset", k3), (Str.ofString "new", k2), (Str.ofString "count", k1)] pm c' ctv), (c', oc), (k1, o1), (k2, o2), (k3, o3), (k4, o4), (k5, o5),
        (ra, instObj 514 dr), (dr, dictOf esR nR), (la, instObj 536 dl), (dl, dictOf esL nL), (ca, instObj 493 dc), (dc, dictOf esC nC), (pa, oP), (ea, oE), (va, instObj 98 dv)] ++ [(dv, o')])
      (subBad a nw off cnt most) := by
  k_with_none
  k_with "execs cons" => (k_here; (with_reducible refine' gentk ?F ?e1 ?e2 ?e3 ?e4 ?_); (case F => k_asm); (case e1 => k_dflt exact rfl); (case e2 => k_dflt exact rfl); (case e3 => k_dflt exact rfl); (case e4 => k_dflt exact rfl); intro tk')
  k_with "eval Name" => (k_here; k_dflt (refine' nameX_F ?N ?c ?m ?d ?_ ?a ?b; (case a => rfl); (case b => rfl); (case N => k_asm); (case c => rfl); (case m => k_mem); (case d => k_asm); k_whole))
  k_with "call ref" => (k_here; (with_reducible show wpAny _ _ (call (Value.ref 394) _) _ _ _); k_dflt (refine' DoesR.upd (substr_upd ?ha ?hn ?hc1 ?hc2 ?g1 ?g2 ?g3 ?h1 ?h2 ?m1 ?m2 ?m3 ?lP ?hP ?lE ?hE ?ord) ?k1 ?k2 ?k3 ?k4 ?k5 ?kK ?kd ?ku ?km ?U ?ho ?_ ?_; (case k1 => k_asm); (case k2 => k_asm); (case k3 => k_asm); (case k4 => k_asm); (case k5 => k_asm); (case kK => first | assumption | exact rfl); (case kd => ktr_room); (case ku => ktr_units); (case g1 => with_reducible assumption); (case g2 => with_reducible assumption); (case g3 => with_reducible assumption); (case h1 => with_reducible assumption); (case h2 => with_reducible assumption); (case m1 => with_reducible assumption); (case m2 => with_reducible assumption); (case m3 => with_reducible assumption); (case km => (repeat (first | exact List.forall_mem_nil _ | (refine List.forall_mem_cons.mpr ⟨(by k_mem), ?_⟩)))); (case U => k_updF); (case ho => with_reducible rfl); (case ha => assumption); (case hn => assumption); (case hc1 => omega); (case hc2 => omega); (case lP => assumption); (case hP => assumption); (case lE => assumption); (case hE => assumption); (case ord => (refine ⟨?_, ?_, ?_, ?_, ?_, ?_, ?_, ?_, ?_, ?_⟩ <;> (k_dflt (first | with_reducible assumption | exact lt1_lt (by assumption) (by k_mem) | k_ne | omega))))); (intro r' o' h' tk' F' N' G' q'; (try dsimp only at N'); (try k_fold)))
  have cc1 := lt1_chain ord.1 lt1_nil
  have cc2 := lt1_chain ord.2.1 cc1
  have cc3 := lt1_chain ord.2.2.1 cc2
  have cc4 := lt1_chain ord.2.2.2.1 cc3
  have cc5 := lt1_chain ord.2.2.2.2.1 cc4
  have cc6 := lt1_chain ord.2.2.2.2.2.1 cc5
  have cc7 := lt1_chain ord.2.2.2.2.2.2.1 cc6
  have cc8 := lt1_chain ord.2.2.2.2.2.2.2.1 cc7
  have cc9 := lt1_chain ord.2.2.2.2.2.2.2.2 cc8
  have ck1 := lt1_chain ord2.1 cc8
  have ck2 := lt1_chain ord2.2.1 cc8
  have ck3 := lt1_chain ord2.2.2.1 cc8
  have ck4 := lt1_chain ord2.2.2.2.1 cc8
  have ck5 := lt1_chain ord2.2.2.2.2.1 cc8
  have ck6 := lt1_chain ord2.2.2.2.2.2.1 cc8
  have ck7 := lt1_chain ord2.2.2.2.2.2.2 cc8
  unfold DoesR
  intro dp un gd cn cs fa ccd cl outer A₀ base h₀ L m s R B F X N T hkf hdp hun hret hraise
  simp only [List.cons_append, List.nil_append] at N
  k_dflt (refine' enter_lam ?k1 ?k2 ?k3 ?k4 ?k5 ?kA ?kF ?kK ?ho ?hoc hfo hvq ?k8 ?k9 ?_ ?c2 ?c3 ?c4 ?c5)
  (case kA => exact rfl)
  (case kF => exact rfl)
  (case kK => assumption)
  (case k1 => k_asm)
  (case k2 => k_asm)
  (case k3 => k_asm)
  (case k4 => k_asm)
  (case k5 => k_asm)
  (case ho => k_mem)
  (case hoc => k_mem)
  (case k8 => ktr_room)
  (case k9 => exact rfl)
  (case c5 => decide)
  (case c2 => exact rfl)
  (case c3 => exact rfl)
  (case c4 => exact rfl)
  intro g' L' h' FG' F' N' B' X' T' kG'
  (try dsimp only)
  (try k_lift B')
  (try k_fold)
  k_steps
  · exact hret _ _ _ _ (by k_asm) (cb_drop (by k_asm) (fun p hp => .tail _ hp)) (left_of (by assumption) (by assumption) (cb_drop (by assumption) (fun p hp => .tail _ hp))) ⟨_, by assumption, rfl⟩
  · intro e h9 tk9 fl rc
    refine fly_next (S₀ := s.heap) rfl rfl fl (sub_g (by assumption) (by assumption) (cb_drop (by assumption) (fun p hp => .tail _ hp)) (fun p hp => (N p hp).1)) (fresh_L (by assumption) (by assumption) (cb_drop (by assumption) (fun p hp => .tail _ hp))) fun h8 fl8 => hraise _ _ _ fl8 rc
end

-- TurnUse
section
set_option maxRecDepth 100000
set_option maxHeartbeats 1000000
section
variable {w : World} {p : Program} {loose : List Str} {mean : ExcName → Option Value} {mg mb : Str → Option Value} {A₀ : Around} {base h₀ h₀' h' H : Heap} {outer : List Env} {L : Addr} {m : Str → Option Value} {news sub sub' : Led}
theorem newsT (G₀ : Ground w p loose mean mg mb A₀ base outer h₀) (N : News h₀ L H news) (T : KtsTurn (frs outer) h₀ h₀') (LT : LeftT (L :: frs outer) H h' sub sub') :
    ∀ p ∈ news, p.1 ∉ sub.map (·.1) → h'.get? p.1 = some p.2 ∧ p.1 ≠ L ∧ h₀'.get? p.1 = none := fun p hp nb => by
  obtain ⟨_, _, x⟩ := LT.1 p.1 p.2 (N p hp).1 nb
  refine ⟨x fun hm => ?_, (N p hp).2.1, T.none_ _ (N p hp).2.2⟩
  rcases List.mem_cons.mp hm with z | z
  · exact (N p hp).2.1 z
  · obtain ⟨_, o, ho, _⟩ := G₀.B.frames.mem z
    rw [(N p hp).2.2] at ho; cases ho

variable {b : Nat} {f : Addr} {vs : List Value} {dp un : Nat} {gd : Option (List Code)} {cn : Str} {cs : Scope} {a : Addr} {ccd : Value} {cl : List (Str × Addr)} {s : Shared} {Q E : Value → Shared → Prop}
theorem DoesT.go {post : Value → Led → Prop} (D : DoesT b w p loose mean mg mb f vs sub post) (G₀ : Ground w p loose mean mg mb A₀ base outer h₀) (F : Fr h₀ L s.heap m) (N : News h₀ L s.heap sub) (hk : cs.kind = .function) (hdp : dp + b < recursionLimit) (hun : un + 10 * b < cLine)
    (k : ∀ r n h' tk' h₀', KtsTurn (frs outer) h₀ h₀' → Fr h₀' L h' m → News h₀' L h' n → Ground w p loose mean mg mb A₀ base outer h₀' → LeftT (L :: frs outer) s.heap h' sub n → post r n → Q r { s with heap := h', toks := tk' }) :
    wpAny (model PG w) (ktrTop dp un gd cn cs L a ccd cl outer) (call (.ref f) vs) Q E s := wpAny_call (D dp un gd cn cs a ccd cl outer A₀ base h₀ L m s _ G₀ F N hk hdp hun k)
theorem DoesT.post {post post' : Value → Led → Prop} (D : DoesT b w p loose mean mg mb f vs sub post) (i : ∀ r n, post r n → post' r n) : DoesT b w p loose mean mg mb f vs sub post' :=
  fun dp un gd cn cs a ccd cl outer A₀ base h₀ L m s R G₀ F N h1 h2 h3 k => D dp un gd cn cs a ccd cl outer A₀ base h₀ L m s R G₀ F N h1 h2 h3 fun r n h' tk' h₀' x1 x2 x3 x4 x5 q => k r n h' tk' h₀' x1 x2 x3 x4 x5 (i r n q)
theorem DoesT.ro {post : Value → Prop} (D : DoesT b w p loose mean mg mb f vs sub (fun r n => post r ∧ n = sub)) (G₀ : Ground w p loose mean mg mb A₀ base outer h₀) (F : Fr h₀ L s.heap m) (N : News h₀ L s.heap news) (hk : cs.kind = .function) (hdp : dp + b < recursionLimit) (hun : un + 10 * b < cLine)
    (hs : ∀ p ∈ sub, p ∈ news)
    (k : ∀ r h' tk' h₀', KtsTurn (frs outer) h₀ h₀' → Fr h₀' L h' m → News h₀' L h' news → Ground w p loose mean mg mb A₀ base outer h₀' → post r → Q r { s with heap := h', toks := tk' }) :
    wpAny (model PG w) (ktrTop dp un gd cn cs L a ccd cl outer) (call (.ref f) vs) Q E s :=
  D.go G₀ F (fun p hp => N p (hs p hp)) hk hdp hun fun r n h' tk' h₀' T F' N' G' LT q => by
    obtain ⟨q, rfl⟩ := q
    refine k r h' tk' h₀' T F' (fun p hp => ?_) G' q
    by_cases hb : p.1 ∈ n.map (·.1)
    · obtain ⟨p', hp', e⟩ := List.mem_map.mp hb
      have h1 := (N p hp).1
      have h2 := (N p' (hs p' hp')).1
      rw [e, h1] at h2
      have h3 := N' p' hp'
      rw [e, ← Option.some.inj h2] at h3
      exact h3
    · exact newsT G₀ N T LT p hp hb
theorem DoesT.upd {post : Value → Obj → Prop} {pre₀ : Led} {g : Obj → Led} {o₀ o₁ : Obj} {dv : Addr} (D : DoesT b w p loose mean mg mb f vs (pre₀ ++ [(dv, o₁)]) (fun r n => ∃ o', post r o' ∧ n = pre₀ ++ [(dv, o')])) (G₀ : Ground w p loose mean mg mb A₀ base outer h₀) (F : Fr h₀ L s.heap m) (N : News h₀ L s.heap news) (hk : cs.kind = .function) (hdp : dp + b < recursionLimit) (hun : un + 10 * b < cLine)
    (hs : ∀ p ∈ pre₀, p ∈ news) (U : UpdF dv o₀ news g) (ho : o₀ = o₁)
    (k : ∀ r o' h' tk' h₀', KtsTurn (frs outer) h₀ h₀' → Fr h₀' L h' m → News h₀' L h' (g o') → Ground w p loose mean mg mb A₀ base outer h₀' → post r o' → Q r { s with heap := h', toks := tk' }) :
    wpAny (model PG w) (ktrTop dp un gd cn cs L a ccd cl outer) (call (.ref f) vs) Q E s := by
  subst ho
  obtain ⟨pre, post', rfl, hg, d1, d2⟩ := U.split
  have hmo := N (dv, _) (List.mem_append_right _ (.head _))
  have Ns : News h₀ L s.heap (pre₀ ++ [(dv, o₀)]) := fun p hp => by
    rcases List.mem_append.mp hp with hp | hp
    · exact N p (hs p hp)
    · rw [List.mem_singleton.mp hp]; exact hmo
  refine D.go G₀ F Ns hk hdp hun (fun r n h' tk' h₀' T F' N' G' LT q => ?_)
  obtain ⟨o', q, rfl⟩ := q
  have st : ∀ p ∈ pre ++ (dv, o₀) :: post', p.1 ≠ dv → h'.get? p.1 = some p.2 ∧ p.1 ≠ L ∧ h₀'.get? p.1 = none := fun p hp nd => by
    by_cases hb : p.1 ∈ (pre₀ ++ [(dv, o₀)]).map (·.1)
    · rw [List.map_append] at hb
      rcases List.mem_append.mp hb with hb | hb
      · obtain ⟨p', hp', e⟩ := List.mem_map.mp hb
        have h1 := (N p hp).1
        have h2 := (N p' (hs p' hp')).1
        rw [e, h1] at h2
        have h3 := N' p' (List.mem_append_left _ hp')
        rw [e, ← Option.some.inj h2] at h3
        exact h3
      · exact absurd (List.mem_singleton.mp hb) nd
    · exact newsT G₀ N T LT p hp hb
  refine k r o' h' tk' h₀' T F' (hg _ ▸ fun p hp => ?_) G' q
  rcases List.mem_append.mp hp with hp | hp
  · exact st p (List.mem_append_left _ hp) (d1 p hp)
  · rcases List.mem_cons.mp hp with rfl | hp
    · exact N' _ (List.mem_append_right _ (.head _))
    · exact st p (List.mem_append_right _ (.tail _ hp)) (d2 p hp)
end
end

-- LamMake
section
set_option maxRecDepth 100000
set_option maxHeartbeats 1000000
theorem triples_snoc {i j : Nat} {c : Value} (l : List Value) (h : TriplesOk l) : TriplesOk (l ++ [rawInt i, rawInt j, c]) := by
  fun_induction TriplesOk l with
  | case1 => simp [TriplesOk, rawInt]
  | case2 a t b u x rest ih => simpa [TriplesOk] using ih h
  | case3 => exact h.elim
theorem among_other {pos pos' : Pos} {c : Value} (hp : ¬(pos'.line = pos.line ∧ pos'.col = pos.col)) (l : List Value) (h : TriplesOk l) : codeAmong pos' (l ++ [rawInt pos.line, rawInt pos.col, c]) = codeAmong pos' l := by
  fun_induction TriplesOk l with
  | case1 =>
    simp only [List.nil_append, codeAmong, rawInt]
    rw [if_neg]
    intro q
    apply hp
    simp only [Bool.and_eq_true, beq_iff_eq] at q
    omega
  | case2 a t b u x rest ih =>
    simp only [List.cons_append, codeAmong]
    rw [ih h]
  | case3 => exact h.elim

section
variable {M : Model} {A : Around} {E : Value → Shared → Prop} {s : Shared} {h₀ : Heap} {L a c P : Addr} {m mg mb : Str → Option Value} {cn : Str} {cs : Scope} {ccd : Value} {cl : List (Str × Addr)} {news : List (Addr × Obj)} {g : Obj → List (Addr × Obj)}
  {p : Program} {loose : List Str} {mean : ExcName → Option Value} {params : Arguments} {body : Expr} {scope : Scope} {ps : Array Value} {pos : Pos} {clos : List (Str × Addr)} {z : Addr} {oz : Obj}
theorem lam_make {Q : Value → Shared → Prop} (F : Fr h₀ L s.heap m) (N : News h₀ L s.heap news) (T : Top p loose mean mg mb h₀) (C : CodeHd h₀ c P) (hcd : ccd = .ref c) (U : UpdF P (tabObj ps) news g) (ht : TriplesOk ps.toList)
    (hdef : defaultsOf params (envX cn cs L a ccd cl) = ([], [])) (hcl : closureFor scope (envX cn cs L a ccd cl) = pure clos) (hz : (z, oz) ∈ news)
    (hst : codeAmong pos ps.toList = none ∨ ∃ c' oc vs t, codeAmong pos ps.toList = some (.ref c') ∧ (c', oc) ∈ news ∧ @LT.lt Nat _ z c' ∧ oc.data = .fields vs ∧ vs[1]? = some (.str ((envX cn cs L a ccd cl).qual ++ "<lambda>") t))
    (h : ∀ f c' oc vs t ctv h' tk ps', Fr h₀ L h' m →
      News h₀ L h' ((f, kla_obj "<lambda>" ((envX cn cs L a ccd cl).qual ++ "<lambda>") params body scope clos ((mg "__name__").getD .none) c' ctv) :: (c', oc) :: g (tabObj ps')) →
      oc.data = .fields vs → vs[1]? = some (.str ((envX cn cs L a ccd cl).qual ++ "<lambda>") t) → TriplesOk ps'.toList → codeAmong pos ps'.toList = some (.ref c') → (∀ pos' : Pos, ¬(pos'.line = pos.line ∧ pos'.col = pos.col) → codeAmong pos' ps'.toList = codeAmong pos' ps.toList) →
      @LT.lt Nat _ z c' → (∀ q ∈ news, q.1 < f) → Q (.ref f) { s with heap := h', toks := tk }) :
    wpAny M A (eval (.Lambda params body scope pos) (envX cn cs L a ccd cl)) Q E s := by
  refine kla_eval hdef ?_
  rcases hst with hst | ⟨c', oc, vs, t, hst, hm, hlt, e1, e2⟩
  · refine kla_nest F N T C hcd U ht hst hcl fun f c' oc vs t ctv h' tk F' N' d1 d2 l1 l2 => ?_
    refine h f c' oc vs t ctv h' tk _ F' N' d1 d2 ?_ ?_ (fun pos' hp => ?_) (l1 _ hz) (fun q hq => Nat.lt_trans (l1 q hq) l2)
    · simpa using triples_snoc _ ht
    · simpa using codeAmong_snoc _ ht hst
    · simpa using among_other hp _ ht
  · obtain ⟨pre, post, e, hg, _, _⟩ := U.split
    have hmem : (P, tabObj ps) ∈ news := e ▸ List.mem_append_right _ (.head _)
    refine kla_hit F N T C hcd hmem ht hst hcl fun f ctv h' tk F' N' l1 => ?_
    refine h f c' oc vs t ctv h' tk ps F' (fun q hq => ?_) e1 e2 ht hst (fun _ _ => rfl) hlt l1
    rcases List.mem_cons.mp hq with rfl | hq
    · exact N' _ (.head _)
    · rcases List.mem_cons.mp hq with rfl | hq
      · exact N' _ (.tail _ hm)
      · exact N' _ (.tail _ (by rw [e, ← hg]; exact hq))
end
end

-- LawSub
section
set_option maxRecDepth 100000
set_option maxHeartbeats 1000000
theorem Does.toR {b : Nat} {w : World} {p : Program} {loose : List Str} {mean : ExcName → Option Value} {mg mb : Str → Option Value} {f : Addr} {vs : List Value} {news : Led} {post : Value → Led → Prop}
    (D : Does b w p loose mean mg mb f vs news post) : DoesR b w p loose mean mg mb f vs news post False :=
  fun dp un gd cn cs a ccd cl outer A₀ base h₀ L m s R B F X N T h1 h2 h3 k _ => D dp un gd cn cs a ccd cl outer A₀ base h₀ L m s R B F X N T h1 h2 h3 k
theorem Does.mk {b : Nat} {w : World} {p : Program} {loose : List Str} {mean : ExcName → Option Value} {mg mb : Str → Option Value} {f : Addr} {vs : List Value} {news : Led} {post : Value → Led → Prop}
    {dp un : Nat} {gd : Option (List Code)} {cn : Str} {cs : Scope} {a : Addr} {ccd : Value} {cl : List (Str × Addr)} {outer : List Env} {A₀ : Around} {base h₀ : Heap} {L : Addr} {m : Str → Option Value} {s : Shared} {Q E : Value → Shared → Prop}
    (D : Does b w p loose mean mg mb f vs [] post) (B : Below A₀ base outer h₀) (F : Fr h₀ L s.heap m) (X : (written.heap_1 w.params).In h₀) (N : News h₀ L s.heap news) (T : Top p loose mean mg mb h₀) (hk : cs.kind = .function) (hdp : dp + b < recursionLimit) (hun : un + 10 * b < cLine)
    (k : ∀ r n h' tk', Fr h₀ L h' m → News h₀ L h' (n ++ news) → (∀ b o, s.heap.get? b = some o → h'.get? b = some o) → (∀ p ∈ n, AllNe p.1 news) → post r n → Q r { s with heap := h', toks := tk' }) :
    wpAny (model PG w) (ktrTop dp un gd cn cs L a ccd cl outer) (call (.ref f) vs) Q E s :=
  DoesR.mk D.toR B F X N T hk hdp hun k (fun _ _ _ _ c => c.elim)

theorem law_substr_spec {w : World} {p : Program} {loose : List Str} {mean : ExcName → Option Value} {mg mb : Str → Option Value} {a nw : List Nat} {t to tc tn tm : Tok} {off cnt most : Int} {wa : Addr} {nW : Nat}
    (ha : a.length ≤ 100) (hn : nw.length ≤ 100) (ho : -100 ≤ off ∧ off ≤ 100) (hc : -100 ≤ cnt ∧ cnt ≤ 100) :
    Does 8 w p loose mean mg mb 634 [.ref wa, .int most tm, .int off to, .int cnt tc, .str (tx nw) tn] [(wa, listOf #[.str (tx a) t] nW)]
      (fun r n => (r = .none ∧ n = [(wa, listOf #[.str (tx a) t] nW)] ∧ ∀ b e, cutL a.length off cnt = some (b, e) → most < ((Txt.slice (tx a) none (some b) ++ tx nw ++ Txt.slice (tx a) (some e) none).length : Int)) ∨
        ∃ b e u1 u2, cutL a.length off cnt = some (b, e) ∧ r = .str (Txt.slice (tx a) (some b) (some e)) u1 ∧ ((Txt.slice (tx a) none (some b) ++ tx nw ++ Txt.slice (tx a) (some e) none).length : Int) ≤ most ∧
          n = [(wa, listOf #[.str (Txt.slice (tx a) none (some b) ++ tx nw ++ Txt.slice (tx a) (some e) none) u2] nW)]) := by
  k_with_none
  k_with "execs cons" => (k_here; (with_reducible refine' gentk ?F ?e1 ?e2 ?e3 ?e4 ?_); (case F => k_asm); (case e1 => k_dflt exact rfl); (case e2 => k_dflt exact rfl); (case e3 => k_dflt exact rfl); (case e4 => k_dflt exact rfl); intro tk')
  k_with "call ref" => (k_here; (with_reducible show wpAny _ _ (call (Value.ref 622) _) _ _ _); k_dflt (refine' Does.mk (cut_spec ?ha ?ho ?hc) ?k1 ?k2 ?k3 ?k4 ?k5 ?kK ?kd ?ku ?_; (case k1 => k_asm); (case k2 => k_asm); (case k3 => k_asm); (case k4 => k_asm); (case k5 => k_asm); (case kK => first | assumption | exact rfl); (case kd => ktr_room); (case ku => ktr_units); (case ha => omega); (case ho => omega); (case hc => omega); k_whole); intro r' n' h' tk' F' N' G' e' q'; unfold spanPost at q'; (split at q' <;> (first | (obtain ⟨e1, e2⟩ := q'; subst e1 e2) | (obtain ⟨T9, n9, t9, u9, e1, e2⟩ := q'; subst e1 e2; (have l1 := e' _ (List.Mem.head _)); (simp only [AllNe, and_true] at l1); (try dsimp only at l1)))); (all_goals (try k_fold)))
  unfold Does
  intro dp un gd cn cs fa ccd cl outer A₀ base h₀ L m s R B F X N T hkf hdp hun hret
  have hlen := tx_len a
  have hlen2 := tx_len nw
  k_dflt (refine' code_defG ?k1 ?k2 ?k3 ?k4 ?k5 ?kA ?kF ?kK ?k6 ?k7 ?k8 ?k9 ?kB ?_ ?c2 ?c3 ?c4 ?c5; (case kA => exact rfl); (case kF => exact rfl); (case kK => first | assumption | exact rfl); (case k1 => k_asm); (case k2 => k_asm); (case k3 => k_asm); (case k4 => k_asm); (case k5 => k_asm); (case k6 => k_is); (case k7 => k_is); (case k8 => ktr_room); (case k9 => exact BindsTo.of_eq rfl); (case c5 => decide); (case kB => exact locs rfl); (case c2 => exact rfl); (case c3 => exact rfl); (case c4 => exact rfl); k_whole; intro g' L' h' FG' F' N' B' X' T' kG'; (try dsimp only); (try k_lift B'); (try k_fold))
  k_steps
  · (rename cutL _ _ _ = _ => c9)
    exact hret _ [(wa, listOf #[.str (tx a) t] nW)] _ _ (by k_asm) (by k_asm) (left_of (news' := [(wa, listOf #[.str (tx a) t] nW)]) (by assumption) (by assumption) (by assumption)) (.inl ⟨rfl, rfl, fun b e hbe => by rw [c9] at hbe; cases hbe⟩)
  · (rename cutL _ _ _ = _ => c9)
    exact hret _ [(wa, listOf #[.str (tx a) t] nW)] _ _ (by k_asm) (cb_drop (by k_asm) (fun p hp => List.mem_append_right _ hp)) (left_of (by assumption) (by assumption) (cb_drop (by assumption) (fun p hp => List.mem_append_right _ hp))) (.inl ⟨rfl, rfl, fun b e hbe => by rw [c9] at hbe; cases hbe; assumption⟩)
  · (rename cutL _ _ _ = _ => c9)
    exact hret _ _ _ _ (by k_asm) (cb_drop (by k_asm) (fun p hp => .tail _ hp)) (left_of (by assumption) (by assumption) (cb_drop (by assumption) (fun p hp => .tail _ hp))) (.inr ⟨_, _, _, _, c9, rfl, by omega, rfl⟩)
end

-- Guard
section
set_option maxRecDepth 100000
set_option maxHeartbeats 8000000

theorem news_made {g h h' : Heap} {L D : Addr} {m : Str → Option Value} {o : Obj} {led : Led} (F : Fr g L h m) (hD : h.get? D = none) (ho : h'.get? D = some o) (N : News g L h' led) : News g L h' ((D, o) :: led) := fun p hp => by
  rcases List.mem_cons.mp hp with rfl | hp
  · refine ⟨ho, fun e => ?_, ?_⟩
    · obtain ⟨oL, _, _, hL, _⟩ := F.ns
      rw [← e, hD] at hL; cases hL
    · cases q : g.get? D with
      | none => rfl
      | some o' => have := F.keep _ _ q; rw [hD] at this; cases this
  · exact N p hp

theorem tx_inj {a b : List Nat} (h : tx a = tx b) : a = b := by
  have := congrArg (fun x : Str => x.cps.toList) h
  simpa using this
theorem guard_plain {c : Nat} (h : c ∈ [97, 46, 98, 36, 95, 92]) (e : (Builtin.Str.occurrences (Str.ofString "ab_") { cps := #[c] } 0 (Str.ofString "ab_").length 1).isEmpty = false) : (⟨#[c]⟩ : Str) = tx (quo c) := by
  simp only [List.mem_cons, List.not_mem_nil, or_false] at h
  rcases h with rfl | rfl | rfl | rfl | rfl | rfl <;> first | (exfalso; revert e; decide +kernel) | decide +kernel
theorem guard_slash {c : Nat} (h : c ∈ [97, 46, 98, 36, 95, 92]) (e : (Builtin.Str.occurrences (Str.ofString "ab_") { cps := #[c] } 0 (Str.ofString "ab_").length 1).isEmpty = true) : (Str.ofString "\\" ++ ⟨#[c]⟩ : Str) = tx (quo c) := by
  simp only [List.mem_cons, List.not_mem_nil, or_false] at h
  rcases h with rfl | rfl | rfl | rfl | rfl | rfl <;> first | (exfalso; revert e; decide +kernel) | decide +kernel

theorem guard_spec {w : World} {p : Program} {loose : List Str} {mean : ExcName → Option Value} {mg mb : Str → Option Value} {a : List Nat} {t : Tok}
    (ha : a.length ≤ 100) (hal : ∀ c ∈ a, c ∈ [97, 46, 98, 36, 95, 92]) :
    Does 3 w p loose mean mg mb 627 [.str (tx a) t] [] (fun r news' => news' = [] ∧ ∃ t', r = .str (tx (a.flatMap quo)) t') := by
  k_with_none
  k_with "execs cons" => (k_here; (with_reducible refine' gentk ?F ?e1 ?e2 ?e3 ?e4 ?_); (case F => k_asm); (case e1 => k_dflt exact rfl); (case e2 => k_dflt exact rfl); (case e3 => k_dflt exact rfl); (case e4 => k_dflt exact rfl); intro tk')
  k_with "eval ListComp" => (k_here; with_unfolding_all (refine' comp_own ?a ?b ?c ?_ ?e; (case a => with_unfolding_all rfl); (case b => rfl); (case c => decide); (case e => intro _; rfl)))
  unfold Does
  intro dp un gd cn cs fa ccd cl outer A₀ base h₀ L m s R B F X N T hkf hdp hun hret
  have hlen := tx_len a
  k_dflt (refine' code_defG ?k1 ?k2 ?k3 ?k4 ?k5 ?kA ?kF ?kK ?k6 ?k7 ?k8 ?k9 ?kB ?_ ?c2 ?c3 ?c4 ?c5; (case kA => exact rfl); (case kF => exact rfl); (case kK => assumption); (case k1 => k_asm); (case k2 => k_asm); (case k3 => k_asm); (case k4 => k_asm); (case k5 => k_asm); (case k6 => k_is); (case k7 => k_is); (case k8 => ktr_room); (case k9 => exact BindsTo.of_eq rfl); (case c5 => decide); (case kB => exact locs rfl); (case c2 => exact rfl); (case c3 => exact rfl); (case c4 => exact rfl); k_whole; intro g' L' h' FG' F' N' B' X' T' kG'; (try dsimp only); (try k_lift B'); (try k_fold))
  k_steps
  (with_reducible rename Fr _ _ _ _ => F9)
  (with_reducible rename News _ _ _ [] => N9)
  k_dflt (refine' comp_text (fun c y => ∃ t, y = .str (tx (quo c)) t) ?hh (by simpa using Nat.le_trans ha (by decide)) ?hcell ?hkind ?hx ?turn ?done)
  (case hh => rfl)
  (case hcell => decide)
  (case hkind => rfl)
  (case hx => rfl)
  (case turn =>
    intro C i c u s₃ m₃ E' hc hC hns hm hk
    have hca : c ∈ a := by
      have : (a : List Nat)[i]? = some c := by simpa using hc
      exact List.mem_of_getElem? this
    have hc6 := hal c hca
    have F8 := F9.keeps hk
    have N8 := News.grown N9 hk
    k_steps
    · exact Hold.mk ⟨_, _, rfl, fun _ _ e => e, _, congrArg (Value.str · _) (guard_slash hc6 (by assumption))⟩
    · exact Hold.mk ⟨_, _, rfl, fun _ _ e => e, _, congrArg (Value.str · _) (guard_plain hc6 (by assumption))⟩)
  (case done =>
    intro D c h' tk ys hD hpl hlen hok hk
    have F8 := F9.keeps hk
    have N8 := news_made F9 hD hpl (News.grown N9 hk)
    k_steps
    have hsz : (tx a).cps.size = a.length := tx_len a
    have hix : ∀ y ∈ ys, ∃ c, ∃ t, y = .str (tx (quo c)) t := fun y hy => by
      obtain ⟨i, hi⟩ := List.getElem?_of_mem hy
      have hi2 : i < ys.length := (List.getElem?_eq_some_iff.mp hi).1
      exact ⟨a[i]'(by omega), hok i _ y (by simp) hi⟩
    refine join_texts (ok := fun _ => True) N8 (by k_mem) (fun y hy => ?_) (by omega) fun parts t9 k9 hp1 hp2 hp3 => ?_
    · obtain ⟨c, t, e⟩ := hix y hy
      exact ⟨_, t, e, trivial, len_quo c⟩
    · have hpe : parts = a.map quo := by
        refine List.ext_getElem? fun i => ?_
        by_cases hi : i < ys.length
        · obtain ⟨b, t, hb, e⟩ := hp3 i (ys[i]) (by simp)
          obtain ⟨t', e'⟩ := hok i (a[i]'(by omega)) (ys[i]) (by simp) (by simp)
          rw [e'] at e
          have e2 := tx_inj (Value.str.inj e).1
          rw [hb, ← e2]
          simp only [List.getElem?_map]
          rw [List.getElem?_eq_getElem (by omega : i < a.length)]
          rfl
        · rw [List.getElem?_eq_none (by omega), List.getElem?_eq_none (by simp; omega)]
      subst hpe
      k_steps
      refine hret _ [] _ _ (by k_asm) (fun p hp => nomatch hp) (left_of (by assumption) F8 (fun p hp => nomatch hp)) ⟨rfl, _, by rw [List.flatMap_def]⟩)
end

-- Sip
section
set_option maxRecDepth 100000
set_option maxHeartbeats 8000000

theorem sip_spec {w : World} {p : Program} {loose : List Str} {mean : ExcName → Option Value} {mg mb : Str → Option Value} {md ml : Addr} {o : Obj} {k : Int} {t : Tok} {ws : List Value} {ns : List Int} {n : Nat} {many : Int} {tm : Tok}
    (hmug : o.IsDictOf (strKind PG w) [(Str.ofString "at", Value.int k t), (Str.ofString "of", Value.ref ml)]) (lo : (md == sysModules) = false) (hi : IntsAre ws ns) (hn : ns.length ≤ 60) (hk : 0 ≤ k ∧ k < 1000) (hm : 0 < many ∧ many < 20) (hne : @LT.lt Nat _ ml md ∨ @LT.lt Nat _ md ml) :
    Does 3 w p loose mean mg mb 610 [.ref md, .int many tm] [(md, o), (ml, listOf ws.toArray n)]
      (fun r news' => ∃ o' t' v tv, news' = [(md, o'), (ml, listOf ws.toArray n)] ∧ o'.IsDictOf (strKind PG w) [(Str.ofString "at", Value.int (k + 1) t'), (Str.ofString "of", Value.ref ml)] ∧ r = .int v tv ∧ 0 ≤ v ∧ v < many) := by
  k_with_none
  k_with "execs cons" => (k_here; (with_reducible refine' gentk ?F ?e1 ?e2 ?e3 ?e4 ?_); (case F => k_asm); (case e1 => k_dflt exact rfl); (case e2 => k_dflt exact rfl); (case e3 => k_dflt exact rfl); (case e4 => k_dflt exact rfl); intro tk')
  k_with "getItem ref str" => (k_here; kda_here; k_dflt (refine got_item (knd := PySem.strKind _ _) (by k_asm) (by k_mem) (by k_asm) (strKind_is _ _ _ _) (by rfl) ?_))
  unfold Does
  intro dp un gd cn cs a ccd cl outer A₀ base h₀ L m s R B F X N T hkf hdp hun hret
  k_dflt (refine' code_defG ?k1 ?k2 ?k3 ?k4 ?k5 ?kA ?kF ?kK ?k6 ?k7 ?k8 ?k9 ?kB ?_ ?c2 ?c3 ?c4 ?c5; (case kA => exact rfl); (case kF => exact rfl); (case kK => assumption); (case k1 => k_asm); (case k2 => k_asm); (case k3 => k_asm); (case k4 => k_asm); (case k5 => k_asm); (case k6 => k_is); (case k7 => k_is); (case k8 => ktr_room); (case k9 => exact BindsTo.of_eq rfl); (case c5 => decide); (case kB => exact locs rfl); (case c2 => exact rfl); (case c3 => exact rfl); (case c4 => exact rfl); k_whole; intro g' L' h' FG' F' N' B' X' T' kG'; (try dsimp only); (try k_lift B'); (try k_fold))
  k_steps
  all_goals (refine hret _ _ _ _ (by k_asm) (by k_asm) (left_of (by assumption) (by assumption) (by assumption)) ⟨_, _, _, _, rfl, (by assumption), rfl, Int.fmod_nonneg_of_pos _ hm.1, Int.fmod_lt_of_pos _ hm.1⟩)

theorem sip_use {w : World} {p : Program} {loose : List Str} {mean : ExcName → Option Value} {mg mb : Str → Option Value} {md ml : Addr} {o : Obj} {k : Int} {t : Tok} {ws : List Value} {ns : List Int} {n : Nat} {many : Int} {tm : Tok}
    {dp un : Nat} {gd : Option (List Code)} {cn : Str} {cs : Scope} {a : Addr} {ccd : Value} {cl : List (Str × Addr)} {outer : List Env} {A₀ : Around} {base h₀ : Heap} {L : Addr} {m : Str → Option Value} {s : Shared} {Q E : Value → Shared → Prop} {news : Led} {g : Obj → Led}
    (B : Below A₀ base outer h₀) (F : Fr h₀ L s.heap m) (X : (written.heap_1 w.params).In h₀) (N : News h₀ L s.heap news) (T : Top p loose mean mg mb h₀) (hkf : cs.kind = .function) (hdp : dp + 3 < recursionLimit) (hun : un + 30 < cLine)
    (U : UpdF md o news g) (hml : (ml, listOf ws.toArray n) ∈ news)
    (hmug : o.IsDictOf (strKind PG w) [(Str.ofString "at", Value.int k t), (Str.ofString "of", Value.ref ml)]) (lo : (md == sysModules) = false) (hi : IntsAre ws ns) (hn : ns.length ≤ 60) (hk : 0 ≤ k ∧ k < 1000) (hm : 0 < many ∧ many < 20) (hne : @LT.lt Nat _ ml md ∨ @LT.lt Nat _ md ml)
    (h : ∀ h' o' t' v tv tk', Fr h₀ L h' m → News h₀ L h' (g o') → o'.IsDictOf (strKind PG w) [(Str.ofString "at", Value.int (k + 1) t'), (Str.ofString "of", Value.ref ml)] → GSub s.heap h' [md] → 0 ≤ v ∧ v < many → Q (.int v tv) { s with heap := h', toks := tk' }) :
    wpAny (model PG w) (ktrTop dp un gd cn cs L a ccd cl outer) (call (.ref 610) [.ref md, .int many tm]) Q E s := by
  obtain ⟨pre, post, rfl, hg, h1, h2⟩ := U.split
  have hmo := N (md, o) (List.mem_append_right _ (.head _))
  have hne' : md ≠ ml := by intro e; subst e; rcases hne with q | q <;> exact Nat.lt_irrefl _ q
  refine Does.go (sip_spec (n := n) hmug lo hi hn hk hm hne) B F X (fun p hp => ?_) T hkf hdp hun (fun r news' h' tk' F' N' G hp => ?_)
  · rcases List.mem_cons.mp hp with rfl | hp
    · exact hmo
    · rw [List.mem_singleton.mp hp]; exact N _ hml
  · replace G := G.1
    obtain ⟨o', t', v, tv, rfl, hd', rfl, hv⟩ := hp
    have G' : GSub s.heap h' [md] := fun b ob e nb => by
      by_cases hb : b = ml
      · subst hb
        have h3 := (N _ hml).1
        rw [e] at h3; cases h3
        exact (N' _ (.tail _ (.head _))).1
      · exact G b ob e fun q => by
          rcases List.mem_cons.mp q with rfl | q
          · exact nb (.head _)
          · exact hb (List.mem_singleton.mp q)
    refine h h' o' t' v tv tk' F' (hg o' ▸ fun p hp => ?_) hd' G' hv
    rcases List.mem_append.mp hp with hp | hp
    · exact ⟨G' _ _ (N p (List.mem_append_left _ hp)).1 (fun q => h1 p hp (List.mem_singleton.mp q)), (N p (List.mem_append_left _ hp)).2⟩
    · rcases List.mem_cons.mp hp with rfl | hp
      · exact N' _ (.head _)
      · exact ⟨G' _ _ (N p (List.mem_append_right _ (.tail _ hp))).1 (fun q => h2 p hp (List.mem_singleton.mp q)), (N p (List.mem_append_right _ (.tail _ hp))).2⟩
end

-- Drawn
section
set_option maxRecDepth 100000
set_option maxHeartbeats 8000000


theorem updF_addr {d : Addr} {o : Obj} {l : Led} {g : Obj → Led} (U : UpdF d o l g) (o' : Obj) : ∀ p ∈ g o', ∃ q ∈ l, q.1 = p.1 := by
  obtain ⟨pre, post, rfl, hg, _, _⟩ := U.split
  rw [hg]
  intro p hp
  rcases List.mem_append.mp hp with hp | hp
  · exact ⟨p, List.mem_append_left _ hp, rfl⟩
  · rcases List.mem_cons.mp hp with rfl | hp
    · exact ⟨(d, o), List.mem_append_right _ (.head _), rfl⟩
    · exact ⟨p, List.mem_append_right _ (.tail _ hp), rfl⟩
theorem updF_same {d : Addr} {o : Obj} {l : Led} {g : Obj → Led} (U : UpdF d o l g) : g o = l := by
  obtain ⟨pre, post, rfl, hg, _, _⟩ := U.split
  exact hg o

theorem fr_low {g h h' : Heap} {L : Addr} {m : Str → Option Value} {z : Nat} (F : Fr g L h m) (hz : @LT.lt Nat _ L z) (k : ∀ b o, b < z → h.get? b = some o → h'.get? b = some o) : Fr g L h' m :=
  ⟨F.ns.at' fun o e => k L o hz e, fun b o e => k b o (Nat.lt_trans (Nat.lt_of_lt_of_le (Heap.lt_size e) F.above) hz) (F.keep b o e), F.above⟩

/-- a comprehension over range(n) whose element sips -/
theorem comp_mug {w : World} {A : Around} {E : Value → Shared → Prop} {env : Env} {elt iter : Expr} {x : Str} {px : Pos} {scope : Scope} {cl : List (Str × Addr)} {pos : Pos} {Q : Value → Shared → Prop} {s : Shared} {r : Addr} {b₀ : Int} {t₀ u₀ v₀ : Tok}
    {g : Heap} {L md ml : Addr} {m : Str → Option Value} {led : Led} {G : Obj → Led} {o : Obj} {k : Int} {t : Tok} (ok : Value → Prop) (n : Nat)
    (hh : A.handled = none) (hr : IsRange s.heap r 0 b₀ 1 t₀ u₀ v₀) (hb : b₀ = (n : Int)) (hn : n ≤ 1000)
    (hcell : ∀ y ∈ scope.names, y.2 ≠ .cell) (hkind : scope.kind = .function) (hx : scope.names.lookup x = some .local)
    (F : Fr g L s.heap m) (N : News g L s.heap led) (U : UpdF md o led G) (hmug : o.IsDictOf (strKind PG w) [(Str.ofString "at", Value.int k t), (Str.ofString "of", Value.ref ml)])
    (turn : ∀ C (i : Nat) s₃ E' o' t', i < n → Fr g L s₃.heap m → News g L s₃.heap (G o') → o'.IsDictOf (strKind PG w) [(Str.ofString "at", Value.int (k + i) t'), (Str.ofString "of", Value.ref ml)] →
      wpAny (model PG w) A (eval elt (compEnvC scope cl C env)) (fun y s₄ => Hold (∃ h tk o'' t'', s₄ = { s₃ with heap := h, toks := tk } ∧ GSub s₃.heap h [md] ∧ Fr g L h m ∧ News g L h (G o'') ∧
        o''.IsDictOf (strKind PG w) [(Str.ofString "at", Value.int (k + i + 1) t''), (Str.ofString "of", Value.ref ml)] ∧ ok y)) E' s₃)
    (done : ∀ D c h' tk ys o' t', Fr g L h' m → News g L h' ((D, listOf (List.toArray ys) c) :: G o') → o'.IsDictOf (strKind PG w) [(Str.ofString "at", Value.int (k + n) t'), (Str.ofString "of", Value.ref ml)] → ys.length = n → (∀ y ∈ ys, ok y) → GSub s.heap h' [md] →
      Q (.ref D) { s with heap := h', toks := tk }) :
    wpAny (model PG w) A (pyIter (.ref r)) (fun it s₂ => CompNow PG w A E env elt iter x px scope cl pos Q it s₂) E s := by
  have hlow : ∀ o', ∀ p ∈ G o', p.1 < s.heap.objs.size := fun o' p hp => by
    obtain ⟨q, hq, e⟩ := updF_addr U o' p hp
    rw [← e]; exact Heap.lt_size (N q hq).1
  have hmd : md < s.heap.objs.size := by
    obtain ⟨pre, post, rfl, _, _, _⟩ := U.split
    exact Heap.lt_size (N (md, o) (List.mem_append_right _ (.head _))).1
  refine comp_range (ch := [md]) n (fun i ys h => Fr g L h m ∧ (∃ o' t', News g L h (G o') ∧ o'.IsDictOf (strKind PG w) [(Str.ofString "at", Value.int (k + i) t'), (Str.ofString "of", Value.ref ml)]) ∧ ∀ y ∈ ys, ok y)
    hh hr hb hn hcell hkind hx (fun b hb => by rw [List.mem_singleton.mp hb]; exact hmd) ⟨F, ⟨o, t, by rw [updF_same U]; exact N, by simpa using hmug⟩, fun y hy => nomatch hy⟩ ?_ ?_ ?_
  · rintro i ys h h' ⟨F₁, ⟨o', t', N₁, hd⟩, hys⟩ hk
    exact ⟨fr_low F₁ F.ns.lt hk, ⟨o', t', fun p hp => ⟨hk _ _ (hlow o' p hp) (N₁ p hp).1, (N₁ p hp).2⟩, hd⟩, hys⟩
  · rintro C i ys s₃ E' hi hC ⟨F₁, ⟨o', t', N₁, hd⟩, hys⟩ _ _ _
    refine wpAny_mono (turn C i s₃ E' o' t' hi F₁ N₁ hd) (fun y s₄ hy => ?_) fun _ _ e => e
    obtain ⟨h, tk, o'', t'', rfl, hG, F₂, N₂, hd₂, hok⟩ := hy
    refine ⟨h, tk, rfl, hG, F₂, ⟨o'', t'', N₂, by simpa [Int.add_assoc] using hd₂⟩, fun z hz => ?_⟩
    rcases List.mem_append.mp hz with hz | hz
    · exact hys z hz
    · rw [List.mem_singleton.mp hz]; exact hok
  · rintro D h' tk ys hD ⟨c, hpl⟩ hlen ⟨F₁, ⟨o', t', N₁, hd⟩, hys⟩ hG
    refine done D c h' tk ys o' t' F₁ (fun p hp => ?_) hd hlen hys hG
    rcases List.mem_cons.mp hp with rfl | hp
    · refine ⟨hpl, fun e => ?_, ?_⟩
      · have := F.ns.lt
        obtain ⟨oL, _, _, hL, _⟩ := F.ns
        rw [← e, hD] at hL; cases hL
      · cases q : g.get? D with
        | none => rfl
        | some o => have := F.keep _ _ q; rw [hD] at this; cases this
    · exact N₁ p hp

theorem item_sign {v : Int} (h : 0 ≤ v ∧ v < 5) (t : Tok) : ∃ c ∈ [97, 46, 98, 36, 95], ∃ t', Value.str (Txt.item (Str.ofString "a.b$_") v) t = .str ⟨#[c]⟩ t' := by
  have e : v = 0 ∨ v = 1 ∨ v = 2 ∨ v = 3 ∨ v = 4 := by omega
  rcases e with rfl | rfl | rfl | rfl | rfl
  · exact ⟨97, by decide, t, by rw [show Txt.item (Str.ofString "a.b$_") 0 = ⟨#[97]⟩ from by decide +kernel]⟩
  · exact ⟨46, by decide, t, by rw [show Txt.item (Str.ofString "a.b$_") 1 = ⟨#[46]⟩ from by decide +kernel]⟩
  · exact ⟨98, by decide, t, by rw [show Txt.item (Str.ofString "a.b$_") 2 = ⟨#[98]⟩ from by decide +kernel]⟩
  · exact ⟨36, by decide, t, by rw [show Txt.item (Str.ofString "a.b$_") 3 = ⟨#[36]⟩ from by decide +kernel]⟩
  · exact ⟨95, by decide, t, by rw [show Txt.item (Str.ofString "a.b$_") 4 = ⟨#[95]⟩ from by decide +kernel]⟩

theorem drawn_spec {w : World} {p : Program} {loose : List Str} {mean : ExcName → Option Value} {mg mb : Str → Option Value} {md ml : Addr} {o : Obj} {k : Int} {t : Tok} {ws : List Value} {ns : List Int} {n : Nat}
    (hmug : o.IsDictOf (strKind PG w) [(Str.ofString "at", Value.int k t), (Str.ofString "of", Value.ref ml)]) (lo : (md == sysModules) = false) (hi : IntsAre ws ns) (hn : ns.length ≤ 60) (hk : 0 ≤ k ∧ k < 900) (hne : @LT.lt Nat _ ml md ∨ @LT.lt Nat _ md ml) :
    Does 6 w p loose mean mg mb 615 [.ref md] [(md, o), (ml, listOf ws.toArray n)]
      (fun r news' => ∃ o' k' t' ss tr, news' = [(md, o'), (ml, listOf ws.toArray n)] ∧ o'.IsDictOf (strKind PG w) [(Str.ofString "at", Value.int k' t'), (Str.ofString "of", Value.ref ml)] ∧ r = .str ⟨List.toArray ss⟩ tr ∧ k < k' ∧ k' ≤ k + 9 ∧ ss.length ≤ 8 ∧ ∀ c ∈ ss, c ∈ [97, 46, 98, 36, 95]) := by
  k_with_none
  k_with "execs cons" => (k_here; (with_reducible refine' gentk ?F ?e1 ?e2 ?e3 ?e4 ?_); (case F => k_asm); (case e1 => k_dflt exact rfl); (case e2 => k_dflt exact rfl); (case e3 => k_dflt exact rfl); (case e4 => k_dflt exact rfl); intro tk')
  k_with "getItem ref str" => (k_here; kda_here; k_dflt (refine got_item (knd := PySem.strKind _ _) (by k_asm) (by k_mem) (by k_asm) (strKind_is _ _ _ _) (by rfl) ?_))
  k_with "call ref" => (k_here; (with_reducible show wpAny _ _ (call (Value.ref 610) _) _ _ _); k_dflt (refine' sip_use ?k1 ?k2 ?k3 ?k4 ?k5 ?kK ?kd ?ku ?U ?hml ?hmug ?lo ?hi ?hn ?hk ?hm ?hne ?_; (case k1 => k_asm); (case k2 => k_asm); (case k3 => k_asm); (case k4 => k_asm); (case k5 => k_asm); (case kK => first | assumption | exact rfl); (case kd => ktr_room); (case ku => ktr_units); (case U => k_updF); (case hml => k_mem); (case hmug => k_asm); (case lo => assumption); (case hi => assumption); (case hn => assumption); (case hk => omega); (case hm => omega); (case hne => omega); k_whole; intro h' o' t' v' tv' tk' F' N' hd' G' hv'; (try dsimp only at N'); (try k_fold)))
  k_with "eval ListComp" => (k_here; with_unfolding_all (refine' comp_own ?a ?b ?c ?_ ?e; (case a => with_unfolding_all rfl); (case b => rfl); (case c => decide); (case e => intro _; rfl)))
  unfold Does
  intro dp un gd cn cs a ccd cl outer A₀ base h₀ L m s R B F X N T hkf hdp hun hret
  k_dflt (refine' enter_cells ?k1 ?k2 ?k3 ?k4 ?k5 ?kA ?kF ?kK ?k6 ?k7 ?k8 ?k9 ?kB ?kD ?_ ?c2 ?c3 ?c4; (case kA => exact rfl); (case kF => exact rfl); (case kK => assumption); (case k1 => k_asm); (case k2 => k_asm); (case k3 => k_asm); (case k4 => k_asm); (case k5 => k_asm); (case k6 => k_is); (case k7 => k_is); (case k8 => ktr_room); (case k9 => exact BindsTo.of_eq rfl); (case kB => exact rfl); (case kD => decide +kernel); (case c2 => exact rfl); (case c3 => exact rfl); (case c4 => exact rfl); k_whole; intro g' L' h' tk' cells' FG' F' N' Y' B' X' T' l1 kG'; (try k_lt l1); k_cells Y'; (try simp only [List.cons_append, List.nil_append] at N'); (try dsimp only); (try k_lift B'); (try k_fold))
  k_steps
  (rename IsRange _ _ _ _ _ _ _ _ => hR)
  (with_reducible rename 0 ≤ _ ∧ _ => hv9)
  (with_reducible rename Fr _ _ _ _ => F9)
  (with_reducible rename News _ _ _ _ => N9)
  (rename GSub _ _ [md] => G9)
  (rename Obj.IsDictOf _ _ _ => D9)
  (rename ∀ (_ : Addr) (_ : Obj), _ = _ → _ = _ => K9)
  rename Int => v9
  obtain ⟨nn, hnn⟩ : ∃ nn : Nat, v9 = nn := ⟨v9.toNat, by omega⟩
  k_dflt (refine' comp_mug (md := md) (fun v => ∃ c ∈ [97, 46, 98, 36, 95], ∃ t, v = .str ⟨#[c]⟩ t) nn ?hh hR hnn (by omega) ?hcell ?hkind ?hx F9 N9 ?U D9 ?turn ?done)
  (case hh => rfl)
  (case hcell => decide)
  (case hkind => rfl)
  (case hx => rfl)
  (case U => k_updF)
  (case turn =>
    intro C i s₃ E' o' t' hi F8 N8 hd8
    (try dsimp only at N8)
    k_steps
    refine Hold.mk ⟨_, _, _, _, rfl, (by assumption), (by k_asm), (by k_asm), (by assumption), ?_⟩
    (with_reducible rename 0 ≤ _ ∧ _ => hv8)
    exact item_sign hv8 _)
  (case done =>
    intro D c h' tk ys o' t' F8 N8 hd8 hlen hok hG
    (try dsimp only at N8)
    k_steps
    refine join_texts (ok := fun a => ∃ c, a = [c] ∧ c ∈ [97, 46, 98, 36, 95]) N8 (by k_mem) (fun y hy => by
      obtain ⟨c, hc, t, rfl⟩ := hok y hy
      exact ⟨[c], t, rfl, ⟨c, rfl, hc⟩, by simp⟩) (by omega) fun parts t9 k9 hp1 hp2 _ => ?_
    k_steps
    (with_reducible rename News _ _ _ [_, _, _, _] => N7)
    (with_reducible rename Fr _ _ _ _ => F7)
    rename GSub _ _ (List.map _ _) => G7
    have hl2 : parts.flatten.length ≤ parts.length * 1 := len_flat fun p hp => by
      obtain ⟨⟨c, rfl, _⟩, _⟩ := hp2 p hp
      exact Nat.le_refl _
    refine hret _ [(md, o'), (ml, listOf ws.toArray n)] _ _ F7 (cb_drop N7 fun p hp => .tail _ (.tail _ hp)) (left_of G7 F8 (cb_drop N8 fun p hp => .tail _ (.tail _ hp))) ⟨o', _, t', parts.flatten, t9, rfl, hd8, rfl, by omega, by omega, by omega, fun c hc => ?_⟩
    obtain ⟨p, hp, hcp⟩ := List.mem_flatten.mp hc
    obtain ⟨⟨c', rfl, h9⟩, _⟩ := hp2 p hp
    rw [List.mem_singleton.mp hcp]; exact h9)
end

-- DrawnUse
section
set_option maxRecDepth 100000
set_option maxHeartbeats 8000000
theorem drawn_use {w : World} {p : Program} {loose : List Str} {mean : ExcName → Option Value} {mg mb : Str → Option Value} {md ml : Addr} {o : Obj} {k : Int} {t : Tok} {ws : List Value} {ns : List Int} {n : Nat}
    {dp un : Nat} {gd : Option (List Code)} {cn : Str} {cs : Scope} {a : Addr} {ccd : Value} {cl : List (Str × Addr)} {outer : List Env} {A₀ : Around} {base h₀ : Heap} {L : Addr} {m : Str → Option Value} {s : Shared} {Q E : Value → Shared → Prop} {news : Led} {g : Obj → Led}
    (B : Below A₀ base outer h₀) (F : Fr h₀ L s.heap m) (X : (written.heap_1 w.params).In h₀) (N : News h₀ L s.heap news) (T : Top p loose mean mg mb h₀) (hkf : cs.kind = .function) (hdp : dp + 6 < recursionLimit) (hun : un + 60 < cLine)
    (U : UpdF md o news g) (hml : (ml, listOf ws.toArray n) ∈ news)
    (hmug : o.IsDictOf (strKind PG w) [(Str.ofString "at", Value.int k t), (Str.ofString "of", Value.ref ml)]) (lo : (md == sysModules) = false) (hi : IntsAre ws ns) (hn : ns.length ≤ 60) (hk : 0 ≤ k ∧ k < 900) (hne : @LT.lt Nat _ ml md ∨ @LT.lt Nat _ md ml)
    (h : ∀ h' o' t' k' ss tr tk', Fr h₀ L h' m → News h₀ L h' (g o') → o'.IsDictOf (strKind PG w) [(Str.ofString "at", Value.int k' t'), (Str.ofString "of", Value.ref ml)] → GSub s.heap h' [md] → k < k' ∧ k' ≤ k + 9 → ss.length ≤ 8 → (∀ c ∈ ss, c ∈ [97, 46, 98, 36, 95]) → Q (.str (tx ss) tr) { s with heap := h', toks := tk' }) :
    wpAny (model PG w) (ktrTop dp un gd cn cs L a ccd cl outer) (call (.ref 615) [.ref md]) Q E s := by
  obtain ⟨pre, post, rfl, hg, h1, h2⟩ := U.split
  have hmo := N (md, o) (List.mem_append_right _ (.head _))
  have hne' : md ≠ ml := by intro e; subst e; rcases hne with q | q <;> exact Nat.lt_irrefl _ q
  refine Does.go (drawn_spec (n := n) hmug lo hi hn hk hne) B F X (fun p hp => ?_) T hkf hdp hun (fun r news' h' tk' F' N' G hp => ?_)
  · rcases List.mem_cons.mp hp with rfl | hp
    · exact hmo
    · rw [List.mem_singleton.mp hp]; exact N _ hml
  · replace G := G.1
    obtain ⟨o', k', t', ss, tr, rfl, hd', rfl, hk1, hk2, hl, hc⟩ := hp
    have G' : GSub s.heap h' [md] := fun b ob e nb => by
      by_cases hb : b = ml
      · subst hb
        have h3 := (N _ hml).1
        rw [e] at h3; cases h3
        exact (N' _ (.tail _ (.head _))).1
      · exact G b ob e fun q => by
          rcases List.mem_cons.mp q with rfl | q
          · exact nb (.head _)
          · exact hb (List.mem_singleton.mp q)
    refine h h' o' t' k' ss tr tk' F' (hg o' ▸ fun p hp => ?_) hd' G' ⟨hk1, hk2⟩ hl hc
    rcases List.mem_append.mp hp with hp | hp
    · exact ⟨G' _ _ (N p (List.mem_append_left _ hp)).1 (fun q => h1 p hp (List.mem_singleton.mp q)), (N p (List.mem_append_left _ hp)).2⟩
    · rcases List.mem_cons.mp hp with rfl | hp
      · exact N' _ (.head _)
      · exact ⟨G' _ _ (N p (List.mem_append_right _ (.tail _ hp))).1 (fun q => h2 p hp (List.mem_singleton.mp q)), (N p (List.mem_append_right _ (.tail _ hp))).2⟩
end

-- IsU
section
set_option maxRecDepth 100000
set_option maxHeartbeats 1000000
theorem tx_back (s : Str) : tx s.cps.toList = s := by
  cases s; simp [tx]
theorem slice_mem {x : Str} {l u : Option Int} {c : Nat} (h : c ∈ (Txt.slice x l u).cps.toList) : c ∈ x.cps.toList := by
  unfold Txt.slice at h
  split at h
  · exact h
  · simp only [List.mem_filterMap] at h
    obtain ⟨i, _, hi⟩ := h
    exact Array.mem_toList_iff.mpr (Array.mem_of_getElem? hi)

abbrev slAll (a nw : List Nat) (b e : Int) : Str := Txt.slice (tx a) none (some b) ++ tx nw ++ Txt.slice (tx a) (some e) none
theorem slAll_mem {a nw : List Nat} {b e : Int} {c : Nat} (h : c ∈ (slAll a nw b e).cps.toList) : c ∈ a ∨ c ∈ nw := by
  have h2 : c ∈ ((Txt.slice (tx a) none (some b)).cps ++ (tx nw).cps ++ (Txt.slice (tx a) (some e) none).cps).toList := h
  simp only [Array.toList_append, List.mem_append] at h2
  rcases h2 with (h2 | h2) | h2
  · left; simpa using slice_mem h2
  · right; simpa using h2
  · left; simpa using slice_mem h2

/-- what a substr with four arguments gives: the old part, the new whole -/
def subRes (a nw : List Nat) (off cnt most : Int) : Option (Str × List Nat) :=
  match cutL a.length off cnt with
  | none => none
  | some (b, e) => if ((slAll a nw b e).length : Int) ≤ most then some (Txt.slice (tx a) (some b) (some e), (slAll a nw b e).cps.toList) else none
theorem subRes_some {a nw : List Nat} {off cnt most b e : Int} (h : cutL a.length off cnt = some (b, e)) (h2 : ((slAll a nw b e).length : Int) ≤ most) : subRes a nw off cnt most = some (Txt.slice (tx a) (some b) (some e), (slAll a nw b e).cps.toList) := by
  unfold subRes
  rw [h]
  exact if_pos h2
theorem subRes_none {a nw : List Nat} {off cnt most : Int} (h : ∀ b e, cutL a.length off cnt = some (b, e) → most < ((slAll a nw b e).length : Int)) : subRes a nw off cnt most = none := by
  unfold subRes
  cases q : cutL a.length off cnt with
  | none => rfl
  | some p =>
    obtain ⟨b, e⟩ := p
    exact if_neg (by have := h b e q; omega)
theorem subRes_is {a nw wl : List Nat} {off cnt most : Int} {old : Str} (h : subRes a nw off cnt most = some (old, wl)) : (wl.length : Int) ≤ most ∧ ∀ c ∈ wl, c ∈ a ∨ c ∈ nw := by
  unfold subRes at h
  split at h
  · cases h
  · split at h
    · cases h
      rename_i hl
      refine ⟨?_, fun c hc => slAll_mem hc⟩
      rw [← tx_len, tx_back]; exact hl
    · cases h

/-- what the table of lambda codes says -/
def TabSt (qual : Str) (ps : Array Value) (pos : Pos) (x dv : Addr) (y : Obj) : Prop :=
  codeAmong pos ps.toList = none ∨ (codeAmong pos ps.toList = some (.ref x) ∧ @LT.lt Nat _ dv x ∧ ∃ vs t, y.data = .fields vs ∧ vs[1]? = some (.str qual t))

section
variable {M : Model} {A : Around} {E : Value → Shared → Prop} {s : Shared} {h₀ : Heap} {L a c P : Addr} {m mg mb : Str → Option Value} {cn : Str} {cs : Scope} {ccd : Value} {cl : List (Str × Addr)} {news : List (Addr × Obj)} {g : Obj → List (Addr × Obj)}
  {p : Program} {loose : List Str} {mean : ExcName → Option Value} {params : Arguments} {body : Expr} {scope : Scope} {ps : Array Value} {pos : Pos} {clos : List (Str × Addr)} {dv x : Addr} {oz y : Obj}
theorem lam_use {Q : Value → Shared → Prop} (F : Fr h₀ L s.heap m) (N : News h₀ L s.heap news) (T : Top p loose mean mg mb h₀) (C : CodeHd h₀ c P) (hcd : ccd = .ref c) (U : UpdF P (tabObj ps) news g) (ht : TriplesOk ps.toList)
    (hdef : defaultsOf params (envX cn cs L a ccd cl) = ([], [])) (hcl : closureFor scope (envX cn cs L a ccd cl) = pure clos)
    (S : TabSt ((envX cn cs L a ccd cl).qual ++ "<lambda>") ps pos x dv y) (hx : (x, y) ∈ news) (hz : (dv, oz) ∈ news)
    (h : ∀ f c' oc vs t ctv h' tk ps', Fr h₀ L h' m →
      News h₀ L h' ((f, kla_obj "<lambda>" ((envX cn cs L a ccd cl).qual ++ "<lambda>") params body scope clos ((mg "__name__").getD .none) c' ctv) :: (c', oc) :: g (tabObj ps')) →
      oc.data = .fields vs → vs[1]? = some (.str ((envX cn cs L a ccd cl).qual ++ "<lambda>") t) → TriplesOk ps'.toList → TabSt ((envX cn cs L a ccd cl).qual ++ "<lambda>") ps' pos c' dv oc →
      (∀ (pos' : Pos), ¬(pos'.line = pos.line ∧ pos'.col = pos.col) → ∀ q x' y', TabSt q ps pos' x' dv y' → TabSt q ps' pos' x' dv y') →
      @LT.lt Nat _ dv c' → (∀ q ∈ news, q.1 < f) → Q (.ref f) { s with heap := h', toks := tk }) :
    wpAny M A (eval (.Lambda params body scope pos) (envX cn cs L a ccd cl)) Q E s :=
  lam_make F N T C hcd U ht hdef hcl hz (S.imp id fun ⟨e1, e2, vs, t, e3, e4⟩ => ⟨x, y, vs, t, e1, hx, e2, e3, e4⟩) fun f c' oc vs t ctv h' tk ps' F' N' d1 d2 ht' hc ho hlt hf =>
    h f c' oc vs t ctv h' tk ps' F' N' d1 d2 ht' (.inr ⟨hc, hlt, vs, t, d1, d2⟩) (fun pos' hp q x' y' S' => by unfold TabSt; rw [ho pos' hp]; exact S') hlt hf
end

section
variable {w : World} {p : Program} {loose : List Str} {mean : ExcName → Option Value} {mg mb : Str → Option Value} {A₀ : Around} {base h₀ : Heap} {outer : List Env} {L : Addr} {m : Str → Option Value} {news : Led}
  {dp un : Nat} {gd : Option (List Code)} {cn : Str} {cs : Scope} {fa : Addr} {ccd : Value} {cl : List (Str × Addr)} {s : Shared} {Q E : Value → Shared → Prop}
theorem heard1_use {a : List Nat} {t t1 t2 t3 t4 t5 t6 t7 t8 tm tq : Tok} {most : Int} {v1 v2 v3 v4 v5 v6 : Value} {ra dr la dl va dv q c' k1 k2 : Addr} {esR esL : List DictEntry} {nR nL : Nat}
    {qual : Str} {pm ctv : Value} {oc o1 o2 : Obj} {vs : Array Value} {p1 p2 p3 p4 p5 p6 : Pos}
    (G₀ : Ground w p loose mean mg mb A₀ base outer h₀) (F : Fr h₀ L s.heap m) (N : News h₀ L s.heap news) (hk : cs.kind = .function) (hdp : dp + 43 < recursionLimit) (hun : un + 10 * 43 < cLine)
    (hs : ∀ p ∈ [(q, kla_obj "<lambda>" qual pars0 (body1 p1 p2 p3 p4 p5 p6) sc1 [(Str.ofString "variable", k2), (Str.ofString "run", k1)] pm c' ctv), (c', oc), (k1, o1), (k2, o2),
        (ra, instObj 514 dr), (dr, dictOf esR nR), (la, instObj 536 dl), (dl, dictOf esL nL), (va, instObj 98 dv), (dv, dictOf (scEs w t1 t2 t3 t4 t5 t6 t7 t8 v1 v2 v3 v4 v5 v6 (.str (tx a) t)) 8)], p ∈ news)
    (ha : a.length ≤ 100) (hal : ∀ c ∈ a, c ∈ [97, 46, 98, 36, 95, 92]) (hfo : oc.data = .fields vs) (hvq : vs[1]? = some (.str qual tq)) (d1 : o1.data = .cell (some (.ref ra))) (d2 : o2.data = .cell (some (.ref va)))
    (g1 : getL (Str.ofString "limits") esR = some (some (.ref la))) (g3 : getL (Str.ofString "text") esL = some (some (.int most tm)))
    (k : ∀ r h' tk' h₀', KtsTurn (frs outer) h₀ h₀' → Fr h₀' L h' m → News h₀' L h' news → Ground w p loose mean mg mb A₀ base outer h₀' →
      ((∃ t', r = .str (tx (a.flatMap quo)) t' ∧ ((tx (a.flatMap quo)).length : Int) ≤ most) ∨ (r = .none ∧ most < ((tx (a.flatMap quo)).length : Int))) → Q r { s with heap := h', toks := tk' }) :
    wpAny (model PG w) (ktrTop dp un gd cn cs L fa ccd cl outer) (call (.ref 641) [.ref q]) Q E s :=
  DoesT.ro (DoesT.post (heard_spec (.head _) rfl (lam1_spec ha hal hfo hvq d1 d2 g1 g3)) (post' := fun r n => ((∃ t', r = .str (tx (a.flatMap quo)) t' ∧ ((tx (a.flatMap quo)).length : Int) ≤ most) ∨ (r = .none ∧ most < ((tx (a.flatMap quo)).length : Int))) ∧ n = _)
    (fun r n h => h.elim (fun ⟨⟨t', e1, e2⟩, e3⟩ => ⟨.inl ⟨t', e1, e2⟩, e3⟩) fun ⟨e1, e2, e3⟩ => ⟨.inr ⟨e1, e3⟩, e2⟩)) G₀ F N hk hdp hun hs k

/-- what a heard substr gives and leaves -/
def SubHeard (w : World) (a nw : List Nat) (off cnt most nb : Int) (t1 t2 t3 t4 t5 t6 t7 t8 tn t : Tok) (v2 v3 v4 v5 v6 : Value) (r : Value) (o' : Obj) : Prop :=
  match subRes a nw off cnt most with
  | none => r = .none ∧ o' = dictOf (scEs w t1 t2 t3 t4 t5 t6 t7 t8 (.int nb tn) v2 v3 v4 v5 v6 (.str (tx a) t)) 8
  | some (old, wl) => ∃ u1 u2, r = .str old u1 ∧ o' = dictOf (scEs w t1 t2 t3 t4 t5 t6 t7 t8 (.int nb tn) v2 v3 v4 v5 v6 (.str (tx wl) u2)) 8
theorem subHeard_good {a nw : List Nat} {off cnt most nb : Int} {t1 t2 t3 t4 t5 t6 t7 t8 tn t : Tok} {v2 v3 v4 v5 v6 r : Value} {o' : Obj} (h : subPost w a nw off cnt most nb t1 t2 t3 t4 t5 t6 t7 t8 tn v2 v3 v4 v5 v6 r o') :
    SubHeard w a nw off cnt most nb t1 t2 t3 t4 t5 t6 t7 t8 tn t v2 v3 v4 v5 v6 r o' := by
  obtain ⟨b, e, u1, u2, c1, c2, c3, c4⟩ := h
  unfold SubHeard
  rw [subRes_some c1 c3]
  refine ⟨u1, u2, c2, ?_⟩
  rw [tx_back]; exact c4
theorem subHeard_bad {a nw : List Nat} {off cnt most nb : Int} {t1 t2 t3 t4 t5 t6 t7 t8 tn t : Tok} {v2 v3 v4 v5 v6 : Value} (h : subBad a nw off cnt most) :
    SubHeard w a nw off cnt most nb t1 t2 t3 t4 t5 t6 t7 t8 tn t v2 v3 v4 v5 v6 .none (dictOf (scEs w t1 t2 t3 t4 t5 t6 t7 t8 (.int nb tn) v2 v3 v4 v5 v6 (.str (tx a) t)) 8) := by
  unfold SubHeard
  rw [subRes_none h]
  exact ⟨rfl, rfl⟩

theorem heard2_use {a nw : List Nat} {t to tc tx1 tn t1 t2 t3 t4 t5 t6 t7 t8 tm tq : Tok} {off cnt most nb : Int} {v2 v3 v4 v5 v6 : Value} {ra dr la dl ca dc pa ea va dv q c' k1 k2 k3 k4 k5 : Addr} {esR esL esC : List DictEntry} {nR nL nC : Nat} {oP oE : Obj}
    {qual : Str} {pm ctv : Value} {oc o1 o2 o3 o4 o5 o₀ : Obj} {vs : Array Value} {p1 p2 p3 p4 p5 p6 p7 p8 p9 : Pos} {g : Obj → Led}
    (G₀ : Ground w p loose mean mg mb A₀ base outer h₀) (F : Fr h₀ L s.heap m) (N : News h₀ L s.heap news) (hk : cs.kind = .function) (hdp : dp + 73 < recursionLimit) (hun : un + 10 * 73 < cLine)
    (hs : ∀ p ∈ [(q, kla_obj "<lambda>" qual pars0 (body2 p1 p2 p3 p4 p5 p6 p7 p8 p9) sc2 [(Str.ofString "variable", k5), (Str.ofString "run", k4), (Str.ofString "offset", k3), (Str.ofString "new", k2), (Str.ofString "count", k1)] pm c' ctv), (c', oc), (k1, o1), (k2, o2), (k3, o3), (k4, o4), (k5, o5),
        (ra, instObj 514 dr), (dr, dictOf esR nR), (la, instObj 536 dl), (dl, dictOf esL nL), (ca, instObj 493 dc), (dc, dictOf esC nC), (pa, oP), (ea, oE), (va, instObj 98 dv)], p ∈ news)
    (U : UpdF dv o₀ news g) (ho : o₀ = dictOf (scEs w t1 t2 t3 t4 t5 t6 t7 t8 (.int nb tn) v2 v3 v4 v5 v6 (.str (tx a) t)) 8)
    (d1 : o1.data = .cell (some (.int cnt tc))) (d2 : o2.data = .cell (some (.str (tx nw) tx1))) (d3 : o3.data = .cell (some (.int off to))) (d4 : o4.data = .cell (some (.ref ra))) (d5 : o5.data = .cell (some (.ref va)))
    (ha : a.length ≤ 100) (hn : nw.length ≤ 100) (hoff : -100 ≤ off ∧ off ≤ 100) (hcnt : -100 ≤ cnt ∧ cnt ≤ 100)
    (hfo : oc.data = .fields vs) (hvq : vs[1]? = some (.str qual tq))
    (g1 : getL (Str.ofString "limits") esR = some (some (.ref la))) (g2 : getL (Str.ofString "counter") esR = some (some (.ref ca))) (g3 : getL (Str.ofString "text") esL = some (some (.int most tm)))
    (h1 : getL (Str.ofString "places") esC = some (some (.ref pa))) (h2 : getL (Str.ofString "empties") esC = some (some (.ref ea)))
    (m1 : getL (Str.ofString "take") esC = some none) (m2 : getL (Str.ofString "put_off") esC = some none) (m3 : getL (Str.ofString "store") esC = some none)
    (lP : (pa == sysModules) = false) (hP : oP.IsDictOf (intKind PG w) []) (lE : (ea == sysModules) = false) (hE : oE.IsDictOf (intKind PG w) [])
    (ord : @LT.lt Nat _ dl la ∧ @LT.lt Nat _ la dc ∧ @LT.lt Nat _ dc ca ∧ @LT.lt Nat _ ca pa ∧ @LT.lt Nat _ pa ea ∧ @LT.lt Nat _ ea dr ∧ @LT.lt Nat _ dr ra ∧ @LT.lt Nat _ ra dv ∧ @LT.lt Nat _ dv va)
    (ord2 : @LT.lt Nat _ dv k1 ∧ @LT.lt Nat _ dv k2 ∧ @LT.lt Nat _ dv k3 ∧ @LT.lt Nat _ dv k4 ∧ @LT.lt Nat _ dv k5 ∧ @LT.lt Nat _ dv q ∧ @LT.lt Nat _ dv c')
    (k : ∀ r o' h' tk' h₀', KtsTurn (frs outer) h₀ h₀' → Fr h₀' L h' m → News h₀' L h' (g o') → Ground w p loose mean mg mb A₀ base outer h₀' →
      SubHeard w a nw off cnt most nb t1 t2 t3 t4 t5 t6 t7 t8 tn t v2 v3 v4 v5 v6 r o' → Q r { s with heap := h', toks := tk' }) :
    wpAny (model PG w) (ktrTop dp un gd cn cs L fa ccd cl outer) (call (.ref 641) [.ref q]) Q E s :=
  DoesT.upd (pre₀ := [(q, kla_obj "<lambda>" qual pars0 (body2 p1 p2 p3 p4 p5 p6 p7 p8 p9) sc2 [(Str.ofString "variable", k5), (Str.ofString "run", k4), (Str.ofString "offset", k3), (Str.ofString "new", k2), (Str.ofString "count", k1)] pm c' ctv), (c', oc), (k1, o1), (k2, o2), (k3, o3), (k4, o4), (k5, o5),
        (ra, instObj 514 dr), (dr, dictOf esR nR), (la, instObj 536 dl), (dl, dictOf esL nL), (ca, instObj 493 dc), (dc, dictOf esC nC), (pa, oP), (ea, oE), (va, instObj 98 dv)])
    (post := fun r o' => SubHeard w a nw off cnt most nb t1 t2 t3 t4 t5 t6 t7 t8 tn t v2 v3 v4 v5 v6 r o')
    (DoesT.post (heard_spec (List.mem_append_left _ (.head _)) rfl (lam2_spec ha hn hoff hcnt hfo hvq d1 d2 d3 d4 d5 g1 g2 g3 h1 h2 m1 m2 m3 lP hP lE hE ord ord2))
      (fun r n h => h.elim (fun ⟨o', e1, e2⟩ => ⟨o', subHeard_good e1, e2⟩) fun ⟨e1, e2, e3⟩ => ⟨_, e1 ▸ subHeard_bad e3, e2⟩)) G₀ F N hk hdp hun hs U ho k

/-- what the law's own substr gives and leaves -/
def SubLaw (a nw : List Nat) (off cnt most : Int) (t : Tok) (nW : Nat) (r : Value) (o' : Obj) : Prop :=
  match subRes a nw off cnt most with
  | none => r = .none ∧ o' = listOf #[.str (tx a) t] nW
  | some (old, wl) => ∃ u1 u2, r = .str old u1 ∧ o' = listOf #[.str (tx wl) u2] nW
theorem lsub_use {a nw : List Nat} {t to tc tn tm : Tok} {off cnt most : Int} {wa : Addr} {nW : Nat} {o₀ : Obj} {g : Obj → Led}
    (B : Below A₀ base outer h₀) (F : Fr h₀ L s.heap m) (X : (written.heap_1 w.params).In h₀) (N : News h₀ L s.heap news) (T : Top p loose mean mg mb h₀) (hk : cs.kind = .function) (hdp : dp + 8 < recursionLimit) (hun : un + 10 * 8 < cLine)
    (U : UpdF wa o₀ news g) (ho₀ : o₀ = listOf #[.str (tx a) t] nW)
    (ha : a.length ≤ 100) (hn : nw.length ≤ 100) (ho : -100 ≤ off ∧ off ≤ 100) (hc : -100 ≤ cnt ∧ cnt ≤ 100)
    (k : ∀ r o' h' tk', Fr h₀ L h' m → News h₀ L h' (g o') → GSub s.heap h' [wa] → SubLaw a nw off cnt most t nW r o' → Q r { s with heap := h', toks := tk' }) :
    wpAny (model PG w) (ktrTop dp un gd cn cs L fa ccd cl outer) (call (.ref 634) [.ref wa, .int most tm, .int off to, .int cnt tc, .str (tx nw) tn]) Q E s :=
  DoesR.upd (pre₀ := []) (post := fun r o' => SubLaw a nw off cnt most t nW r o') (rc := False)
    (DoesR.post (Does.toR (law_substr_spec ha hn ho hc)) (fun r n h => by
      rcases h with ⟨e1, e2, e3⟩ | ⟨b, e, u1, u2, e1, e2, e3, e4⟩
      · refine ⟨_, ?_, e2⟩
        unfold SubLaw
        rw [subRes_none e3]
        exact ⟨e1, rfl⟩
      · refine ⟨_, ?_, e4⟩
        unfold SubLaw
        rw [subRes_some e1 e3]
        exact ⟨u1, u2, e2, by rw [tx_back]⟩) id) B F X N T hk hdp hun (fun _ h => nomatch h) U ho₀ k (Hold.mk fun _ _ _ _ h => h.elim)
end
end

-- CB
section
set_option maxRecDepth 100000
set_option maxHeartbeats 400000
theorem hdIn_of {K : Frag} {c P : Addr} {o : Obj} (e : K.lookup c = some o) (h : codeHdIn [(c, o)] c P = true) : codeHdIn K c P = true := by
  unfold codeHdIn at h ⊢
  rw [e]
  simpa [List.lookup] using h
theorem cb {w : World} {h : Heap} (X : (written.heap_1 w.params).In h) : CodeHd h 647 643 := codeHd_of_K X (by
  k_dflt (refine' hdIn_of ?a ?b)
  (case a => k_is)
  (case b => rfl))
theorem cb2 {w : World} {h : Heap} (X : (written.heap_1 w.params).In h) : CodeHd h 654 650 := codeHd_of_K X (by
  k_dflt (refine' hdIn_of ?a ?b)
  (case a => k_is)
  (case b => rfl))
end

-- IsR
section
set_option maxRecDepth 100000
set_option maxHeartbeats 4000000
theorem menu_bnd {i : Int} : -100 ≤ ([9, 0, 1, 3, -1, -4] : List Int).getD i.toNat 0 ∧ ([9, 0, 1, 3, -1, -4] : List Int).getD i.toNat 0 ≤ 100 := by
  generalize i.toNat = j
  match j with
  | 0 | 1 | 2 | 3 | 4 | 5 => decide
  | n + 6 => simp
theorem news_sub {h₀ h : Heap} {L : Addr} {l l' : Led} (N : News h₀ L h l) (s : ∀ p ∈ l', p ∈ l) : News h₀ L h l' := fun p hp => N p (s p hp)

theorem quo_mem {a : List Nat} (hal : ∀ c ∈ a, c ∈ [97, 46, 98, 36, 95, 92]) : ∀ c ∈ a.flatMap quo, c ∈ [97, 46, 98, 36, 95, 92] := by
  intro c hc
  obtain ⟨d, hd, hc⟩ := List.mem_flatMap.mp hc
  have := hal d hd
  unfold quo at hc
  split at hc
  · rw [List.mem_singleton.mp hc]; exact this
  · rcases List.mem_cons.mp hc with rfl | hc
    · decide
    · rw [List.mem_singleton.mp hc]; exact this
abbrev lamQ : Str := (envX (Str.ofString "_law_is_right") default 0 0 .none []).qual ++ "<lambda>"

def IsrPost (w : World) (md ml wa ra va dr la dl ca dc pa ea dv : Addr) (k most nb : Int) (tn t1 t2 t3 t4 t5 t6 t7 t8 : Tok) (ws : List Value) (n nW nR nL nC : Nat) (esR esL esC : List DictEntry) (oP oE : Obj) (v2 v3 v4 v5 v6 : Value) (r : Value) (news : Led) : Prop :=
  r = .bool true ∧ ∃ (ps : Array Value) (o : Obj) (k' : Int) (t ta t0 : Tok) (a : List Nat) (x1 x2 : Addr) (y1 y2 : Obj),
    news = [(643, tabObj ps), (md, o), (wa, listOf #[.str (tx a) ta] nW), (x1, y1), (x2, y2), (ml, listOf ws.toArray n), (la, instObj 536 dl), (dl, dictOf esL nL), (ca, instObj 493 dc), (dc, dictOf esC nC), (pa, oP), (ea, oE), (ra, instObj 514 dr), (dr, dictOf esR nR), (va, instObj 98 dv), (dv, dictOf (scEs w t1 t2 t3 t4 t5 t6 t7 t8 (.int nb tn) v2 v3 v4 v5 v6 (.str (tx a) t0)) 8)] ∧
    o.IsDictOf (strKind PG w) [(Str.ofString "at", Value.int k' t), (Str.ofString "of", Value.ref ml)] ∧ k ≤ k' ∧ k' ≤ k + 20 ∧ TriplesOk ps.toList ∧
    TabSt lamQ ps ⟨398, 27, 398, 69⟩ x1 dv y1 ∧ TabSt lamQ ps ⟨409, 22, 409, 81⟩ x2 dv y2 ∧ (@Eq Nat x1 ml ∨ @LT.lt Nat _ dv x1) ∧ (@Eq Nat x2 ml ∨ @LT.lt Nat _ dv x2) ∧
    (a.length : Int) ≤ most ∧ ∀ c ∈ a, c ∈ [97, 46, 98, 36, 95, 92]

theorem isr_end {w : World} {p : Program} {loose : List Str} {mean : ExcName → Option Value} {mg mb : Str → Option Value} {A₀ : Around} {base h₀ g g9 h9 : Heap} {outer : List Env} {L L' : Addr} {m m' : Str → Option Value} {s : Shared} {R : Result → Shared → Prop} {sub led : Led} {v : Value} {tk9 : Nat}
    {md ml wa ra va dr la dl ca dc pa ea dv : Addr} {k most nb : Int} {tn t1 t2 t3 t4 t5 t6 t7 t8 : Tok} {ws : List Value} {n nW nR nL nC : Nat} {esR esL esC : List DictEntry} {oP oE : Obj} {v2 v3 v4 v5 v6 : Value}
    {ps : Array Value} {o : Obj} {k' : Int} {t ta t0 : Tok} {a : List Nat} {x1 x2 : Addr} {y1 y2 : Obj}
    (hret : ∀ r news' h' tk' h₀', KtsTurn (frs outer) h₀ h₀' → Fr h₀' L h' m → News h₀' L h' news' → Ground w p loose mean mg mb A₀ base outer h₀' → LeftT (L :: frs outer) s.heap h' sub news' →
      IsrPost w md ml wa ra va dr la dl ca dc pa ea dv k most nb tn t1 t2 t3 t4 t5 t6 t7 t8 ws n nW nR nL nC esR esL esC oP oE v2 v3 v4 v5 v6 r news' → R (.ok (.ret r)) { s with heap := h', toks := tk' })
    (TT : KtsTurn (L :: frs outer) g g9) (F : Fr g9 L' h9 m') (N : News g9 L' h9 led)
    (S1 : TabSt lamQ ps ⟨398, 27, 398, 69⟩ x1 dv y1) (S2 : TabSt lamQ ps ⟨409, 22, 409, 81⟩ x2 dv y2) (hv : v = .bool true)
    (hm : ∀ p ∈ [(643, tabObj ps), (md, o), (wa, listOf #[.str (tx a) ta] nW), (x1, y1), (x2, y2), (ml, listOf ws.toArray n), (la, instObj 536 dl), (dl, dictOf esL nL), (ca, instObj 493 dc), (dc, dictOf esC nC), (pa, oP), (ea, oE), (ra, instObj 514 dr), (dr, dictOf esR nR), (va, instObj 98 dv), (dv, dictOf (scEs w t1 t2 t3 t4 t5 t6 t7 t8 (.int nb tn) v2 v3 v4 v5 v6 (.str (tx a) t0)) 8)], p ∈ led)
    (hd : o.IsDictOf (strKind PG w) [(Str.ofString "at", Value.int k' t), (Str.ofString "of", Value.ref ml)]) (hk : k ≤ k' ∧ k' ≤ k + 20) (ht : TriplesOk ps.toList)
    (o1 : @Eq Nat x1 ml ∨ @LT.lt Nat _ dv x1) (o2 : @Eq Nat x2 ml ∨ @LT.lt Nat _ dv x2) (hl : (a.length : Int) ≤ most) (hal : ∀ c ∈ a, c ∈ [97, 46, 98, 36, 95, 92]) :
    EndT w p loose mean mg mb A₀ base outer h₀ L m s.heap sub g R v { s with heap := h9, toks := tk9 } :=
  ⟨g9, L', m', [(643, tabObj ps), (md, o), (wa, listOf #[.str (tx a) ta] nW), (x1, y1), (x2, y2), (ml, listOf ws.toArray n), (la, instObj 536 dl), (dl, dictOf esL nL), (ca, instObj 493 dc), (dc, dictOf esC nC), (pa, oP), (ea, oE), (ra, instObj 514 dr), (dr, dictOf esR nR), (va, instObj 98 dv), (dv, dictOf (scEs w t1 t2 t3 t4 t5 t6 t7 t8 (.int nb tn) v2 v3 v4 v5 v6 (.str (tx a) t0)) 8)], TT, F, news_sub N hm, fun h₀' a1 a2 a3 a4 a5 => hret _ _ _ _ h₀' a1 a2 a3 a4 a5 ⟨hv, ps, o, k', t, ta, t0, a, x1, x2, y1, y2, rfl, hd, hk.1, hk.2, ht, S1, S2, o1, o2, hl, hal⟩⟩

theorem sep_of {x ml md wa dv : Nat} (h : x = ml ∨ dv < x) (h1 : 643 < wa) (h2 : md < ml) (h3 : ml < wa) (h4 : wa < dv) (h5 : 643 < md) : x ≠ 643 ∧ x ≠ md ∧ x ≠ wa ∧ x ≠ dv := by omega
theorem isr_spec {w : World} {p : Program} {loose : List Str} {mean : ExcName → Option Value} {mg mb : Str → Option Value} {md ml wa ra va x1 x2 dr la dl ca dc pa ea dv : Addr} {o y1 y2 : Obj} {k most nb : Int} {t t0 tm tm2 tn t1 t2 t3 t4 t5 t6 t7 t8 : Tok} {ws : List Value} {ns : List Int} {n nW nR nL nC : Nat} {a : List Nat} {ta : Tok} {ps : Array Value} {esR esL esC : List DictEntry} {oP oE : Obj} {v2 v3 v4 v5 v6 : Value}
    (hmug : o.IsDictOf (strKind PG w) [(Str.ofString "at", Value.int k t), (Str.ofString "of", Value.ref ml)]) (lo : (md == sysModules) = false) (hi : IntsAre ws ns) (hn : ns.length ≤ 60) (hk : 0 ≤ k ∧ k < 800) (ht : TriplesOk ps.toList)
    (g1 : getL (Str.ofString "limits") esR = some (some (.ref la))) (g2 : getL (Str.ofString "counter") esR = some (some (.ref ca))) (g3 : getL (Str.ofString "text") esL = some (some (.int most tm)))
    (h1 : getL (Str.ofString "places") esC = some (some (.ref pa))) (h2 : getL (Str.ofString "empties") esC = some (some (.ref ea)))
    (m1 : getL (Str.ofString "take") esC = some none) (m2 : getL (Str.ofString "put_off") esC = some none) (m3 : getL (Str.ofString "store") esC = some none)
    (lP : (pa == sysModules) = false) (hP : oP.IsDictOf (intKind PG w) []) (lE : (ea == sysModules) = false) (hE : oE.IsDictOf (intKind PG w) [])
    (ord : @LT.lt Nat _ 643 md ∧ @LT.lt Nat _ md ml ∧ @LT.lt Nat _ ml wa ∧ @LT.lt Nat _ wa dl ∧ @LT.lt Nat _ dl la ∧ @LT.lt Nat _ la dc ∧ @LT.lt Nat _ dc ca ∧ @LT.lt Nat _ ca pa ∧ @LT.lt Nat _ pa ea ∧ @LT.lt Nat _ ea dr ∧ @LT.lt Nat _ dr ra ∧ @LT.lt Nat _ ra dv ∧ @LT.lt Nat _ dv va)
    (ox1 : @Eq Nat x1 ml ∨ @LT.lt Nat _ dv x1) (ox2 : @Eq Nat x2 ml ∨ @LT.lt Nat _ dv x2)
    (S1 : TabSt lamQ ps ⟨398, 27, 398, 69⟩ x1 dv y1) (S2 : TabSt lamQ ps ⟨409, 22, 409, 81⟩ x2 dv y2)
    (ha : (a.length : Int) ≤ most) (hmost : 0 ≤ most ∧ most ≤ 17) (hal : ∀ c ∈ a, c ∈ [97, 46, 98, 36, 95, 92]) :
    DoesT 100 w p loose mean mg mb 648 [.ref md, .ref ra, .ref va, .ref wa, .int most tm2] [(643, tabObj ps), (md, o), (wa, listOf #[.str (tx a) ta] nW), (x1, y1), (x2, y2), (ml, listOf ws.toArray n), (la, instObj 536 dl), (dl, dictOf esL nL), (ca, instObj 493 dc), (dc, dictOf esC nC), (pa, oP), (ea, oE), (ra, instObj 514 dr), (dr, dictOf esR nR), (va, instObj 98 dv), (dv, dictOf (scEs w t1 t2 t3 t4 t5 t6 t7 t8 (.int nb tn) v2 v3 v4 v5 v6 (.str (tx a) t0)) 8)]
      (IsrPost w md ml wa ra va dr la dl ca dc pa ea dv k most nb tn t1 t2 t3 t4 t5 t6 t7 t8 ws n nW nR nL nC esR esL esC oP oE v2 v3 v4 v5 v6) := by
  k_with_none
  k_with "execs cons" => (k_here; (with_reducible refine' gentk ?F ?e1 ?e2 ?e3 ?e4 ?_); (case F => k_asm); (case e1 => k_dflt exact rfl); (case e2 => k_dflt exact rfl); (case e3 => k_dflt exact rfl); (case e4 => k_dflt exact rfl); intro tk')
  k_with "call ref" => (k_here; (with_reducible show wpAny _ _ (call (Value.ref 610) _) _ _ _); k_dflt (refine' sip_use ?k1 ?k2 ?k3 ?k4 ?k5 ?kK ?kd ?ku ?U ?hml ?hmug ?lo ?hi ?hn ?hk ?hm ?hne ?_; (case k1 => k_asm); (case k2 => k_asm); (case k3 => k_asm); (case k4 => k_asm); (case k5 => k_asm); (case kK => first | assumption | exact rfl); (case kd => ktr_room); (case ku => ktr_units); (case U => k_updF); (case hmug => k_asm); (case hml => k_mem); (case lo => assumption); (case hi => assumption); (case hn => assumption); (case hk => omega); (case hm => omega); (case hne => first | k_ne | omega); k_whole; intro h' o' t' v' tv' tk' F' N' hd' G' hv'; (try dsimp only at N'); (try k_fold)))
  k_with "call ref" => (k_here; (with_reducible show wpAny _ _ (call (Value.ref 615) _) _ _ _); k_dflt (refine' drawn_use ?k1 ?k2 ?k3 ?k4 ?k5 ?kK ?kd ?ku ?U ?hml ?hmug ?lo ?hi ?hn ?hk ?hne ?_; (case k1 => k_asm); (case k2 => k_asm); (case k3 => k_asm); (case k4 => k_asm); (case k5 => k_asm); (case kK => first | assumption | exact rfl); (case kd => ktr_room); (case ku => ktr_units); (case U => k_updF); (case hmug => k_asm); (case hml => k_mem); (case lo => assumption); (case hi => assumption); (case hn => assumption); (case hk => omega); (case hne => first | k_ne | omega); k_whole; intro h' o' t' k' ss' tr' tk' F' N' hd' G' hv' hl' hs'; (try dsimp only at N'); (try k_fold)))
  k_with "call ref" => (k_here; (with_reducible show wpAny _ _ (call (Value.ref 627) _) _ _ _); k_dflt (refine' Does.mk (guard_spec ?ha ?hal) ?k1 ?k2 ?k3 ?k4 ?k5 ?kK ?kd ?ku ?_; (case k1 => k_asm); (case k2 => k_asm); (case k3 => k_asm); (case k4 => k_asm); (case k5 => k_asm); (case kK => first | assumption | exact rfl); (case kd => ktr_room); (case ku => ktr_units); (case ha => omega); (case hal => assumption); k_whole); intro r' n' h' tk' F' N' G' e' q'; obtain ⟨e1, t9, e2⟩ := q'; subst e1 e2; (try simp only [List.nil_append] at N'); (try k_fold))
  k_with "call ref" => (k_here; (with_reducible show wpAny _ _ (call (Value.ref 634) _) _ _ _); k_dflt (refine' lsub_use ?k1 ?k2 ?k3 ?k4 ?k5 ?kK ?kd ?ku ?U ?ho ?ha ?hn ?hc1 ?hc2 ?_; (case k1 => k_asm); (case k2 => k_asm); (case k3 => k_asm); (case k4 => k_asm); (case k5 => k_asm); (case kK => first | assumption | exact rfl); (case kd => ktr_room); (case ku => ktr_units); (case U => k_updF); (case ho => with_reducible rfl); (case ha => omega); (case hn => omega); (case hc1 => omega); (case hc2 => first | omega | exact menu_bnd); k_whole); intro r' o' h' tk' F' N' G' q'; (try dsimp only at N'); unfold SubLaw at q'; (split at q' <;> (first | (obtain ⟨e1, e2⟩ := q'; subst e1 e2) | (obtain ⟨u9, w9, e1, e2⟩ := q'; subst e1 e2))); (all_goals (try k_fold)))
  k_with "eval Lambda" => (k_here; k_dflt (refine' lam_use ?F ?N ?T ?C ?cd ?U ?t ?hdef ?cl ?S ?hx ?hz ?_; (case F => k_asm); (case N => k_asm); (case T => k_asm); (case cd => exact rfl); (case C => k_asm); (case U => k_updF); (case t => assumption); (case hdef => rfl); (case cl => rfl); (case S => assumption); (case hx => k_mem); (case hz => k_mem); k_whole); intro f' c' oc' vs' t' ctv' h' tk' ps' F' N' d1' d2' ht' S' So' lc' l1; (try dsimp only at N'); (try k_lt l1); (have hTc' := lt1_chain lc' (by with_reducible assumption)); (try k_fold))
  k_with "call ref" => (k_here; (with_reducible show wpAny _ _ (call (Value.ref 641) _) _ _ _); k_dflt (refine' heard1_use ?k1 ?k2 ?k3 ?kK ?kd ?ku ?km ?ha ?hal ?hfo ?hvq ?d1 ?d2 ?g1 ?g3 ?_; (case k1 => k_asm); (case k2 => k_asm); (case k3 => k_asm); (case kK => first | assumption | exact rfl); (case kd => ktr_room); (case ku => ktr_units); (case g1 => with_reducible assumption); (case g3 => with_reducible assumption); (case km => (repeat (first | exact List.forall_mem_nil _ | (refine List.forall_mem_cons.mpr ⟨(by k_mem), ?_⟩)))); (case ha => omega); (case hal => assumption); (case hfo => assumption); (case hvq => assumption); (case d1 => assumption); (case d2 => assumption); k_whole); intro r' h' tk' g9' TT' F' N' GG' q'; (have X' := GG'.X); (have B' := GG'.B); (have T' := GG'.T); (have C' := cb X'); (rcases q' with ⟨t9', e1, hq9'⟩ | ⟨e1, hq9'⟩ <;> subst e1); (all_goals (try k_fold)))
  k_with "call ref" => (k_here; (with_reducible show wpAny _ _ (call (Value.ref 641) _) _ _ _); k_dflt (refine' heard2_use ?k1 ?k2 ?k3 ?kK ?kd ?ku ?km ?U ?ho ?d1 ?d2 ?d3 ?d4 ?d5 ?ha ?hn ?hc1 ?hc2 ?hfo ?hvq ?g1 ?g2 ?g3 ?h1 ?h2 ?m1 ?m2 ?m3 ?lP ?hP ?lE ?hE ?ord ?ord2 ?_; (case k1 => k_asm); (case k2 => k_asm); (case k3 => k_asm); (case kK => first | assumption | exact rfl); (case kd => ktr_room); (case ku => ktr_units); (case g1 => with_reducible assumption); (case g2 => with_reducible assumption); (case g3 => with_reducible assumption); (case h1 => with_reducible assumption); (case h2 => with_reducible assumption); (case m1 => with_reducible assumption); (case m2 => with_reducible assumption); (case m3 => with_reducible assumption); (case km => (repeat (first | exact List.forall_mem_nil _ | (refine List.forall_mem_cons.mpr ⟨(by k_mem), ?_⟩)))); (case U => k_updF); (case ho => with_reducible rfl); (case d1 => assumption); (case d2 => assumption); (case d3 => assumption); (case d4 => assumption); (case d5 => assumption); (case ha => omega); (case hn => omega); (case hc1 => omega); (case hc2 => first | omega | exact menu_bnd); (case hfo => assumption); (case hvq => assumption); (case lP => assumption); (case hP => assumption); (case lE => assumption); (case hE => assumption); (case ord => assumption); (case ord2 => (refine ⟨?_, ?_, ?_, ?_, ?_, ?_, ?_⟩ <;> (k_dflt (first | with_reducible assumption | exact lt1_lt (by assumption) (by k_mem))))); k_whole); intro r' o' h' tk' g9' TT' F' N' GG' q'; (have X' := GG'.X); (have B' := GG'.B); (have T' := GG'.T); (have C' := cb X'); (try dsimp only at N'); (rename subRes _ _ _ _ _ = _ => sr9); unfold SubHeard at q'; rw [sr9] at q'; (first | (obtain ⟨e1, e2⟩ := q'; subst e1 e2) | (obtain ⟨u9', w9', e1, e2⟩ := q'; subst e1 e2)); (all_goals (try k_fold)))
  k_with "call ref" => (k_here; (with_reducible show wpAny _ _ (call (Value.ref 455) _) _ _ _); k_dflt (refine' store_use ?k1 ?k2 ?k3 ?k4 ?k5 ?kK ?kd ?ku ?km ?U ?ho ?h1 ?h2 ?m1 ?m2 ?lP ?hP ?lE ?hE ?hne ?_; (case k1 => k_asm); (case k2 => k_asm); (case k3 => k_asm); (case k4 => k_asm); (case k5 => k_asm); (case kK => first | assumption | exact rfl); (case kd => ktr_room); (case ku => ktr_units); (case h1 => with_reducible assumption); (case h2 => with_reducible assumption); (case m1 => with_reducible assumption); (case m2 => with_reducible assumption); (case km => (repeat (first | exact List.forall_mem_nil _ | (refine List.forall_mem_cons.mpr ⟨(by k_mem), ?_⟩)))); (case U => k_updF); (case ho => with_reducible rfl); (case lP => assumption); (case hP => assumption); (case lE => assumption); (case hE => assumption); (case hne => (refine ⟨?_, ?_, ?_, ?_, ?_, ?_, ?_, ?_, ?_, ?_, ?_, ?_⟩ <;> k_ne))); (intro h' tk' F' N' G'; (try dsimp only at N'); (try k_fold)))
  k_with "callWith ref" => (k_here; k_dflt (refine' callWith_K ?k1 ?k2 ?_; (case k1 => k_asm); (case k2 => k_is); k_whole))
  k_with "eval IfExp" => (k_here; (fail_if_success (with_reducible show wpAny _ _ _ (JoinV _ _ _ _ _) _ _)); k_dflt (refine' join_u (s₀ := s) (fun v o' => ∃ l u k' t', v = Value.str (tx l) u ∧ o'.IsDictOf (strKind PG w) [(Str.ofString "at", Value.int k' t'), (Str.ofString "of", Value.ref ml)] ∧ (k ≤ k' ∧ k' ≤ k + 15) ∧ l.length ≤ 100 ∧ ∀ c ∈ l, c ∈ [97, 46, 98, 36, 95, 92]) ?F ?N (d := md) ?U ?_ ?_; (case F => k_asm); (case N => k_asm); (case U => k_updF)); rotate_left; (intro v' o' h' tk' p' F' N'; obtain ⟨l9, u9, k9, t9, e1, hd9, hk9, hl9, al9⟩ := p'; subst e1; (try dsimp only at N'); (try k_fold)); rotate_left)
  k_with "JoinV" => (k_dflt (first | (refine JoinV.mk (by k_asm) (by k_asm) rfl rfl rfl rfl ⟨_, rfl, a, _, _, _, rfl, by assumption, ?_, ?_, hal⟩ <;> omega) | (refine JoinV.mk (by k_asm) (by k_asm) rfl rfl rfl rfl ⟨_, rfl, _, _, _, _, rfl, by assumption, ?_, ?_, fun c hc => List.mem_append_left [92] (hs' c hc)⟩ <;> omega)))
  unfold DoesT
  intro dp un gd cn cs fa ccd cl outer A₀ base h₀ L m s R G₀ F N hkf hdp hun hret
  obtain ⟨q1, q2, q3, q4⟩ := ord
  have ord9 : @LT.lt Nat _ dl la ∧ @LT.lt Nat _ la dc ∧ @LT.lt Nat _ dc ca ∧ @LT.lt Nat _ ca pa ∧ @LT.lt Nat _ pa ea ∧ @LT.lt Nat _ ea dr ∧ @LT.lt Nat _ dr ra ∧ @LT.lt Nat _ ra dv ∧ @LT.lt Nat _ dv va := q4.2
  have c1 := lt1_chain q1 lt1_nil
  have c2 := lt1_chain q2 c1
  have c3 := lt1_chain q3 c2
  have c4 := lt1_chain q4.1 c3
  have c5 := lt1_chain ord9.1 c4
  have c6 := lt1_chain ord9.2.1 c5
  have c7 := lt1_chain ord9.2.2.1 c6
  have c8 := lt1_chain ord9.2.2.2.1 c7
  have c9 := lt1_chain ord9.2.2.2.2.1 c8
  have c10 := lt1_chain ord9.2.2.2.2.2.1 c9
  have c11 := lt1_chain ord9.2.2.2.2.2.2.1 c10
  have c12 := lt1_chain ord9.2.2.2.2.2.2.2.1 c11
  have c13 := lt1_chain ord9.2.2.2.2.2.2.2.2 c12
  have e1 : @Ne Nat x1 643 ∧ @Ne Nat x1 md ∧ @Ne Nat x1 wa ∧ @Ne Nat x1 dv := sep_of ox1 (lt1_lt c3 (by k_mem)) q2 q3 (lt1_lt c12 (by k_mem)) q1
  have e2 : @Ne Nat x2 643 ∧ @Ne Nat x2 md ∧ @Ne Nat x2 wa ∧ @Ne Nat x2 dv := sep_of ox2 (lt1_lt c3 (by k_mem)) q2 q3 (lt1_lt c12 (by k_mem)) q1
  obtain ⟨e11, e12, e13, e14⟩ := e1
  obtain ⟨e21, e22, e23, e24⟩ := e2
  have hql := quo_len (a := a) (by omega)
  k_dflt (refine' enter_turnC G₀ ?k2 ?k4 ?kA ?kF ?kK ?k6 ?k7 ?k8 ?k9 ?kB ?kD ?_ ?c2 ?c3 ?c4)
  (case kA => exact rfl)
  (case kF => exact rfl)
  (case kK => assumption)
  (case k2 => k_asm)
  (case k4 => k_asm)
  (case k6 => k_dflt k_is)
  (case k7 => k_dflt k_is)
  (case k8 => ktr_room)
  (case k9 => exact BindsTo.of_eq rfl)
  (case kB => exact rfl)
  (case kD => decide +kernel)
  (case c2 => exact rfl)
  (case c3 => exact rfl)
  (case c4 => exact rfl)
  intro g' L' h' tk' cells' FG' F' N' Y' G' l1 kG'
  (try k_lt l1)
  have l21 := lt1_up (by assumption : Lt1 L' _)
  have l22 := lt1_succ l21
  have l23 := lt1_succ l22
  have l24 := lt1_succ l23
  have l25 := lt1_succ l24
  k_cells Y'
  (try simp only [List.cons_append, List.nil_append] at N')
  have X' := G'.X
  have C' := cb X'
  have B' := G'.B
  have T' := G'.T
  (try dsimp only)
  (try k_lift B')
  (try k_fold)
  k_steps
  all_goals (try dsimp only)
  all_goals (rename ∀ (pos' : Pos), ¬(pos'.line = _ ∧ pos'.col = _) → ∀ q x' y', TabSt q _ pos' x' _ y' → TabSt q _ pos' x' _ y' => So9)
  all_goals (refine isr_end hret (by assumption) (by assumption) (by assumption) (by first | exact So9 _ (by decide) _ _ _ S1 | assumption) (by first | exact So9 _ (by decide) _ _ _ S2 | assumption) ?_ (by (repeat (first | exact List.forall_mem_nil _ | (refine List.forall_mem_cons.mpr ⟨(by k_mem), ?_⟩)))) (by assumption) (by omega) (by assumption) (by first | exact .inr (by assumption) | assumption) (by first | exact .inr (by assumption) | assumption) ?_ ?_)
  all_goals first
    | exact congrArg Value.bool (beq_self_eq_true _)
    | exact rfl
    | assumption
    | exact quo_mem hal
    | (rw [← tx_len]; assumption)
    | exact (subRes_is (by assumption)).1
    | (intro c hc
       rcases (subRes_is (by assumption)).2 c hc with h | h
       · exact hal c h
       · first | exact al9 c h | exact hal c h)
end

-- Zero
section
theorem slice_00 (x : Str) : Txt.slice x (some 0) (some 0) = Str.ofString "" := by
  show StrLaws.sliceText x (some 0) (some 0) = _
  rw [StrLaws.sliceText_plain ⟨by omega, by omega, by omega⟩]
  simp
  decide +kernel
theorem slice_n0 (x : Str) : Txt.slice x none (some 0) = Str.ofString "" := by
  show StrLaws.sliceText x none (some 0) = _
  rw [StrLaws.sliceText_to ⟨by omega, by omega⟩]
  simp
  decide +kernel
theorem slice_0n (x : Str) : Txt.slice x (some 0) none = x := by
  rw [slice_from_eq (i := 0) (b := x.length) (by omega) (by omega) rfl]
  cases x with | mk c =>
    simp only [Str.length, Int.toNat_zero, List.drop_zero, Int.sub_zero, Int.toNat_natCast]
    rw [← Array.length_toList, List.take_length]
theorem ofs_empty : Str.ofString "" = tx [] := by decide +kernel
theorem cut_zero (n : Nat) : cutL n 0 0 = some (0, 0) := by
  unfold cutL
  have hl : (0:Int) ≤ (n : Int) := Int.natCast_nonneg _
  have h1 : ¬ ((n : Int) < 0) := by omega
  simp [h1]
  omega
theorem subRes_zero {a : List Nat} {most : Int} (h : (a.length : Int) ≤ most) : subRes a [] 0 0 most = some (Str.ofString "", a) := by
  have e : slAll a [] 0 0 = tx a := by
    unfold slAll
    rw [slice_n0, slice_0n, ofs_empty, tx_app, tx_app]
    rfl
  rw [subRes_some (cut_zero _) (by rw [e, tx_len]; exact h), e, slice_00]
end

-- Lam4
section
set_option maxRecDepth 100000
set_option maxHeartbeats 1000000
abbrev body3 (p1 p2 p3 p4 p5 p6 p7 p8 p9 : Pos) : Expr := (Expr.Name (Str.ofString "substr_func") p1).Call [Expr.Name (Str.ofString "run") p2, Expr.List [Expr.Name (Str.ofString "variable") p3, Expr.Constant (Const.int 0) 0 p4, Expr.Constant (Const.int 0) 0 p5, Expr.Constant (Const.str (Str.ofString "")) 0 p6] p7, Expr.Constant (Const.int 1) 0 p8] [] p9
abbrev sc3 : Scope := { kind := ScopeKind.function, names := [(Str.ofString "run", NameKind.free), (Str.ofString "variable", NameKind.free), (Str.ofString "substr_func", NameKind.globalImplicit)], isGenerator := false, isCoroutine := false }

theorem lam3_spec {w : World} {p : Program} {loose : List Str} {mean : ExcName → Option Value} {mg mb : Str → Option Value} {a : List Nat} {t tn t1 t2 t3 t4 t5 t6 t7 t8 tm tq : Tok} {most nb : Int} {v2 v3 v4 v5 v6 : Value} {ra dr la dl ca dc pa ea va dv q c' k4 k5 : Addr} {esR esL esC : List DictEntry} {nR nL nC : Nat} {oP oE : Obj}
    {qual : Str} {pm ctv : Value} {oc o4 o5 : Obj} {vs : Array Value} {p1 p2 p3 p4 p5 p6 p7 p8 p9 : Pos}
    (ha : a.length ≤ 100)
    (hfo : oc.data = .fields vs) (hvq : vs[1]? = some (.str qual tq)) (d4 : o4.data = .cell (some (.ref ra))) (d5 : o5.data = .cell (some (.ref va)))
    (g1 : getL (Str.ofString "limits") esR = some (some (.ref la))) (g2 : getL (Str.ofString "counter") esR = some (some (.ref ca))) (g3 : getL (Str.ofString "text") esL = some (some (.int most tm)))
    (h1 : getL (Str.ofString "places") esC = some (some (.ref pa))) (h2 : getL (Str.ofString "empties") esC = some (some (.ref ea)))
    (m1 : getL (Str.ofString "take") esC = some none) (m2 : getL (Str.ofString "put_off") esC = some none) (m3 : getL (Str.ofString "store") esC = some none)
    (lP : (pa == sysModules) = false) (hP : oP.IsDictOf (intKind PG w) []) (lE : (ea == sysModules) = false) (hE : oE.IsDictOf (intKind PG w) [])
    (ord : @LT.lt Nat _ dl la ∧ @LT.lt Nat _ la dc ∧ @LT.lt Nat _ dc ca ∧ @LT.lt Nat _ ca pa ∧ @LT.lt Nat _ pa ea ∧ @LT.lt Nat _ ea dr ∧ @LT.lt Nat _ dr ra ∧ @LT.lt Nat _ ra dv ∧ @LT.lt Nat _ dv va)
    (ord2 : @Ne Nat dv k4 ∧ @Ne Nat dv k5 ∧ @LT.lt Nat _ dv q ∧ @LT.lt Nat _ dv c') :
    DoesR 70 w p loose mean mg mb q [] ([(q, kla_obj "<lambda>" qual pars0 (body3 p1 p2 p3 p4 p5 p6 p7 p8 p9) sc3 [(Str.ofString "variable", k5), (Str.ofString "run", k4)] pm c' ctv), (c', oc), (k4, o4), (k5, o5),
        (ra, instObj 514 dr), (dr, dictOf esR nR), (la, instObj 536 dl), (dl, dictOf esL nL), (ca, instObj 493 dc), (dc, dictOf esC nC), (pa, oP), (ea, oE), (va, instObj 98 dv)] ++ [(dv, dictOf (scEs w t1 t2 t3 t4 t5 t6 t7 t8 (.int nb tn) v2 v3 v4 v5 v6 (.str (tx a) t)) 8)])
      (fun r n => ∃ o', subPost w a [] 0 0 most nb t1 t2 t3 t4 t5 t6 t7 t8 tn v2 v3 v4 v5 v6 r o' ∧ n = [(q, kla_obj "<lambda>" qual pars0 (body3 p1 p2 p3 p4 p5 p6 p7 p8 p9) sc3 [(Str.ofString "variable", k5), (Str.ofString "run", k4)] pm c' ctv), (c', oc), (k4, o4), (k5, o5),
        (ra, instObj 514 dr), (dr, dictOf esR nR), (la, instObj 536 dl), (dl, dictOf esL nL), (ca, instObj 493 dc), (dc, dictOf esC nC), (pa, oP), (ea, oE), (va, instObj 98 dv)] ++ [(dv, o')])
      (subBad a [] 0 0 most) := by
  k_with_none
  k_with "execs cons" => (k_here; (with_reducible refine' gentk ?F ?e1 ?e2 ?e3 ?e4 ?_); (case F => k_asm); (case e1 => k_dflt exact rfl); (case e2 => k_dflt exact rfl); (case e3 => k_dflt exact rfl); (case e4 => k_dflt exact rfl); intro tk')
  k_with "eval Name" => (k_here; k_dflt (refine' nameX_F ?N ?c ?m ?d ?_ ?a ?b; (case a => rfl); (case b => rfl); (case N => k_asm); (case c => rfl); (case m => k_mem); (case d => k_asm); k_whole))
  k_with "call ref" => (k_here; (with_reducible show wpAny _ _ (call (Value.ref 394) _) _ _ _); (with_reducible rename News _ _ _ _ => nE9); (simp only [ofs_empty] at nE9); k_dflt (refine' DoesR.upd (substr_upd ?ha ?hn ?hc1 ?hc2 ?g1 ?g2 ?g3 ?h1 ?h2 ?m1 ?m2 ?m3 ?lP ?hP ?lE ?hE ?ord) ?k1 ?k2 ?k3 ?k4 ?k5 ?kK ?kd ?ku ?km ?U ?ho ?_ ?_; (case k1 => k_asm); (case k2 => k_asm); (case k3 => k_asm); (case k4 => k_asm); (case k5 => k_asm); (case kK => first | assumption | exact rfl); (case kd => ktr_room); (case ku => ktr_units); (case g1 => with_reducible assumption); (case g2 => with_reducible assumption); (case g3 => with_reducible assumption); (case h1 => with_reducible assumption); (case h2 => with_reducible assumption); (case m1 => with_reducible assumption); (case m2 => with_reducible assumption); (case m3 => with_reducible assumption); (case km => (repeat (first | exact List.forall_mem_nil _ | (refine List.forall_mem_cons.mpr ⟨(by k_mem), ?_⟩)))); (case U => k_updF); (case ho => with_reducible rfl); (case ha => assumption); (case hn => exact Nat.zero_le _); (case hc1 => omega); (case hc2 => omega); (case lP => assumption); (case hP => assumption); (case lE => assumption); (case hE => assumption); (case ord => (refine ⟨?_, ?_, ?_, ?_, ?_, ?_, ?_, ?_, ?_, ?_⟩ <;> (k_dflt (first | with_reducible assumption | exact lt1_lt (by assumption) (by k_mem) | k_ne | omega))))); (intro r' o' h' tk' F' N' G' q'; (try dsimp only at N'); (try k_fold)))
  have cc1 := lt1_chain ord.1 lt1_nil
  have cc2 := lt1_chain ord.2.1 cc1
  have cc3 := lt1_chain ord.2.2.1 cc2
  have cc4 := lt1_chain ord.2.2.2.1 cc3
  have cc5 := lt1_chain ord.2.2.2.2.1 cc4
  have cc6 := lt1_chain ord.2.2.2.2.2.1 cc5
  have cc7 := lt1_chain ord.2.2.2.2.2.2.1 cc6
  have cc8 := lt1_chain ord.2.2.2.2.2.2.2.1 cc7
  have cc9 := lt1_chain ord.2.2.2.2.2.2.2.2 cc8
  have ck1 := ord2.1
  have ck2 := ord2.2.1
  have ck3 := lt1_chain ord2.2.2.1 cc8
  have ck4 := lt1_chain ord2.2.2.2 cc8
  unfold DoesR
  intro dp un gd cn cs fa ccd cl outer A₀ base h₀ L m s R B F X N T hkf hdp hun hret hraise
  simp only [List.cons_append, List.nil_append] at N
  k_dflt (refine' enter_lam ?k1 ?k2 ?k3 ?k4 ?k5 ?kA ?kF ?kK ?ho ?hoc hfo hvq ?k8 ?k9 ?_ ?c2 ?c3 ?c4 ?c5)
  (case kA => exact rfl)
  (case kF => exact rfl)
  (case kK => assumption)
  (case k1 => k_asm)
  (case k2 => k_asm)
  (case k3 => k_asm)
  (case k4 => k_asm)
  (case k5 => k_asm)
  (case ho => k_mem)
  (case hoc => k_mem)
  (case k8 => ktr_room)
  (case k9 => exact rfl)
  (case c5 => decide)
  (case c2 => exact rfl)
  (case c3 => exact rfl)
  (case c4 => exact rfl)
  intro g' L' h' FG' F' N' B' X' T' kG'
  (try dsimp only)
  (try k_lift B')
  (try k_fold)
  k_steps
  · exact hret _ _ _ _ (by k_asm) (cb_drop (by k_asm) (fun p hp => .tail _ hp)) (left_of (by assumption) (by assumption) (cb_drop (by assumption) (fun p hp => .tail _ hp))) ⟨_, by assumption, rfl⟩
  · intro e h9 tk9 fl rc
    refine fly_next (S₀ := s.heap) rfl rfl fl (sub_g (by assumption) (by assumption) (cb_drop (by assumption) (fun p hp => .tail _ hp)) (fun p hp => (N p hp).1)) (fresh_L (by assumption) (by assumption) (cb_drop (by assumption) (fun p hp => .tail _ hp))) fun h8 fl8 => hraise _ _ _ fl8 rc
end

-- Ents
section
set_option maxRecDepth 100000
set_option maxHeartbeats 1000000
/-- the entries of an object's own dict, in the order in which they were first set -/
def ents (w : World) : List (Str × Value) → List Tok → List DictEntry
  | (n, v) :: r, t :: ts => ⟨PyData.keyHash w.params n, .str n t, v⟩ :: ents w r ts
  | _, _ => []
section
variable {w : World}
theorem isStr_str {n x : Str} {t : Tok} : (Value.str n t).isStr x = (n == x) := rfl
theorem getL_ents {x : Str} : ∀ {kvs : List (Str × Value)} {ts : List Tok}, ts.length = kvs.length → getL x (ents w kvs ts) = some (kvs.lookup x)
  | [], [], _ => rfl
  | (n, v) :: r, t :: ts, h => by
    have ih := getL_ents (x := x) (kvs := r) (ts := ts) (Nat.succ.inj h)
    unfold getL at ih ⊢
    simp only [ents, List.find?_cons, isStr_str, List.any_cons, List.lookup_cons] at ih ⊢
    by_cases e : n = x
    · subst e; simp
    · have e1 : (n == x) = false := by simpa using e
      have e2 : (x == n) = false := by simpa using fun q => e q.symm
      rw [e1, e2]
      simpa [DictEntry.refKey] using ih
theorem putL_ents {x : Str} {t : Tok} {v : Value} : ∀ {kvs : List (Str × Value)} {ts : List Tok}, ts.length = kvs.length → kvs.lookup x = none →
    putL x (PyData.keyHash w.params x) (.str x t) v (ents w kvs ts) = ents w (kvs ++ [(x, v)]) (ts ++ [t])
  | [], [], _, _ => rfl
  | (n, u) :: r, a :: ts, h, hm => by
    by_cases e : x = n
    · subst e; simp [List.lookup_cons] at hm
    · have e2 : (x == n) = false := by simpa using e
      have e1 : (n == x) = false := by simpa using fun q => e q.symm
      have hm' : r.lookup x = none := by simpa [List.lookup_cons, e2] using hm
      simp only [ents, putL, isStr_str, e1, List.cons_append, Bool.false_eq_true, if_false]
      rw [putL_ents (Nat.succ.inj h) hm']
theorem any_ents {x : Str} : ∀ {kvs : List (Str × Value)} {ts : List Tok}, kvs.lookup x = none → (ents w kvs ts).any (·.key.isStr x) = false
  | [], _, _ => by cases ‹List Tok› <;> rfl
  | (n, u) :: r, [], _ => rfl
  | (n, u) :: r, a :: ts, hm => by
    by_cases e : x = n
    · subst e; simp [List.lookup_cons] at hm
    · have e2 : (x == n) = false := by simpa using e
      have e1 : (n == x) = false := by simpa using fun q => e q.symm
      have hm' : r.lookup x = none := by simpa [List.lookup_cons, e2] using hm
      simp only [ents, List.any_cons, isStr_str, e1, Bool.false_or]
      exact any_ents hm'
theorem ents_len : ∀ {kvs : List (Str × Value)} {ts : List Tok}, ts.length = kvs.length → (ents w kvs ts).length = kvs.length
  | [], [], _ => rfl
  | (n, u) :: r, a :: ts, h => by simp only [ents, List.length_cons, ents_len (Nat.succ.inj h)]
theorem find_put {name : Str} {hsh : Int} {t : Tok} {v : Value} : ∀ {es : List DictEntry}, ∃ e, (putL name hsh (.str name t) v es).find? (·.key.isStr name) = some e ∧ e.val = v
  | [] => ⟨⟨hsh, .str name t, v⟩, by simp only [putL, List.find?_cons, isStr_str, beq_self_eq_true], rfl⟩
  | e :: r => by
    cases h : e.key.isStr name with
    | true => exact ⟨⟨e.hash, e.key, v⟩, by simp only [putL, h, if_true, List.find?_cons], rfl⟩
    | false =>
      obtain ⟨q, hq, hv⟩ := find_put (name := name) (hsh := hsh) (t := t) (v := v) (es := r)
      exact ⟨q, by simp only [putL, h, Bool.false_eq_true, if_false, List.find?_cons]; exact hq, hv⟩
theorem getL_put {name : Str} {hsh : Int} {t : Tok} {v : Value} {es : List DictEntry} : getL name (putL name hsh (.str name t) v es) = some (some v) := by
  obtain ⟨e, he, hv⟩ := find_put (name := name) (hsh := hsh) (t := t) (v := v) (es := es)
  unfold getL
  rw [he, ← hv]
theorem put_len {name : Str} {hsh : Int} {key v : Value} : ∀ {es : List DictEntry}, (putL name hsh key v es).length ≤ es.length + 1
  | [] => Nat.le_refl _
  | e :: r => by
    unfold putL
    split
    · simp
    · simp only [List.length_cons]; exact Nat.succ_le_succ put_len
theorem eight {α : Type} {ts : List α} (h : ts.length = 8) : ∃ a b c d e f g i, ts = [a, b, c, d, e, f, g, i] := by
  match ts, h with
  | [a, b, c, d, e, f, g, i], _ => exact ⟨a, b, c, d, e, f, g, i, rfl⟩
theorem updF_upd {d : Addr} {o o' : Obj} {l : Led} {g : Obj → Led} : UpdF d o l g → Upd d o o' l (g o')
  | .head h => .head h
  | .tail h U => .tail h (updF_upd U)
end
section
variable {prog : Program} {w : World} {K : Frag} {A : Around} {E : Value → Shared → Prop} {s : Shared} {h₀ : Heap} {L : Addr} {m : Str → Option Value} {news : Led} {g : Obj → Led}
/-- the same, the newest first -/
def entR (w : World) (kvs : List (Str × Value)) (ts : List Tok) : List DictEntry := ents w kvs.reverse ts.reverse
theorem getL_entR {x : Str} {kvs : List (Str × Value)} {ts : List Tok} (h : ts.length = kvs.length) : getL x (entR w kvs ts) = some (kvs.reverse.lookup x) := getL_ents (by simp [h])
/-- a name that the object's own dict has not yet is set -/
theorem set_new {Q : Unit → Shared → Prop} {x C dx : Addr} {ox : Obj} {kvs : List (Str × Value)} {ts : List Tok} {n : Nat} {name : Str} {v : Value} {s₀ : Shared}
    (F : Fr h₀ L s.heap m) (X₀ : K.In h₀) (N : News h₀ L s.heap news) (I : InstAt s.heap x ox C (some (dictOf (entR w kvs ts) n))) (hd : ox.dict = some dx)
    (hs : findIn K (.ref C) "__setattr__" = some (some (.builtin "object.__setattr__"))) (hp : plainOver K C = true) (ht : takerIn K C name = some none) (hh : hasDictIn K C = true)
    (hl : ts.length = kvs.length) (hm : kvs.reverse.lookup name = none) (hz : kvs.length ≤ 900) (U : UpdF dx (dictOf (entR w kvs ts) n) news g) (e2 : s.gens = s₀.gens) (e3 : s.drawn = s₀.drawn) (e4 : s.os = s₀.os)
    (h : ∀ h' ts' tk', ts'.length = ((name, v) :: kvs).length → Fr h₀ L h' m → News h₀ L h' (g (dictOf (entR w ((name, v) :: kvs) ts') (n + 1))) → Q () ⟨h', s₀.gens, s₀.drawn, tk', s₀.os⟩) :
    wpAny (model prog w) A (setAttr (.ref x) name v) Q E s := by
  obtain ⟨hp0, gn, dr, tk, os0⟩ := s
  subst e2 e3 e4
  have hl' : ts.reverse.length = kvs.reverse.length := by simp [hl]
  refine set_dict F X₀ N I hd hs hp ht hh (by rw [getL_entR hl, hm]; rfl) (es' := entR w ((name, v) :: kvs) ((tk + 1) :: ts)) (n' := n + 1) ?_ (updF_upd U) ?_ fun h' F' N' => h h' ((tk + 1) :: ts) _ ?_ F' N'
  · unfold entR
    rw [putL_ents hl' hm, putN, any_ents hm, List.reverse_cons, List.reverse_cons]; rfl
  · unfold entR
    rw [ents_len (by simp [hl])]; simp; omega
  · simp [hl]
/-- a name that stands in the object's own dict is set anew -/
theorem set_old {Q : Unit → Shared → Prop} {x C dx : Addr} {ox : Obj} {es : List DictEntry} {n : Nat} {name : Str} {u : Option Value} {v : Value} {s₀ : Shared}
    (F : Fr h₀ L s.heap m) (X₀ : K.In h₀) (N : News h₀ L s.heap news) (I : InstAt s.heap x ox C (some (dictOf es n))) (hd : ox.dict = some dx)
    (hs : findIn K (.ref C) "__setattr__" = some (some (.builtin "object.__setattr__"))) (hp : plainOver K C = true) (ht : takerIn K C name = some none) (hh : hasDictIn K C = true)
    (hl : getL name es = some u) (hz : es.length ≤ 900) (U : UpdF dx (dictOf es n) news g) (e2 : s.gens = s₀.gens) (e3 : s.drawn = s₀.drawn) (e4 : s.os = s₀.os)
    (h : ∀ h' es' n' tk', getL name es' = some (some v) → es'.length ≤ es.length + 1 → Fr h₀ L h' m → News h₀ L h' (g (dictOf es' n')) → Q () ⟨h', s₀.gens, s₀.drawn, tk', s₀.os⟩) :
    wpAny (model prog w) A (setAttr (.ref x) name v) Q E s := by
  obtain ⟨hp0, gn, dr, tk, os0⟩ := s
  subst e2 e3 e4
  refine set_dict F X₀ N I hd hs hp ht hh (by rw [hl]; rfl) rfl (updF_upd U) ?_ fun h' F' N' => h h' _ _ _ getL_put put_len F' N'
  exact Nat.le_trans put_len (by omega)
theorem newList_drop {vs : List Value} {Q : Value → Shared → Prop} (F : Fr h₀ L s.heap m) (N : News h₀ L s.heap news)
    (h : ∀ l h', Fr h₀ L h' m → News h₀ L h' news → Q (.ref l) { s with heap := h' }) (hsz : vs.length ≤ sizeLine := by size_fits) : wpAny M A (newList vs) Q E s :=
  newList_K F N (fun l h' F' N' _ => h l h' F' fun p hp => N' p (.tail _ hp)) hsz
theorem newDict_drop {env : Env} {pos : Pos} {Q : Value → Shared → Prop} (F : Fr h₀ L s.heap m) (N : News h₀ L s.heap news) (hbig : h₀.NoLimit)
    (k : ∀ d h', Fr h₀ L h' m → News h₀ L h' news → Q (.ref d) { s with heap := h' }) : wpAny (model prog w) A (eval (.Dict [] [] pos) env) Q E s :=
  newDict_K F N hbig fun d h' _ F' N' _ _ _ _ _ _ => k d h' F' fun p hp => N' p (.tail _ hp)
end
end

-- Make
section
set_option maxRecDepth 100000
set_option maxHeartbeats 1000000
section
variable {w : World} {p : Program} {loose : List Str} {mean : ExcName → Option Value} {mg mb : Str → Option Value}
theorem made_use {C fI : Addr} {vs : List Value} {post : Addr → Addr → Led → Prop} {b : Nat}
    {dp un : Nat} {gd : Option (List Code)} {cn : Str} {cs : Scope} {a : Addr} {ccd : Value} {cl : List (Str × Addr)} {outer : List Env} {A₀ : Around} {base h₀ : Heap} {L : Addr} {m : Str → Option Value} {s : Shared} {Q E : Value → Shared → Prop} {news : Led}
    (D : ∀ x dx, @LT.lt Nat _ dx x → Does b w p loose mean mg mb fI (.ref x :: vs) [(x, instObj C dx), (dx, dictOf [] 0)] (fun r n => r = .none ∧ post x dx n))
    (B : Below A₀ base outer h₀) (F : Fr h₀ L s.heap m) (X : (written.heap_1 w.params).In h₀) (N : News h₀ L s.heap news) (T : Top p loose mean mg mb h₀) (hk : cs.kind = .function) (hdp : dp + (b + 1) < recursionLimit) (hun : un + 10 * (b + 1) < cLine)
    (hm : makesIn (written.heap_1 w.params) C = true) (hi : findIn (written.heap_1 w.params) (.ref C) "__init__" = some (some (.ref fI))) (hf : isFn (written.heap_1 w.params) (.ref fI) = true)
    (k : ∀ x dx n h' tk', (∀ p ∈ news, p.1 < dx) → @LT.lt Nat _ dx x → post x dx n → Fr h₀ L h' m → News h₀ L h' (n ++ news) → Q (.ref x) { s with heap := h', toks := tk' }) :
    wpAny (model PG w) (ktrTop dp un gd cn cs L a ccd cl outer) (call (.ref C) vs []) Q E s := by
  refine call_cls F X N hm hi hf fun x dx h' F' N' l1 l2 => ?_
  obtain ⟨u, hu, eA⟩ := under_tc (dp := dp) (un := un) (gd := gd) (cn := cn) (cs := cs) (L := L) (a := a) (ccd := ccd) (cl := cl) (outer := outer) (v := vs) (C := C)
  rw [eA]
  refine D x dx l2 (dp + 1) (un + u) gd cn cs a ccd cl outer A₀ base h₀ L m _ _ B F' X (fun q hq => N' q ?_) T hk (by omega) (by omega) fun r n h2 tk2 F2 N2 G2 hp => ?_
  · rcases List.mem_cons.mp hq with rfl | hq
    · exact .head _
    · rw [List.mem_singleton.mp hq]; exact .tail _ (.head _)
  · obtain ⟨rfl, hp⟩ := hp
    refine ⟨rfl, k x dx n h2 tk2 l1 l2 hp F2 fun q hq => ?_⟩
    rcases List.mem_append.mp hq with hq | hq
    · exact N2 q hq
    · have hq' := N' q (.tail _ (.tail _ hq))
      refine ⟨G2.1 _ _ hq'.1 fun hm => ?_, hq'.2⟩
      have := l1 q hq
      rcases List.mem_cons.mp hm with e | hm
      · rw [show q.1 = x from e] at this; exact absurd (Nat.lt_trans this l2) (Nat.lt_irrefl _)
      · rw [show q.1 = dx from List.mem_singleton.mp hm] at this; exact absurd this (Nat.lt_irrefl _)


abbrev heapEs (w : World) (t1 t2 t3 tl : Tok) (la : Addr) (n : Int) (lz : Value) : List DictEntry := [ent w "limits" t1 (.ref la), ent w "last" t2 (.int n tl), ent w "zero" t3 lz]
theorem heap_init {x dx la : Addr} (hlt : @LT.lt Nat _ dx x) :
    Does 3 w p loose mean mg mb 212 [.ref x, .ref la] [(x, instObj 257 dx), (dx, dictOf [] 0)]
      (fun r n => r = .none ∧ ∃ t1 t2 t3 tl lz, n = [(x, instObj 257 dx), (dx, dictOf (heapEs w t1 t2 t3 tl la 0 lz) 3)]) := by
  k_with_none
  k_with "execs cons" => (k_here; (with_reducible refine' gentk ?F ?e1 ?e2 ?e3 ?e4 ?_); (case F => k_asm); (case e1 => k_dflt exact rfl); (case e2 => k_dflt exact rfl); (case e3 => k_dflt exact rfl); (case e4 => k_dflt exact rfl); intro tk')
  unfold Does
  intro dp un gd cn cs fa ccd cl outer A₀ base h₀ L m s R B F X N T hkf hdp hun hret
  k_dflt (refine' code_defG ?k1 ?k2 ?k3 ?k4 ?k5 ?kA ?kF ?kK ?k6 ?k7 ?k8 ?k9 ?kB ?_ ?c2 ?c3 ?c4 ?c5; (case kA => exact rfl); (case kF => exact rfl); (case kK => first | assumption | exact rfl); (case k1 => k_asm); (case k2 => k_asm); (case k3 => k_asm); (case k4 => k_asm); (case k5 => k_asm); (case k6 => k_is); (case k7 => k_is); (case k8 => ktr_room); (case k9 => exact BindsTo.of_eq rfl); (case c5 => decide); (case kB => exact locs rfl); (case c2 => exact rfl); (case c3 => exact rfl); (case c4 => exact rfl); k_whole; intro g' L' h' FG' F' N' B' X' T' kG'; (try dsimp only); (try k_lift B'); (try k_fold))
  k_steps
  exact hret _ _ _ _ (by k_asm) (cb_drop (by k_asm) (fun p hp => .tail _ hp)) (left_of (by assumption) (by assumption) (cb_drop (by assumption) (fun p hp => .tail _ hp))) ⟨rfl, _, _, _, _, _, rfl⟩
theorem counter_init {x dx hp : Addr} (hlt : @LT.lt Nat _ dx x) :
    Does 3 w p loose mean mg mb 415 [.ref x, .ref hp, .none] [(x, instObj 493 dx), (dx, dictOf [] 0)]
      (fun r n => r = .none ∧ ∃ pa ea oP oE esC nC, n = [(ea, oE), (pa, oP), (x, instObj 493 dx), (dx, dictOf esC nC)] ∧ @LT.lt Nat _ x pa ∧ @LT.lt Nat _ pa ea ∧ (pa == sysModules) = false ∧ oP.IsDictOf (intKind PG w) [] ∧ (ea == sysModules) = false ∧ oE.IsDictOf (intKind PG w) [] ∧
        getL (Str.ofString "places") esC = some (some (.ref pa)) ∧ getL (Str.ofString "empties") esC = some (some (.ref ea)) ∧ getL (Str.ofString "take") esC = some none ∧ getL (Str.ofString "put_off") esC = some none ∧ getL (Str.ofString "store") esC = some none) := by
  unfold Does
  intro dp un gd cn cs fa ccd cl outer A₀ base h₀ L m s R B F X N T hkf hdp hun hret
  k_dflt (refine' code_defG ?k1 ?k2 ?k3 ?k4 ?k5 ?kA ?kF ?kK ?k6 ?k7 ?k8 ?k9 ?kB ?_ ?c2 ?c3 ?c4 ?c5; (case kA => exact rfl); (case kF => exact rfl); (case kK => first | assumption | exact rfl); (case k1 => k_asm); (case k2 => k_asm); (case k3 => k_asm); (case k4 => k_asm); (case k5 => k_asm); (case k6 => k_is); (case k7 => k_is); (case k8 => ktr_room); (case k9 => exact BindsTo.of_eq rfl); (case c5 => decide); (case kB => exact locs rfl); (case c2 => exact rfl); (case c3 => exact rfl); (case c4 => exact rfl); k_whole; intro g' L' h' FG' F' N' B' X' T' kG'; (try dsimp only); (try k_lift B'); (try k_fold))
  k_steps
  exact hret _ _ _ _ (by k_asm) (by k_asm) (left_of (by assumption) (by assumption) (by assumption)) ⟨rfl, _, _, _, _, _, _, rfl, lt1_lt (by assumption) (by k_mem), lt1_lt (by assumption) (by k_mem), by assumption, by assumption, by assumption, by assumption, by k_get, by k_get, by k_get, by k_get, by k_get⟩

abbrev stashEs (w : World) (t1 t2 t3 tl : Tok) (hp gd : Addr) : List DictEntry := [ent w "heap" t1 (.ref hp), ent w "globs" t2 (.ref gd), ent w "generation" t3 (.int 0 tl)]
theorem stash_init {x dx hp : Addr} (hlt : @LT.lt Nat _ dx x) :
    Does 3 w p loose mean mg mb 554 [.ref x, .ref hp] [(x, instObj 599 dx), (dx, dictOf [] 0)]
      (fun r n => r = .none ∧ ∃ t1 t2 t3 tl gd oG, n = [(gd, oG), (x, instObj 599 dx), (dx, dictOf (stashEs w t1 t2 t3 tl hp gd) 3)] ∧ @LT.lt Nat _ x gd ∧ (gd == sysModules) = false ∧ oG.IsDictOf (strKind PG w) []) := by
  unfold Does
  intro dp un gd cn cs fa ccd cl outer A₀ base h₀ L m s R B F X N T hkf hdp hun hret
  k_dflt (refine' code_defG ?k1 ?k2 ?k3 ?k4 ?k5 ?kA ?kF ?kK ?k6 ?k7 ?k8 ?k9 ?kB ?_ ?c2 ?c3 ?c4 ?c5; (case kA => exact rfl); (case kF => exact rfl); (case kK => first | assumption | exact rfl); (case k1 => k_asm); (case k2 => k_asm); (case k3 => k_asm); (case k4 => k_asm); (case k5 => k_asm); (case k6 => k_is); (case k7 => k_is); (case k8 => ktr_room); (case k9 => exact BindsTo.of_eq rfl); (case c5 => decide); (case kB => exact locs rfl); (case c2 => exact rfl); (case c3 => exact rfl); (case c4 => exact rfl); k_whole; intro g' L' h' FG' F' N' B' X' T' kG'; (try dsimp only); (try k_lift B'); (try k_fold))
  k_steps
  exact hret _ _ _ _ (by k_asm) (by k_asm) (left_of (by assumption) (by assumption) (by assumption)) ⟨rfl, _, _, _, _, _, _, rfl, lt1_lt (by assumption) (by k_mem), by assumption, by assumption⟩
section
theorem run_init {x dx hp ca st la : Addr} (hlt : @LT.lt Nat _ dx x) :
    Does 3 w p loose mean mg mb 511 [.ref x, .ref hp, .ref ca, .ref st, .ref la] [(x, instObj 514 dx), (dx, dictOf [] 0)]
      (fun r n => r = .none ∧ ∃ esR nR, n = [(x, instObj 514 dx), (dx, dictOf esR nR)] ∧ getL (Str.ofString "limits") esR = some (some (.ref la)) ∧ getL (Str.ofString "counter") esR = some (some (.ref ca)) ∧ getL (Str.ofString "stash") esR = some (some (.ref st))) := by
  k_with_none
  k_with "execs cons" => (k_here; (with_reducible refine' gentk ?F ?e1 ?e2 ?e3 ?e4 ?_); (case F => k_asm); (case e1 => k_dflt exact rfl); (case e2 => k_dflt exact rfl); (case e3 => k_dflt exact rfl); (case e4 => k_dflt exact rfl); intro tk')
  k_with "newList" => (k_here; k_dflt (refine' newList_drop ?k1 ?k2 ?_; (case k1 => k_asm); (case k2 => k_asm); k_whole); intro l' h' F' N'; (try k_sweep))
  k_with "eval Dict nil nil" => (k_here; k_dflt (refine' newDict_drop ?k1 ?k2 (TopRead.nolimit (by k_asm)) ?_; (case k1 => k_asm); (case k2 => k_asm); k_whole); intro d' h' F' N'; (try k_sweep))
  k_with "setAttr ref" => (k_here; k_dflt (refine' set_new ?k1 ?k2 ?k3 ?k4 ?k5 ?k6 ?k7 ?k8 ?k9 ?k10 ?k11 ?k12 ?k14 rfl rfl rfl ?_; (case k1 => k_asm); (case k2 => k_asm); (case k3 => k_asm); (case k4 => k_inst); (case k5 => exact rfl); (case k6 => k_is); (case k7 => k_is); (case k8 => k_is); (case k9 => k_is); (case k10 => assumption); (case k11 => exact rfl); (case k12 => exact Nat.le_of_ble_eq_true rfl); (case k14 => k_updF)); intro h' ts' tk' hl' F' N'; (try k_sweep))
  unfold Does
  intro dp un gd cn cs fa ccd cl outer A₀ base h₀ L m s R B F X N T hkf hdp hun hret
  have hl0 : ([] : List Tok).length = ([] : List (Str × Value)).length := rfl
  have N0 : News h₀ L s.heap [(x, instObj 514 dx), (dx, dictOf (entR w [] []) 0)] := N
  clear N
  k_dflt (refine' code_defG ?k1 ?k2 ?k3 ?k4 ?k5 ?kA ?kF ?kK ?k6 ?k7 ?k8 ?k9 ?kB ?_ ?c2 ?c3 ?c4 ?c5; (case kA => exact rfl); (case kF => exact rfl); (case kK => first | assumption | exact rfl); (case k1 => k_asm); (case k2 => k_asm); (case k3 => k_asm); (case k4 => k_asm); (case k5 => k_asm); (case k6 => k_is); (case k7 => k_is); (case k8 => ktr_room); (case k9 => exact BindsTo.of_eq rfl); (case c5 => decide); (case kB => exact locs rfl); (case c2 => exact rfl); (case c3 => exact rfl); (case c4 => exact rfl); k_whole; intro g' L' h' FG' F' N' B' X' T' kG'; (try dsimp only); (try k_lift B'); (try k_fold))
  k_steps
  exact hret _ _ _ _ (by k_asm) (by k_asm) (left_of (by assumption) (by assumption) (by assumption)) ⟨rfl, _, _, rfl, (getL_entR (by assumption)).trans rfl, (getL_entR (by assumption)).trans rfl, (getL_entR (by assumption)).trans rfl⟩
end
theorem heap_use {la : Addr} {dp un : Nat} {gd : Option (List Code)} {cn : Str} {cs : Scope} {a : Addr} {ccd : Value} {cl : List (Str × Addr)} {outer : List Env} {A₀ : Around} {base h₀ : Heap} {L : Addr} {m : Str → Option Value} {s : Shared} {Q E : Value → Shared → Prop} {news : Led}
    (B : Below A₀ base outer h₀) (F : Fr h₀ L s.heap m) (X : (written.heap_1 w.params).In h₀) (N : News h₀ L s.heap news) (T : Top p loose mean mg mb h₀) (hk : cs.kind = .function) (hdp : dp + (3 + 1) < recursionLimit) (hun : un + 10 * (3 + 1) < cLine)
    (k : ∀ x dx t1 t2 t3 tl lz h' tk', (∀ p ∈ news, p.1 < dx) → @LT.lt Nat _ dx x → Fr h₀ L h' m → News h₀ L h' ((x, instObj 257 dx) :: (dx, dictOf (heapEs w t1 t2 t3 tl la 0 lz) 3) :: news) → Q (.ref x) { s with heap := h', toks := tk' }) :
    wpAny (model PG w) (ktrTop dp un gd cn cs L a ccd cl outer) (call (.ref 257) [.ref la] []) Q E s :=
  made_use (fun x dx hlt => heap_init hlt) B F X N T hk hdp hun (by k_is) (by k_is) (by k_is) fun x dx n h' tk' l1 l2 q F' N' => by
    obtain ⟨t1, t2, t3, tl, lz, e9⟩ := q
    subst e9
    exact k x dx t1 t2 t3 tl lz h' tk' l1 l2 F' N'
theorem counter_use {hp : Addr} {dp un : Nat} {gd : Option (List Code)} {cn : Str} {cs : Scope} {a : Addr} {ccd : Value} {cl : List (Str × Addr)} {outer : List Env} {A₀ : Around} {base h₀ : Heap} {L : Addr} {m : Str → Option Value} {s : Shared} {Q E : Value → Shared → Prop} {news : Led}
    (B : Below A₀ base outer h₀) (F : Fr h₀ L s.heap m) (X : (written.heap_1 w.params).In h₀) (N : News h₀ L s.heap news) (T : Top p loose mean mg mb h₀) (hk : cs.kind = .function) (hdp : dp + (3 + 1) < recursionLimit) (hun : un + 10 * (3 + 1) < cLine)
    (k : ∀ x dx pa ea oP oE esC nC h' tk', (∀ p ∈ news, p.1 < dx) → @LT.lt Nat _ dx x → @LT.lt Nat _ x pa → @LT.lt Nat _ pa ea → (pa == sysModules) = false → oP.IsDictOf (intKind PG w) [] → (ea == sysModules) = false → oE.IsDictOf (intKind PG w) [] →
        getL (Str.ofString "places") esC = some (some (.ref pa)) → getL (Str.ofString "empties") esC = some (some (.ref ea)) → getL (Str.ofString "take") esC = some none → getL (Str.ofString "put_off") esC = some none → getL (Str.ofString "store") esC = some none → Fr h₀ L h' m → News h₀ L h' ((ea, oE) :: (pa, oP) :: (x, instObj 493 dx) :: (dx, dictOf esC nC) :: news) → Q (.ref x) { s with heap := h', toks := tk' }) :
    wpAny (model PG w) (ktrTop dp un gd cn cs L a ccd cl outer) (call (.ref 493) [.ref hp, .none] []) Q E s :=
  made_use (fun x dx hlt => counter_init hlt) B F X N T hk hdp hun (by k_is) (by k_is) (by k_is) fun x dx n h' tk' l1 l2 q F' N' => by
    obtain ⟨pa, ea, oP, oE, esC, nC, e9, c1, c2, c3, c4, c5, c6, c7, c8, c9, c10, c11⟩ := q
    subst e9
    exact k x dx pa ea oP oE esC nC h' tk' l1 l2 c1 c2 c3 c4 c5 c6 c7 c8 c9 c10 c11 F' N'
theorem stash_use {hp : Addr} {dp un : Nat} {gd : Option (List Code)} {cn : Str} {cs : Scope} {a : Addr} {ccd : Value} {cl : List (Str × Addr)} {outer : List Env} {A₀ : Around} {base h₀ : Heap} {L : Addr} {m : Str → Option Value} {s : Shared} {Q E : Value → Shared → Prop} {news : Led}
    (B : Below A₀ base outer h₀) (F : Fr h₀ L s.heap m) (X : (written.heap_1 w.params).In h₀) (N : News h₀ L s.heap news) (T : Top p loose mean mg mb h₀) (hk : cs.kind = .function) (hdp : dp + (3 + 1) < recursionLimit) (hun : un + 10 * (3 + 1) < cLine)
    (k : ∀ x dx t1 t2 t3 tl gg oG h' tk', (∀ p ∈ news, p.1 < dx) → @LT.lt Nat _ dx x → @LT.lt Nat _ x gg → (gg == sysModules) = false → oG.IsDictOf (strKind PG w) [] → Fr h₀ L h' m → News h₀ L h' ((gg, oG) :: (x, instObj 599 dx) :: (dx, dictOf (stashEs w t1 t2 t3 tl hp gg) 3) :: news) → Q (.ref x) { s with heap := h', toks := tk' }) :
    wpAny (model PG w) (ktrTop dp un gd cn cs L a ccd cl outer) (call (.ref 599) [.ref hp] []) Q E s :=
  made_use (fun x dx hlt => stash_init hlt) B F X N T hk hdp hun (by k_is) (by k_is) (by k_is) fun x dx n h' tk' l1 l2 q F' N' => by
    obtain ⟨t1, t2, t3, tl, gg, oG, e9, c1, c2, c3⟩ := q
    subst e9
    exact k x dx t1 t2 t3 tl gg oG h' tk' l1 l2 c1 c2 c3 F' N'
theorem run_use {hp ca st la : Addr} {dp un : Nat} {gd : Option (List Code)} {cn : Str} {cs : Scope} {a : Addr} {ccd : Value} {cl : List (Str × Addr)} {outer : List Env} {A₀ : Around} {base h₀ : Heap} {L : Addr} {m : Str → Option Value} {s : Shared} {Q E : Value → Shared → Prop} {news : Led}
    (B : Below A₀ base outer h₀) (F : Fr h₀ L s.heap m) (X : (written.heap_1 w.params).In h₀) (N : News h₀ L s.heap news) (T : Top p loose mean mg mb h₀) (hk : cs.kind = .function) (hdp : dp + (3 + 1) < recursionLimit) (hun : un + 10 * (3 + 1) < cLine)
    (k : ∀ x dx esR nR h' tk', (∀ p ∈ news, p.1 < dx) → @LT.lt Nat _ dx x → getL (Str.ofString "limits") esR = some (some (.ref la)) → getL (Str.ofString "counter") esR = some (some (.ref ca)) → getL (Str.ofString "stash") esR = some (some (.ref st)) → Fr h₀ L h' m → News h₀ L h' ((x, instObj 514 dx) :: (dx, dictOf esR nR) :: news) → Q (.ref x) { s with heap := h', toks := tk' }) :
    wpAny (model PG w) (ktrTop dp un gd cn cs L a ccd cl outer) (call (.ref 514) [.ref hp, .ref ca, .ref st, .ref la] []) Q E s :=
  made_use (fun x dx hlt => run_init hlt) B F X N T hk hdp hun (by k_is) (by k_is) (by k_is) fun x dx n h' tk' l1 l2 q F' N' => by
    obtain ⟨esR, nR, e9, c1, c2, c3⟩ := q
    subst e9
    exact k x dx esR nR h' tk' l1 l2 c1 c2 c3 F' N'
end
end

-- LawU
section
set_option maxRecDepth 100000
set_option maxHeartbeats 1000000
section
variable {w : World} {p : Program} {loose : List Str} {mean : ExcName → Option Value} {mg mb : Str → Option Value} {A₀ : Around} {base h₀ : Heap} {outer : List Env} {L : Addr} {m : Str → Option Value} {news : Led}
  {dp un : Nat} {gd : Option (List Code)} {cn : Str} {cs : Scope} {fa : Addr} {ccd : Value} {cl : List (Str × Addr)} {s : Shared} {Q E : Value → Shared → Prop}
theorem heard3_use {a : List Nat} {t tn t1 t2 t3 t4 t5 t6 t7 t8 tm tq : Tok} {most nb : Int} {v2 v3 v4 v5 v6 : Value} {ra dr la dl ca dc pa ea va dv q c' k4 k5 : Addr} {esR esL esC : List DictEntry} {nR nL nC : Nat} {oP oE : Obj}
    {qual : Str} {pm ctv : Value} {oc o4 o5 o₀ : Obj} {vs : Array Value} {p1 p2 p3 p4 p5 p6 p7 p8 p9 : Pos} {g : Obj → Led}
    (G₀ : Ground w p loose mean mg mb A₀ base outer h₀) (F : Fr h₀ L s.heap m) (N : News h₀ L s.heap news) (hk : cs.kind = .function) (hdp : dp + 73 < recursionLimit) (hun : un + 10 * 73 < cLine)
    (hs : ∀ p ∈ [(q, kla_obj "<lambda>" qual pars0 (body3 p1 p2 p3 p4 p5 p6 p7 p8 p9) sc3 [(Str.ofString "variable", k5), (Str.ofString "run", k4)] pm c' ctv), (c', oc), (k4, o4), (k5, o5),
        (ra, instObj 514 dr), (dr, dictOf esR nR), (la, instObj 536 dl), (dl, dictOf esL nL), (ca, instObj 493 dc), (dc, dictOf esC nC), (pa, oP), (ea, oE), (va, instObj 98 dv)], p ∈ news)
    (U : UpdF dv o₀ news g) (ho : o₀ = dictOf (scEs w t1 t2 t3 t4 t5 t6 t7 t8 (.int nb tn) v2 v3 v4 v5 v6 (.str (tx a) t)) 8)
    (d4 : o4.data = .cell (some (.ref ra))) (d5 : o5.data = .cell (some (.ref va)))
    (ha : a.length ≤ 100) (hl : (a.length : Int) ≤ most)
    (hfo : oc.data = .fields vs) (hvq : vs[1]? = some (.str qual tq))
    (g1 : getL (Str.ofString "limits") esR = some (some (.ref la))) (g2 : getL (Str.ofString "counter") esR = some (some (.ref ca))) (g3 : getL (Str.ofString "text") esL = some (some (.int most tm)))
    (h1 : getL (Str.ofString "places") esC = some (some (.ref pa))) (h2 : getL (Str.ofString "empties") esC = some (some (.ref ea)))
    (m1 : getL (Str.ofString "take") esC = some none) (m2 : getL (Str.ofString "put_off") esC = some none) (m3 : getL (Str.ofString "store") esC = some none)
    (lP : (pa == sysModules) = false) (hP : oP.IsDictOf (intKind PG w) []) (lE : (ea == sysModules) = false) (hE : oE.IsDictOf (intKind PG w) [])
    (ord : @LT.lt Nat _ dl la ∧ @LT.lt Nat _ la dc ∧ @LT.lt Nat _ dc ca ∧ @LT.lt Nat _ ca pa ∧ @LT.lt Nat _ pa ea ∧ @LT.lt Nat _ ea dr ∧ @LT.lt Nat _ dr ra ∧ @LT.lt Nat _ ra dv ∧ @LT.lt Nat _ dv va)
    (ord2 : @Ne Nat dv k4 ∧ @Ne Nat dv k5 ∧ @LT.lt Nat _ dv q ∧ @LT.lt Nat _ dv c')
    (k : ∀ u1 u2 h' tk' h₀', KtsTurn (frs outer) h₀ h₀' → Fr h₀' L h' m → News h₀' L h' (g (dictOf (scEs w t1 t2 t3 t4 t5 t6 t7 t8 (.int nb tn) v2 v3 v4 v5 v6 (.str (tx a) u2)) 8)) → Ground w p loose mean mg mb A₀ base outer h₀' →
      Q (.str (Str.ofString "") u1) { s with heap := h', toks := tk' }) :
    wpAny (model PG w) (ktrTop dp un gd cn cs L fa ccd cl outer) (call (.ref 641) [.ref q]) Q E s :=
  DoesT.upd (pre₀ := [(q, kla_obj "<lambda>" qual pars0 (body3 p1 p2 p3 p4 p5 p6 p7 p8 p9) sc3 [(Str.ofString "variable", k5), (Str.ofString "run", k4)] pm c' ctv), (c', oc), (k4, o4), (k5, o5),
        (ra, instObj 514 dr), (dr, dictOf esR nR), (la, instObj 536 dl), (dl, dictOf esL nL), (ca, instObj 493 dc), (dc, dictOf esC nC), (pa, oP), (ea, oE), (va, instObj 98 dv)])
    (post := fun r o' => SubHeard w a [] 0 0 most nb t1 t2 t3 t4 t5 t6 t7 t8 tn t v2 v3 v4 v5 v6 r o')
    (DoesT.post (heard_spec (List.mem_append_left _ (.head _)) rfl (lam3_spec ha hfo hvq d4 d5 g1 g2 g3 h1 h2 m1 m2 m3 lP hP lE hE ord ord2))
      (fun _ _ h => h.elim (fun ⟨o', e1, e2⟩ => ⟨o', subHeard_good e1, e2⟩) fun ⟨e1, e2, e3⟩ => ⟨_, e1 ▸ subHeard_bad e3, e2⟩)) G₀ F N hk hdp hun hs U ho fun r o' h' tk' h₀' T' F' N' G' q => by
        unfold SubHeard at q
        rw [subRes_zero hl] at q
        obtain ⟨u1, u2, rfl, rfl⟩ := q
        exact k u1 u2 h' tk' h₀' T' F' N' G'

/-- a call that makes and changes two things -/
theorem Does.upd2 {b : Nat} {f : Addr} {vs : List Value} {pre₀ : Led} {d1 d2 : Addr} {o1 o2 : Obj} {post : Value → Led → Prop} {g1 : Obj → Led} {g2 : Obj → Obj → Led}
    (D : Does b w p loose mean mg mb f vs (pre₀ ++ [(d1, o1), (d2, o2)]) (fun r n => ∃ mk o1' o2', post r mk ∧ n = mk ++ (pre₀ ++ [(d1, o1'), (d2, o2')])))
    (B : Below A₀ base outer h₀) (F : Fr h₀ L s.heap m) (X : (written.heap_1 w.params).In h₀) (N : News h₀ L s.heap news) (T : Top p loose mean mg mb h₀) (hk : cs.kind = .function) (hdp : dp + b < recursionLimit) (hun : un + 10 * b < cLine)
    (hs : ∀ p ∈ pre₀, p ∈ news) (U1 : UpdF d1 o1 news g1) (U2 : ∀ o, UpdF d2 o2 (g1 o) (g2 o))
    (k : ∀ r mk o1' o2' h' tk', Fr h₀ L h' m → News h₀ L h' (mk ++ g2 o1' o2') → post r mk → Q r { s with heap := h', toks := tk' }) :
    wpAny (model PG w) (ktrTop dp un gd cn cs L fa ccd cl outer) (call (.ref f) vs) Q E s := by
  obtain ⟨pre, post', rfl, hg1, a1, a2⟩ := U1.split
  have hm1 : (d1, o1) ∈ pre ++ (d1, o1) :: post' := List.mem_append_right _ (.head _)
  have hm2 : (d2, o2) ∈ pre ++ (d1, o1) :: post' := by
    obtain ⟨p2, q2, e2, _, _, _⟩ := (U2 o1).split
    rw [← hg1, e2]
    exact List.mem_append_right _ (.head _)
  have Ns : News h₀ L s.heap (pre₀ ++ [(d1, o1), (d2, o2)]) := fun q hq => by
    rcases List.mem_append.mp hq with hq | hq
    · exact N q (hs q hq)
    · rcases List.mem_cons.mp hq with rfl | hq
      · exact N _ hm1
      · rw [List.mem_singleton.mp hq]; exact N _ hm2
  refine Does.go D B F X Ns T hk hdp hun fun r n h' tk' F' N' G hp => ?_
  obtain ⟨mk, o1', o2', hp, rfl⟩ := hp
  refine k r mk o1' o2' h' tk' F' (fun q hq => ?_) hp
  rcases List.mem_append.mp hq with hq | hq
  · exact N' q (List.mem_append_left _ hq)
  · obtain ⟨p2, q2, e2, hg2, b1, b2⟩ := (U2 o1').split
    rw [hg2] at hq
    have key : ∀ z ∈ p2 ++ (d2, o2) :: q2, z.1 ≠ d2 → h'.get? z.1 = some z.2 ∧ z.1 ≠ L ∧ h₀.get? z.1 = none := fun z hz hne => by
      rw [← e2, hg1] at hz
      by_cases h1 : z.1 = d1
      · have : z = (d1, o1') := by
          rcases List.mem_append.mp hz with hz | hz
          · exact absurd h1 (a1 z hz)
          · rcases List.mem_cons.mp hz with rfl | hz
            · rfl
            · exact absurd h1 (a2 z hz)
        rw [this]
        exact N' _ (List.mem_append_right _ (List.mem_append_right _ (.head _)))
      · have hz' : z ∈ pre ++ (d1, o1) :: post' := by
          rcases List.mem_append.mp hz with hz | hz
          · exact List.mem_append_left _ hz
          · rcases List.mem_cons.mp hz with rfl | hz
            · exact absurd rfl h1
            · exact List.mem_append_right _ (.tail _ hz)
        have hN := N z hz'
        by_cases hb : z.1 ∈ pre₀.map (·.1)
        · obtain ⟨p', hp', e⟩ := List.mem_map.mp hb
          have h3 := (N p' (hs p' hp')).1
          have h2 := hN.1
          rw [e, h2] at h3
          have h4 := N' p' (List.mem_append_right _ (List.mem_append_left _ hp'))
          rw [e, ← Option.some.inj h3] at h4
          exact h4
        · refine ⟨G.1 _ _ hN.1 fun q => ?_, hN.2⟩
          rw [List.map_append] at q
          rcases List.mem_append.mp q with q | q
          · exact hb q
          · rcases List.mem_cons.mp q with q | q
            · exact h1 q
            · exact hne (List.mem_singleton.mp q)
    rcases List.mem_append.mp hq with hq | hq
    · exact key q (List.mem_append_left _ hq) (b1 q hq)
    · rcases List.mem_cons.mp hq with rfl | hq
      · exact N' _ (List.mem_append_right _ (List.mem_append_right _ (.tail _ (.head _))))
      · exact key q (List.mem_append_right _ (.tail _ hq)) (b2 q hq)

open PySem.Builtin PySem.Builtin.Str in
theorem six {ss : List Nat} (hs : ∀ c ∈ ss, c ∈ [97, 46, 98, 36, 95]) : ∃ a : List Nat, Txt.slice (tx ss) none (some 6) = tx a ∧ a.length ≤ 6 ∧ ∀ c ∈ a, c ∈ [97, 46, 98, 36, 95, 92] := by
  refine ⟨(Txt.slice (tx ss) none (some 6)).cps.toList, (tx_back _).symm, ?_, fun c hc => List.mem_append_left [92] (hs c (by simpa using slice_mem hc))⟩
  have h6 : ∀ n, (strSliceIndices none (some 6) 1 n).length ≤ 6 := fun n => by
    unfold strSliceIndices sliceRange
    simp only [show (1 : Int) > 0 by decide, if_true, List.length_map, List.length_range]
    (split <;> (try split) <;> (try split) <;> (try simp only [Int.ediv_one]) <;> omega)
  unfold Txt.slice
  split
  · rename_i h
    simp only [Bool.and_eq_true, beq_iff_eq] at h
    have := h6 (tx ss).length
    rw [h.2] at this
    rw [tx_len] at this; simpa using this
  · simp only
    exact Nat.le_trans (List.length_filterMap_le _ _) (h6 _)
end
end

-- LawLoop
section
set_option maxRecDepth 100000
set_option maxHeartbeats 2000000
theorem turn_nil {h₀ h₀' : Heap} (T : KtsTurn [] h₀ h₀') (b : Addr) : h₀'.get? b = h₀.get? b := by
  cases q : h₀.get? b with
  | none => exact T.none_ b q
  | some o => exact T.other b o q (fun z => nomatch z)
theorem fr_nil {h₀ h₀' h : Heap} {L : Addr} {m : Str → Option Value} (T : KtsTurn [] h₀ h₀') (F : Fr h₀' L h m) : Fr h₀ L h m :=
  ⟨F.ns, fun b o e => F.keep b o ((turn_nil T b).trans e), T.size ▸ F.above⟩
theorem news_nil {h₀ h₀' h : Heap} {L : Addr} {l : Led} (T : KtsTurn [] h₀ h₀') (N : News h₀' L h l) : News h₀ L h l :=
  fun p hp => ⟨(N p hp).1, (N p hp).2.1, (turn_nil T p.1).symm.trans (N p hp).2.2⟩
section
variable {w : World} {p : Program} {loose : List Str} {mean : ExcName → Option Value} {mg mb : Str → Option Value} {A₀ : Around} {base h₀ : Heap} {L : Addr} {m : Str → Option Value}
  {dp un : Nat} {gd : Option (List Code)} {fa : Addr} {s : Shared} {E : Value → Shared → Prop}
  {md ml wa ra va dr la dl ca dc pa ea dv : Addr} {most nb : Int} {tm tm2 tn t1 t2 t3 t4 t5 t6 t7 t8 : Tok} {ws : List Value} {ns : List Int} {n nW nR nL nC : Nat} {esR esL esC : List DictEntry} {oP oE : Obj} {v2 v3 v4 v5 v6 : Value}
theorem isr_use {Q : Value → Shared → Prop} {cn : Str} {cs : Scope} {ccd : Value} {cl : List (Str × Addr)} {x1 x2 : Addr} {o y1 y2 : Obj} {k : Int} {t t0 ta : Tok} {a : List Nat} {ps : Array Value} {rest : Led}
    (lo : (md == sysModules) = false) (hi : IntsAre ws ns) (hn : ns.length ≤ 60)
    (g1 : getL (Str.ofString "limits") esR = some (some (.ref la))) (g2 : getL (Str.ofString "counter") esR = some (some (.ref ca))) (g3 : getL (Str.ofString "text") esL = some (some (.int most tm)))
    (h1 : getL (Str.ofString "places") esC = some (some (.ref pa))) (h2 : getL (Str.ofString "empties") esC = some (some (.ref ea)))
    (m1 : getL (Str.ofString "take") esC = some none) (m2 : getL (Str.ofString "put_off") esC = some none) (m3 : getL (Str.ofString "store") esC = some none)
    (lP : (pa == sysModules) = false) (hP : oP.IsDictOf (intKind PG w) []) (lE : (ea == sysModules) = false) (hE : oE.IsDictOf (intKind PG w) [])
    (ord : @LT.lt Nat _ 643 md ∧ @LT.lt Nat _ md ml ∧ @LT.lt Nat _ ml wa ∧ @LT.lt Nat _ wa dl ∧ @LT.lt Nat _ dl la ∧ @LT.lt Nat _ la dc ∧ @LT.lt Nat _ dc ca ∧ @LT.lt Nat _ ca pa ∧ @LT.lt Nat _ pa ea ∧ @LT.lt Nat _ ea dr ∧ @LT.lt Nat _ dr ra ∧ @LT.lt Nat _ ra dv ∧ @LT.lt Nat _ dv va) (hmost : 0 ≤ most ∧ most ≤ 17)
    (hmug : o.IsDictOf (strKind PG w) [(Str.ofString "at", Value.int k t), (Str.ofString "of", Value.ref ml)]) (hk : 0 ≤ k ∧ k < 800) (ht : TriplesOk ps.toList)
    (ox1 : @Eq Nat x1 ml ∨ @LT.lt Nat _ dv x1) (ox2 : @Eq Nat x2 ml ∨ @LT.lt Nat _ dv x2)
    (S1 : TabSt lamQ ps ⟨398, 27, 398, 69⟩ x1 dv y1) (S2 : TabSt lamQ ps ⟨409, 22, 409, 81⟩ x2 dv y2)
    (ha : (a.length : Int) ≤ most) (hal : ∀ c ∈ a, c ∈ [97, 46, 98, 36, 95, 92])
    (G₀ : Ground w p loose mean mg mb A₀ base [] h₀) (F : Fr h₀ L s.heap m) (N : News h₀ L s.heap ([(643, tabObj ps), (md, o), (wa, listOf #[.str (tx a) ta] nW), (x1, y1), (x2, y2), (ml, listOf ws.toArray n), (la, instObj 536 dl), (dl, dictOf esL nL), (ca, instObj 493 dc), (dc, dictOf esC nC), (pa, oP), (ea, oE), (ra, instObj 514 dr), (dr, dictOf esR nR), (va, instObj 98 dv), (dv, dictOf (scEs w t1 t2 t3 t4 t5 t6 t7 t8 (.int nb tn) v2 v3 v4 v5 v6 (.str (tx a) t0)) 8)] ++ rest))
    (hrest : ∀ q ∈ rest, q.1 ∉ ([(643, tabObj ps), (md, o), (wa, listOf #[.str (tx a) ta] nW), (x1, y1), (x2, y2), (ml, listOf ws.toArray n), (la, instObj 536 dl), (dl, dictOf esL nL), (ca, instObj 493 dc), (dc, dictOf esC nC), (pa, oP), (ea, oE), (ra, instObj 514 dr), (dr, dictOf esR nR), (va, instObj 98 dv), (dv, dictOf (scEs w t1 t2 t3 t4 t5 t6 t7 t8 (.int nb tn) v2 v3 v4 v5 v6 (.str (tx a) t0)) 8)] : Led).map (·.1)) (hkf : cs.kind = .function) (hdp : dp + 100 < recursionLimit) (hun : un + 10 * 100 < cLine)
    (kk : ∀ news' h' tk', Fr h₀ L h' m → News h₀ L h' (news' ++ rest) → (∀ q ∈ news', q.1 ∈ ([(643, tabObj ps), (md, o), (wa, listOf #[.str (tx a) ta] nW), (x1, y1), (x2, y2), (ml, listOf ws.toArray n), (la, instObj 536 dl), (dl, dictOf esL nL), (ca, instObj 493 dc), (dc, dictOf esC nC), (pa, oP), (ea, oE), (ra, instObj 514 dr), (dr, dictOf esR nR), (va, instObj 98 dv), (dv, dictOf (scEs w t1 t2 t3 t4 t5 t6 t7 t8 (.int nb tn) v2 v3 v4 v5 v6 (.str (tx a) t0)) 8)] : Led).map (·.1) ∨ s.heap.get? q.1 = none) →
      IsrPost w md ml wa ra va dr la dl ca dc pa ea dv k most nb tn t1 t2 t3 t4 t5 t6 t7 t8 ws n nW nR nL nC esR esL esC oP oE v2 v3 v4 v5 v6 (.bool true) news' → Q (.bool true) { s with heap := h', toks := tk' }) :
    wpAny (model PG w) (ktrTop dp un gd cn cs L fa ccd cl []) (call (.ref 648) [.ref md, .ref ra, .ref va, .ref wa, .int most tm2]) Q E s :=
  DoesT.go (isr_spec hmug lo hi hn hk ht g1 g2 g3 h1 h2 m1 m2 m3 lP hP lE hE ord ox1 ox2 S1 S2 ha hmost hal) G₀ F (fun q hq => N q (List.mem_append_left _ hq)) hkf hdp hun fun r news' h' tk' h₀' T F' N' G' LT q => by
    have e := q.1
    subst e
    refine kk news' h' tk' (fr_nil T F') (fun z hz => ?_) LT.2 q
    rcases List.mem_append.mp hz with hz | hz
    · exact news_nil T N' z hz
    · obtain ⟨c1, c2, c3⟩ := newsT G₀ N T LT z (List.mem_append_right _ hz) (hrest z hz)
      exact ⟨c1, c2, (turn_nil T z.1).symm.trans c3⟩
abbrev scL : Scope := { kind := ScopeKind.function, names := [(Str.ofString "script", NameKind.local), (Str.ofString "mug", NameKind.local), (Str.ofString "most", NameKind.local), (Str.ofString "own", NameKind.local), (Str.ofString "heap", NameKind.local), (Str.ofString "_", NameKind.local), (Str.ofString "run", NameKind.cell), (Str.ofString "variable", NameKind.cell), (Str.ofString "_law_sip", NameKind.globalImplicit), (Str.ofString "_law_drawn_text", NameKind.globalImplicit), (Str.ofString "Heap", NameKind.globalImplicit), (Str.ofString "Limits", NameKind.globalImplicit), (Str.ofString "Run", NameKind.globalImplicit), (Str.ofString "Counter", NameKind.globalImplicit), (Str.ofString "Stash", NameKind.globalImplicit), (Str.ofString "_law_heard", NameKind.globalImplicit), (Str.ofString "range", NameKind.globalImplicit), (Str.ofString "_law_is_right", NameKind.globalImplicit)], isGenerator := false, isCoroutine := false }
abbrev bodyL (p1 p2 p3 p4 p5 p6 p7 p8 p9 p10 p11 p12 p13 p14 p15 p16 p17 p18 : Pos) : List Stmt :=
  [Stmt.If (Expr.BoolOp BoolOp.Or [Expr.UnaryOp UnaryOp.Not ((Expr.Name (Str.ofString "_law_is_right") p1).Call [Expr.Name (Str.ofString "mug") p2, Expr.Name (Str.ofString "run") p3, Expr.Name (Str.ofString "variable") p4, Expr.Name (Str.ofString "own") p5, Expr.Name (Str.ofString "most") p6] [] p7) p8,
    ((Expr.Name (Str.ofString "variable") p9).Attribute (Str.ofString "value") p10).Compare [CmpOp.NotEq] [(Expr.Name (Str.ofString "own") p11).Subscript (Expr.Constant (Const.int 0) 0 p12) p13] p14] p15) [Stmt.Return (some (Expr.Constant (Const.bool false) 0 p16)) p17] [] p18]
theorem law_turn {x1 x2 : Addr} {o y1 y2 : Obj} {k : Int} {t t0 ta : Tok} {a : List Nat} {ps : Array Value} {rest led : Led} (hled : led = [(643, tabObj ps), (md, o), (wa, listOf #[.str (tx a) ta] nW), (x1, y1), (x2, y2), (ml, listOf ws.toArray n), (la, instObj 536 dl), (dl, dictOf esL nL), (ca, instObj 493 dc), (dc, dictOf esC nC), (pa, oP), (ea, oE), (ra, instObj 514 dr), (dr, dictOf esR nR), (va, instObj 98 dv), (dv, dictOf (scEs w t1 t2 t3 t4 t5 t6 t7 t8 (.int nb tn) v2 v3 v4 v5 v6 (.str (tx a) t0)) 8)]) {ob1 ob2 : Obj} {own : Led} {p1 p2 p3 p4 p5 p6 p7 p8 p9 p10 p11 p12 p13 p14 p15 p16 p17 p18 : Pos}
    (lo : (md == sysModules) = false) (hi : IntsAre ws ns) (hn : ns.length ≤ 60)
    (g1 : getL (Str.ofString "limits") esR = some (some (.ref la))) (g2 : getL (Str.ofString "counter") esR = some (some (.ref ca))) (g3 : getL (Str.ofString "text") esL = some (some (.int most tm)))
    (h1 : getL (Str.ofString "places") esC = some (some (.ref pa))) (h2 : getL (Str.ofString "empties") esC = some (some (.ref ea)))
    (m1 : getL (Str.ofString "take") esC = some none) (m2 : getL (Str.ofString "put_off") esC = some none) (m3 : getL (Str.ofString "store") esC = some none)
    (lP : (pa == sysModules) = false) (hP : oP.IsDictOf (intKind PG w) []) (lE : (ea == sysModules) = false) (hE : oE.IsDictOf (intKind PG w) [])
    (ord : @LT.lt Nat _ 643 md ∧ @LT.lt Nat _ md ml ∧ @LT.lt Nat _ ml wa ∧ @LT.lt Nat _ wa dl ∧ @LT.lt Nat _ dl la ∧ @LT.lt Nat _ la dc ∧ @LT.lt Nat _ dc ca ∧ @LT.lt Nat _ ca pa ∧ @LT.lt Nat _ pa ea ∧ @LT.lt Nat _ ea dr ∧ @LT.lt Nat _ dr ra ∧ @LT.lt Nat _ ra dv ∧ @LT.lt Nat _ dv va) (hmost : 0 ≤ most ∧ most ≤ 17)
    (hmug : o.IsDictOf (strKind PG w) [(Str.ofString "at", Value.int k t), (Str.ofString "of", Value.ref ml)]) (hk : 0 ≤ k ∧ k < 800) (ht : TriplesOk ps.toList)
    (ox1 : @Eq Nat x1 ml ∨ @LT.lt Nat _ dv x1) (ox2 : @Eq Nat x2 ml ∨ @LT.lt Nat _ dv x2)
    (S1 : TabSt lamQ ps ⟨398, 27, 398, 69⟩ x1 dv y1) (S2 : TabSt lamQ ps ⟨409, 22, 409, 81⟩ x2 dv y2)
    (ha : (a.length : Int) ≤ most) (hal : ∀ c ∈ a, c ∈ [97, 46, 98, 36, 95, 92])
    (hrL : rest = [(L + 1 + 1, ob1), (L + 1, ob2)] ++ own) (d1 : ob1.data = .cell (some (.ref va))) (d2 : ob2.data = .cell (some (.ref ra)))
    (q1 : m (Str.ofString "mug") = some (.ref md)) (q2 : m (Str.ofString "own") = some (.ref wa)) (q3 : m (Str.ofString "most") = some (.int most tm2))
    (G₀ : Ground w p loose mean mg mb A₀ base [] h₀) (F : Fr h₀ L s.heap m) (N : News h₀ L s.heap (led ++ rest))
    (hrest : ∀ q ∈ rest, q.1 ∉ led.map (·.1)) (hdp : dp + 100 < recursionLimit) (hun : un + 10 * 100 < cLine) :
    wpAny (model PG w) (ktrTop dp un gd (Str.ofString "law") scL L fa (.ref 654) (cellsFrom (L + 1) scL.names []) []) (execs (bodyL p1 p2 p3 p4 p5 p6 p7 p8 p9 p10 p11 p12 p13 p14 p15 p16 p17 p18) (envOfC (Str.ofString "law") scL L fa (.ref 654)))
      (fun f s₂ => Hold (f = .next ∧ ∃ news' h' tk', s₂ = { s with heap := h', toks := tk' } ∧ Fr h₀ L h' m ∧ News h₀ L h' (news' ++ rest) ∧ (∀ q ∈ news', q.1 ∈ led.map (·.1) ∨ s.heap.get? q.1 = none) ∧ IsrPost w md ml wa ra va dr la dl ca dc pa ea dv k most nb tn t1 t2 t3 t4 t5 t6 t7 t8 ws n nW nR nL nC esR esL esC oP oE v2 v3 v4 v5 v6 (.bool true) news')) E s := by
  k_with_none
  k_with "execs cons" => (k_here; (with_reducible refine' gentk ?F ?e1 ?e2 ?e3 ?e4 ?_); (case F => k_asm); (case e1 => k_dflt exact rfl); (case e2 => k_dflt exact rfl); (case e3 => k_dflt exact rfl); (case e4 => k_dflt exact rfl); intro tk')
  k_with "callWith ref" => (k_here; k_dflt (refine' callWith_K ?k1 ?k2 ?_; (case k1 => k_asm); (case k2 => k_is); k_whole))
  k_with "eval Name" => (k_here; k_dflt (refine' nameX_L ?F ?v ?_ ?a ?b; (case F => k_asm); (case a => rfl); (case b => rfl); (case v => with_reducible assumption); k_whole))
  have X := G₀.X
  have B := G₀.B
  have T := G₀.T
  subst hrL hled
  have N' := N
  simp only [List.cons_append, List.nil_append] at N'
  (try k_fold)
  k_steps
  all_goals (try k_data)
  clear N'
  refine isr_use lo hi hn g1 g2 g3 h1 h2 m1 m2 m3 lP hP lE hE ord hmost hmug hk ht ox1 ox2 S1 S2 ha hal G₀ F N hrest rfl hdp hun fun news' h' tk' F' N1 hL P => ?_
  have P0 := P
  obtain ⟨_, ps', o', k', t', ta', t0', a', x1', x2', y1', y2', e1, P1⟩ := P
  subst e1
  have N' := N1
  simp only [List.cons_append, List.nil_append] at N'
  clear F N hmug S1 S2 ox1 ox2
  (try dsimp only)
  (try k_fold)
  k_steps
  · exact absurd (by assumption : (tx a' != tx a') = true) (by simp)
  · exact Hold.mk ⟨rfl, _, _, _, rfl, by assumption, N1, hL, P0⟩

/-- what holds between the turns -/
def LoopSt (w : World) (md ml wa ra va dr la dl ca dc pa ea dv : Addr) (k most nb : Int) (tn t1 t2 t3 t4 t5 t6 t7 t8 : Tok) (ws : List Value) (n nW nR nL nC : Nat) (esR esL esC : List DictEntry) (oP oE : Obj) (v2 v3 v4 v5 v6 : Value) (rest : Led) (i : Nat) (news : Led) : Prop :=
  ∃ (ps : Array Value) (o : Obj) (k' : Int) (t ta t0 : Tok) (a : List Nat) (x1 x2 : Addr) (y1 y2 : Obj), news = [(643, tabObj ps), (md, o), (wa, listOf #[.str (tx a) ta] nW), (x1, y1), (x2, y2), (ml, listOf ws.toArray n), (la, instObj 536 dl), (dl, dictOf esL nL), (ca, instObj 493 dc), (dc, dictOf esC nC), (pa, oP), (ea, oE), (ra, instObj 514 dr), (dr, dictOf esR nR), (va, instObj 98 dv), (dv, dictOf (scEs w t1 t2 t3 t4 t5 t6 t7 t8 (.int nb tn) v2 v3 v4 v5 v6 (.str (tx a) t0)) 8)] ++ rest ∧
    o.IsDictOf (strKind PG w) [(Str.ofString "at", Value.int k' t), (Str.ofString "of", Value.ref ml)] ∧ k ≤ k' ∧ k' ≤ k + 20 * (i : Int) ∧ TriplesOk ps.toList ∧
    TabSt lamQ ps ⟨398, 27, 398, 69⟩ x1 dv y1 ∧ TabSt lamQ ps ⟨409, 22, 409, 81⟩ x2 dv y2 ∧ (@Eq Nat x1 ml ∨ @LT.lt Nat _ dv x1) ∧ (@Eq Nat x2 ml ∨ @LT.lt Nat _ dv x2) ∧
    (a.length : Int) ≤ most ∧ ∀ c ∈ a, c ∈ [97, 46, 98, 36, 95, 92]

theorem isr_loop {k k' : Int} {i : Nat} {rest news' : Led} (P : IsrPost w md ml wa ra va dr la dl ca dc pa ea dv k' most nb tn t1 t2 t3 t4 t5 t6 t7 t8 ws n nW nR nL nC esR esL esC oP oE v2 v3 v4 v5 v6 (.bool true) news') (c2 : k ≤ k') (c3 : k' ≤ k + 20 * (i : Int)) : LoopSt w md ml wa ra va dr la dl ca dc pa ea dv k most nb tn t1 t2 t3 t4 t5 t6 t7 t8 ws n nW nR nL nC esR esL esC oP oE v2 v3 v4 v5 v6 rest (i + 1) (news' ++ rest) := by
  obtain ⟨_, ps2, o2, k2, u2, ua2, u02, a2, z1, z2, w1, w2, rfl, e1, e2, e3, e4, e5, e6, e7, e8, e9, e10⟩ := P
  exact ⟨ps2, o2, k2, u2, ua2, u02, a2, z1, z2, w1, w2, rfl, e1, by omega, by push_cast; omega, e4, e5, e6, e7, e8, e9, e10⟩
theorem loop_open {k : Int} {i : Nat} {rest news : Led} (h : LoopSt w md ml wa ra va dr la dl ca dc pa ea dv k most nb tn t1 t2 t3 t4 t5 t6 t7 t8 ws n nW nR nL nC esR esL esC oP oE v2 v3 v4 v5 v6 rest i news) : ∃ (led : Led) (ps : Array Value) (o : Obj) (k' : Int) (t ta t0 : Tok) (a : List Nat) (x1 x2 : Addr) (y1 y2 : Obj), news = led ++ rest ∧ led = [(643, tabObj ps), (md, o), (wa, listOf #[.str (tx a) ta] nW), (x1, y1), (x2, y2), (ml, listOf ws.toArray n), (la, instObj 536 dl), (dl, dictOf esL nL), (ca, instObj 493 dc), (dc, dictOf esC nC), (pa, oP), (ea, oE), (ra, instObj 514 dr), (dr, dictOf esR nR), (va, instObj 98 dv), (dv, dictOf (scEs w t1 t2 t3 t4 t5 t6 t7 t8 (.int nb tn) v2 v3 v4 v5 v6 (.str (tx a) t0)) 8)] ∧
    o.IsDictOf (strKind PG w) [(Str.ofString "at", Value.int k' t), (Str.ofString "of", Value.ref ml)] ∧ k ≤ k' ∧ k' ≤ k + 20 * (i : Int) ∧ TriplesOk ps.toList ∧
    TabSt lamQ ps ⟨398, 27, 398, 69⟩ x1 dv y1 ∧ TabSt lamQ ps ⟨409, 22, 409, 81⟩ x2 dv y2 ∧ (@Eq Nat x1 ml ∨ @LT.lt Nat _ dv x1) ∧ (@Eq Nat x2 ml ∨ @LT.lt Nat _ dv x2) ∧ (a.length : Int) ≤ most ∧ ∀ c ∈ a, c ∈ [97, 46, 98, 36, 95, 92] := by
  obtain ⟨ps, o, k', t, ta, t0, a, x1, x2, y1, y2, e, r⟩ := h
  exact ⟨_, ps, o, k', t, ta, t0, a, x1, x2, y1, y2, e, rfl, r⟩
theorem loop_tab {k : Int} {i : Nat} {rest news : Led} (h : LoopSt w md ml wa ra va dr la dl ca dc pa ea dv k most nb tn t1 t2 t3 t4 t5 t6 t7 t8 ws n nW nR nL nC esR esL esC oP oE v2 v3 v4 v5 v6 rest i news) : ∃ ps nw, news = ((643, tabObj ps) :: nw) ++ rest := by
  obtain ⟨ps', o', k', t', ta', t0', a', x1', x2', y1', y2', rfl, _⟩ := h
  exact ⟨ps', _, rfl⟩
theorem led_ge {x1 x2 : Addr} {o y1 y2 : Obj} {ta t0 : Tok} {a : List Nat} {ps : Array Value} {led : Led}
    (ord : @LT.lt Nat _ 643 md ∧ @LT.lt Nat _ md ml ∧ @LT.lt Nat _ ml wa ∧ @LT.lt Nat _ wa dl ∧ @LT.lt Nat _ dl la ∧ @LT.lt Nat _ la dc ∧ @LT.lt Nat _ dc ca ∧ @LT.lt Nat _ ca pa ∧ @LT.lt Nat _ pa ea ∧ @LT.lt Nat _ ea dr ∧ @LT.lt Nat _ dr ra ∧ @LT.lt Nat _ ra dv ∧ @LT.lt Nat _ dv va)
    (ox1 : @Eq Nat x1 ml ∨ @LT.lt Nat _ dv x1) (ox2 : @Eq Nat x2 ml ∨ @LT.lt Nat _ dv x2) (hled : led = [(643, tabObj ps), (md, o), (wa, listOf #[.str (tx a) ta] nW), (x1, y1), (x2, y2), (ml, listOf ws.toArray n), (la, instObj 536 dl), (dl, dictOf esL nL), (ca, instObj 493 dc), (dc, dictOf esC nC), (pa, oP), (ea, oE), (ra, instObj 514 dr), (dr, dictOf esR nR), (va, instObj 98 dv), (dv, dictOf (scEs w t1 t2 t3 t4 t5 t6 t7 t8 (.int nb tn) v2 v3 v4 v5 v6 (.str (tx a) t0)) 8)]) : ∀ z ∈ led.map (·.1), @Eq Nat z 643 ∨ @LE.le Nat _ md z := by
  subst hled
  obtain ⟨_, q1, q2, q3, q4, q5, q6, q7, q8, q9, q10, q11, q12⟩ := ord
  have l2 := Nat.le_of_lt q1
  have l3 := Nat.le_trans l2 (Nat.le_of_lt q2)
  have l4 := Nat.le_trans l3 (Nat.le_of_lt q3)
  have l5 := Nat.le_trans l4 (Nat.le_of_lt q4)
  have l6 := Nat.le_trans l5 (Nat.le_of_lt q5)
  have l7 := Nat.le_trans l6 (Nat.le_of_lt q6)
  have l8 := Nat.le_trans l7 (Nat.le_of_lt q7)
  have l9 := Nat.le_trans l8 (Nat.le_of_lt q8)
  have l10 := Nat.le_trans l9 (Nat.le_of_lt q9)
  have l11 := Nat.le_trans l10 (Nat.le_of_lt q10)
  have l12 := Nat.le_trans l11 (Nat.le_of_lt q11)
  have l13 := Nat.le_trans l12 (Nat.le_of_lt q12)
  have lx : ∀ x : Nat, (x = ml ∨ dv < x) → md ≤ x := fun x h => h.elim (fun e => e ▸ l2) (fun e => Nat.le_trans l12 (Nat.le_of_lt e))
  have lx1 := lx x1 ox1
  have lx2 := lx x2 ox2
  have lm : md ≤ md := Nat.le_refl _
  intro z hz
  obtain ⟨p, hp, rfl⟩ := List.mem_map.mp hz
  revert p
  intro p hp _
  refine (?_ : ∀ p ∈ ([(643, tabObj ps), (md, o), (wa, listOf #[.str (tx a) ta] nW), (x1, y1), (x2, y2), (ml, listOf ws.toArray n), (la, instObj 536 dl), (dl, dictOf esL nL), (ca, instObj 493 dc), (dc, dictOf esC nC), (pa, oP), (ea, oE), (ra, instObj 514 dr), (dr, dictOf esR nR), (va, instObj 98 dv), (dv, dictOf (scEs w t1 t2 t3 t4 t5 t6 t7 t8 (.int nb tn) v2 v3 v4 v5 v6 (.str (tx a) t0)) 8)] : Led), @Eq Nat p.1 643 ∨ @LE.le Nat _ md p.1) p hp
  refine List.forall_mem_cons.mpr ⟨Or.inl rfl, ?_⟩
  repeat (first | exact List.forall_mem_nil _ | (refine List.forall_mem_cons.mpr ⟨Or.inr (by assumption), ?_⟩))
theorem law_loop {x1 x2 : Addr} {o y1 y2 : Obj} {k : Int} {t t0 ta : Tok} {a : List Nat} {ps : Array Value} {ob1 ob2 : Obj} {own : Led} {p1 p2 p3 p4 p5 p6 p7 p8 p9 p10 p11 p12 p13 p14 p15 p16 p17 p18 : Pos} {n9 : Nat} {r : Addr} {b₀ : Int} {t₀ u₀ w₀ : Tok} {Q : Flow → Shared → Prop} {m₀ : Str → Option Value}
    (lo : (md == sysModules) = false) (hi : IntsAre ws ns) (hn : ns.length ≤ 60)
    (g1 : getL (Str.ofString "limits") esR = some (some (.ref la))) (g2 : getL (Str.ofString "counter") esR = some (some (.ref ca))) (g3 : getL (Str.ofString "text") esL = some (some (.int most tm)))
    (h1 : getL (Str.ofString "places") esC = some (some (.ref pa))) (h2 : getL (Str.ofString "empties") esC = some (some (.ref ea)))
    (m1 : getL (Str.ofString "take") esC = some none) (m2 : getL (Str.ofString "put_off") esC = some none) (m3 : getL (Str.ofString "store") esC = some none)
    (lP : (pa == sysModules) = false) (hP : oP.IsDictOf (intKind PG w) []) (lE : (ea == sysModules) = false) (hE : oE.IsDictOf (intKind PG w) [])
    (ord : @LT.lt Nat _ 643 md ∧ @LT.lt Nat _ md ml ∧ @LT.lt Nat _ ml wa ∧ @LT.lt Nat _ wa dl ∧ @LT.lt Nat _ dl la ∧ @LT.lt Nat _ la dc ∧ @LT.lt Nat _ dc ca ∧ @LT.lt Nat _ ca pa ∧ @LT.lt Nat _ pa ea ∧ @LT.lt Nat _ ea dr ∧ @LT.lt Nat _ dr ra ∧ @LT.lt Nat _ ra dv ∧ @LT.lt Nat _ dv va) (hmost : 0 ≤ most ∧ most ≤ 17)
    (hmug : o.IsDictOf (strKind PG w) [(Str.ofString "at", Value.int k t), (Str.ofString "of", Value.ref ml)]) (hk : 0 ≤ k ∧ k < 100) (ht : TriplesOk ps.toList)
    (ox1 : @Eq Nat x1 ml ∨ @LT.lt Nat _ dv x1) (ox2 : @Eq Nat x2 ml ∨ @LT.lt Nat _ dv x2)
    (S1 : TabSt lamQ ps ⟨398, 27, 398, 69⟩ x1 dv y1) (S2 : TabSt lamQ ps ⟨409, 22, 409, 81⟩ x2 dv y2)
    (ha : (a.length : Int) ≤ most) (hal : ∀ c ∈ a, c ∈ [97, 46, 98, 36, 95, 92])
    (d1 : ob1.data = .cell (some (.ref va))) (d2 : ob2.data = .cell (some (.ref ra)))
    (q1 : m₀ (Str.ofString "mug") = some (.ref md)) (q2 : m₀ (Str.ofString "own") = some (.ref wa)) (q3 : m₀ (Str.ofString "most") = some (.int most tm2))
    (G₀ : Ground w p loose mean mg mb A₀ base [] h₀) (F : Fr h₀ L s.heap m₀) (N : News h₀ L s.heap ([(643, tabObj ps), (md, o), (wa, listOf #[.str (tx a) ta] nW), (x1, y1), (x2, y2), (ml, listOf ws.toArray n), (la, instObj 536 dl), (dl, dictOf esL nL), (ca, instObj 493 dc), (dc, dictOf esC nC), (pa, oP), (ea, oE), (ra, instObj 514 dr), (dr, dictOf esR nR), (va, instObj 98 dv), (dv, dictOf (scEs w t1 t2 t3 t4 t5 t6 t7 t8 (.int nb tn) v2 v3 v4 v5 v6 (.str (tx a) t0)) 8)] ++ ([(L + 1 + 1, ob1), (L + 1, ob2)] ++ own)))
    (hrest : ∀ q ∈ ([(L + 1 + 1, ob1), (L + 1, ob2)] ++ own : Led), @LT.lt Nat _ q.1 md ∧ @Ne Nat q.1 643) (hdp : dp + 100 < recursionLimit) (hun : un + 10 * 100 < cLine)
    (hr : IsRange s.heap r 0 b₀ 1 t₀ u₀ w₀) (hb : b₀ = (n9 : Int)) (hn9 : n9 ≤ 8)
    (done : ∀ m' h' tk' ps' news', Fr h₀ L h' m' → News h₀ L h' ((643, tabObj ps') :: news' ++ own) → Q .next { s with heap := h', toks := tk' }) :
    wpAny (model PG w) (ktrTop dp un gd (Str.ofString "law") scL L fa (.ref 654) (cellsFrom (L + 1) scL.names []) []) (pyIter (.ref r)) (fun it s₂ => LoopAtV PG w (ktrTop dp un gd (Str.ofString "law") scL L fa (.ref 654) (cellsFrom (L + 1) scL.names []) []) h₀ (envOfC (Str.ofString "law") scL L fa (.ref 654)) (Str.ofString "_") (bodyL p1 p2 p3 p4 p5 p6 p7 p8 p9 p10 p11 p12 p13 p14 p15 p16 p17 p18) Q E it s₂) E s := by
  subst hb
  have hsz : Builtin.Range.rangeSize 0 (n9 : Int) 1 = (n9 : Int) := by
    unfold Builtin.Range.rangeSize
    simp
    try omega
  have hfit : Builtin.Range.rangeFitsLong (n9 : Int) = true := by unfold Builtin.Range.rangeFitsLong; simp; omega
  refine wpAny_pyIter_range hr (by unfold Builtin.Range.small; simp [hsz, hfit]; decide) ?_
  have W := Walks.range (prog := PG) (w := w) (A := ktrTop dp un gd (Str.ofString "law") scL L fa (.ref 654) (cellsFrom (L + 1) scL.names []) []) rfl s.heap.objs.size 0 1 n9
  have old : ∀ b o, s.heap.get? b = some o → (s.heap.push { cls := .type "range_iterator", data := .fields #[rawInt 0, rawInt (Builtin.Range.rangeSize 0 (n9 : Int) 1), rawInt 1] }).get? b = some o := fun b o e => Heap.get?_push_of_some _ e
  obtain ⟨LS, hLS⟩ : ∃ LS : Nat → Led → Prop, ∀ i nx, LS i nx = LoopSt w md ml wa ra va dr la dl ca dc pa ea dv k most nb tn t1 t2 t3 t4 t5 t6 t7 t8 ws n nW nR nL nC esR esL esC oP oE v2 v3 v4 v5 v6 ([(L + 1 + 1, ob1), (L + 1, ob2)] ++ own) i nx := ⟨_, fun _ _ => rfl⟩
  refine ⟨_, _, _, n9, _, _, m₀, _, fun i m nx => (∀ z, z ≠ Str.ofString "_" → m z = m₀ z) ∧ LS i nx, rfl, W, ?_, ?_, ?_, ?_, F.push _, (fun q hq => ⟨old _ _ (N q hq).1, (N q hq).2⟩), ⟨fun _ _ => rfl, (hLS _ _).symm ▸ ⟨ps, o, k, t, ta, t0, a, x1, x2, y1, y2, rfl, hmug, by omega, by omega, ht, S1, S2, ox1, ox2, ha, hal⟩⟩, ?_, ?_⟩
  · intro hm
    exact absurd F.ns.lt (List.mem_singleton.mp hm ▸ Nat.lt_irrefl _)
  · intro b hb
    rw [List.mem_singleton.mp hb]
    exact next_is_new F
  · intro q hq hI
    exact absurd (Heap.lt_size (N q hq).1) ((List.mem_singleton.mp hI) ▸ Nat.lt_irrefl _)
  · show IsRangeIter _ _ _ _ _
    rw [hsz]
    simpa using Heap.get?_push_size _ rfl
  · rintro i v m₁ news₁ s₁ own₁ ⟨hh', tk', rfl⟩ hin hPv ⟨hm₁, hls⟩ hoff hown hget hfp hst F₁ N₁
    obtain ⟨led, ps', o', k', t', ta', t0', a', x1', x2', y1', y2', e0, hled, c1, c2, c3, c4, c5, c6, c7, c8, c9, c10⟩ := loop_open (hLS _ _ ▸ hls)
    subst e0
    have key := law_turn hled (p1 := p1) (p2 := p2) (p3 := p3) (p4 := p4) (p5 := p5) (p6 := p6) (p7 := p7) (p8 := p8) (p9 := p9) (p10 := p10) (p11 := p11) (p12 := p12) (p13 := p13) (p14 := p14) (p15 := p15) (p16 := p16) (p17 := p17) (p18 := p18)
      (dp := dp) (un := un) (gd := gd) (fa := fa) (E := E) (rest := [(L + 1 + 1, ob1), (L + 1, ob2)] ++ (own ++ own₁)) (own := own ++ own₁) (tm2 := tm2) lo hi hn g1 g2 g3 h1 h2 m1 m2 m3 lP hP lE hE ord hmost c1 (by omega) c4 c7 c8 c5 c6 c9 c10 rfl d1 d2
      (by show (if Str.ofString "mug" = Str.ofString "_" then some v else m₁ (Str.ofString "mug")) = _; rw [if_neg (by decide), hm₁ _ (by decide)]; exact q1)
      (by show (if Str.ofString "own" = Str.ofString "_" then some v else m₁ (Str.ofString "own")) = _; rw [if_neg (by decide), hm₁ _ (by decide)]; exact q2)
      (by show (if Str.ofString "most" = Str.ofString "_" then some v else m₁ (Str.ofString "most")) = _; rw [if_neg (by decide), hm₁ _ (by decide)]; exact q3)
      G₀ F₁ (fun q hq => N₁ q (by
        rcases List.mem_append.mp hq with hq | hq
        · exact List.mem_append_right _ (List.mem_append_left _ hq)
        · rcases List.mem_append.mp hq with hq | hq
          · exact List.mem_append_right _ (List.mem_append_right _ (List.mem_append_left _ hq))
          · rcases List.mem_append.mp hq with hq | hq
            · exact List.mem_append_right _ (List.mem_append_right _ (List.mem_append_right _ hq))
            · exact List.mem_append_left _ hq)) (fun q hq hm => by
        have hq : q ∈ ([(L + 1 + 1, ob1), (L + 1, ob2)] ++ own : Led) ∨ q ∈ own₁ := by
          rcases List.mem_append.mp hq with hq | hq
          · exact .inl (List.mem_append_left _ hq)
          · rcases List.mem_append.mp hq with hq | hq
            · exact .inl (List.mem_append_right _ hq)
            · exact .inr hq
        rcases hq with hq | hq
        · rcases led_ge ord c7 c8 hled _ hm with e | e
          · exact (hrest q hq).2 e
          · exact Nat.lt_irrefl _ (Nat.lt_of_lt_of_le (hrest q hq).1 e)
        · have h1 := List.mem_singleton.mp (hown q hq)
          obtain ⟨z, hz, hz2⟩ := List.mem_map.mp hm
          exact hoff z (List.mem_append_left _ hz) (by rw [hz2, h1]; exact .head _)) hdp hun
    refine wpAny_mono key (fun f s₂ hp => ?_) fun _ _ e => e
    obtain ⟨rfl, news', h', tk2, rfl, F', N', hL, P⟩ := hp
    refine LoopStepV.next (LoopStepU.intro F' (fun q hq => N' q ?_) (fun q hq hI => ?_) ⟨fun z hz => by show (if z = Str.ofString "_" then some v else m₁ z) = _; rw [if_neg hz]; exact hm₁ z hz, (hLS _ _).symm ▸ isr_loop P c2 c3⟩)
    · rcases List.mem_append.mp hq with hq | hq
      · exact List.mem_append_right _ (List.mem_append_right _ (List.mem_append_right _ hq))
      · rcases List.mem_append.mp hq with hq | hq
        · exact List.mem_append_left _ hq
        · refine List.mem_append_right _ ?_
          rcases List.mem_append.mp hq with hq | hq
          · exact List.mem_append_left _ hq
          · exact List.mem_append_right _ (List.mem_append_left _ hq)
    · have hI' := List.mem_singleton.mp hI
      rcases List.mem_append.mp hq with hq | hq
      · rcases hL q hq with hz | hz
        · obtain ⟨z, hz1, hz2⟩ := List.mem_map.mp hz
          exact hoff z (List.mem_append_left _ hz1) (by rw [hz2]; exact hI)
        · have : IsRangeIter hh' s.heap.objs.size _ _ _ := hst
          unfold IsRangeIter at this
          rw [hI'] at hz
          rw [show ({ s with heap := hh', toks := tk' } : Shared).heap = hh' from rfl] at hz
          rw [this] at hz; cases hz
      · exact hoff q (List.mem_append_right _ hq) hI
  · rintro h' tk' m' news' F' N' _ ⟨_, hls⟩
    obtain ⟨ps', nw, rfl⟩ := loop_tab (hLS _ _ ▸ hls)
    exact done m' h' tk' ps' _ F' (fun q hq => N' q (by
      rcases List.mem_append.mp hq with hq | hq
      · exact List.mem_append_left _ hq
      · exact List.mem_append_right _ (List.mem_append_right _ hq)))
end
end

-- LoopUse
section
set_option maxRecDepth 100000
set_option maxHeartbeats 1000000
section
variable {w : World} {p : Program} {loose : List Str} {mean : ExcName → Option Value} {mg mb : Str → Option Value} {A₀ : Around} {base h₀ : Heap} {L : Addr} {m : Str → Option Value}
  {dp un : Nat} {gd : Option (List Code)} {fa : Addr} {s : Shared} {E : Value → Shared → Prop}
  {md ml wa ra va dr la dl ca dc pa ea dv : Addr} {most nb : Int} {tm tm2 tn t1 t2 t3 t4 t5 t6 t7 t8 : Tok} {ws : List Value} {ns : List Int} {n nW nR nL nC : Nat} {esR esL esC : List DictEntry} {oP oE : Obj} {v2 v3 v4 v5 v6 : Value}
theorem rest3 {L md : Nat} {ob1 ob2 o3 : Obj} (hL : L + 1 + 1 < md ∧ 650 < L) : ∀ z ∈ ([(L + 1 + 1, ob1), (L + 1, ob2)] ++ [(650, o3)] : Led), @LT.lt Nat _ z.1 md ∧ @Ne Nat z.1 643 :=
  List.forall_mem_cons.mpr ⟨⟨hL.1, by show L + 1 + 1 ≠ 643; omega⟩, List.forall_mem_cons.mpr ⟨⟨Nat.lt_of_succ_lt hL.1, by show L + 1 ≠ 643; omega⟩, List.forall_mem_cons.mpr ⟨⟨by show 650 < md; omega, by show (650 : Nat) ≠ 643; decide⟩, List.forall_mem_nil _⟩⟩⟩
theorem loop_use {o : Obj} {k : Int} {t t0 ta : Tok} {a : List Nat} {ob1 ob2 : Obj} {ps50 : Array Value} {p1 p2 p3 p4 p5 p6 p7 p8 p9 p10 p11 p12 p13 p14 p15 p16 p17 p18 : Pos} {r : Addr} {b₀ : Int} {t₀ u₀ w₀ : Tok} {Q : Flow → Shared → Prop} {m₀ : Str → Option Value} {led : Led}
    (q1 : m₀ (Str.ofString "mug") = some (.ref md)) (q2 : m₀ (Str.ofString "own") = some (.ref wa)) (q3 : m₀ (Str.ofString "most") = some (.int most tm2))
    (hmug : o.IsDictOf (strKind PG w) [(Str.ofString "at", Value.int k t), (Str.ofString "of", Value.ref ml)]) (hk : 0 ≤ k ∧ k < 100)
    (ha : (a.length : Int) ≤ most) (hal : ∀ c ∈ a, c ∈ [97, 46, 98, 36, 95, 92])
    (lo : (md == sysModules) = false) (hi : IntsAre ws ns) (hn : ns.length ≤ 60)
    (g1 : getL (Str.ofString "limits") esR = some (some (.ref la))) (g2 : getL (Str.ofString "counter") esR = some (some (.ref ca))) (g3 : getL (Str.ofString "text") esL = some (some (.int most tm)))
    (h1 : getL (Str.ofString "places") esC = some (some (.ref pa))) (h2 : getL (Str.ofString "empties") esC = some (some (.ref ea)))
    (m1 : getL (Str.ofString "take") esC = some none) (m2 : getL (Str.ofString "put_off") esC = some none) (m3 : getL (Str.ofString "store") esC = some none)
    (lP : (pa == sysModules) = false) (hP : oP.IsDictOf (intKind PG w) []) (lE : (ea == sysModules) = false) (hE : oE.IsDictOf (intKind PG w) [])
    (ord : @LT.lt Nat _ 643 md ∧ @LT.lt Nat _ md ml ∧ @LT.lt Nat _ ml wa ∧ @LT.lt Nat _ wa dl ∧ @LT.lt Nat _ dl la ∧ @LT.lt Nat _ la dc ∧ @LT.lt Nat _ dc ca ∧ @LT.lt Nat _ ca pa ∧ @LT.lt Nat _ pa ea ∧ @LT.lt Nat _ ea dr ∧ @LT.lt Nat _ dr ra ∧ @LT.lt Nat _ ra dv ∧ @LT.lt Nat _ dv va) (hmost : 0 ≤ most ∧ most ≤ 17)
    (d1 : ob1.data = .cell (some (.ref va))) (d2 : ob2.data = .cell (some (.ref ra)))
    (G₀ : Ground w p loose mean mg mb A₀ base [] h₀) (F : Fr h₀ L s.heap m₀) (N : News h₀ L s.heap led)
    (hm : ∀ q ∈ [(643, tabObj #[]), (md, o), (wa, listOf #[.str (tx a) ta] nW), (ml, listOf ws.toArray n), (la, instObj 536 dl), (dl, dictOf esL nL), (ca, instObj 493 dc), (dc, dictOf esC nC), (pa, oP), (ea, oE), (ra, instObj 514 dr), (dr, dictOf esR nR), (va, instObj 98 dv), (dv, dictOf (scEs w t1 t2 t3 t4 t5 t6 t7 t8 (.int nb tn) v2 v3 v4 v5 v6 (.str (tx a) t0)) 8), (L + 1 + 1, ob1), (L + 1, ob2), (650, tabObj ps50)], q ∈ led)
    (hL : @LT.lt Nat _ (L + 1 + 1) md ∧ @LT.lt Nat _ 650 L) (hdp : dp + 100 < recursionLimit) (hun : un + 10 * 100 < cLine)
    (hr : IsRange s.heap r 0 b₀ 1 t₀ u₀ w₀) (hb : 0 ≤ b₀ ∧ b₀ ≤ 8)
    (done : ∀ m' h' tk' ps', Fr h₀ L h' m' → News h₀ L h' [(643, tabObj ps'), (650, tabObj ps50)] → Q .next { s with heap := h', toks := tk' }) :
    wpAny (model PG w) (ktrTop dp un gd (Str.ofString "law") scL L fa (.ref 654) (cellsFrom (L + 1) scL.names []) []) (pyIter (.ref r)) (fun it s₂ => LoopAtV PG w (ktrTop dp un gd (Str.ofString "law") scL L fa (.ref 654) (cellsFrom (L + 1) scL.names []) []) h₀ (envOfC (Str.ofString "law") scL L fa (.ref 654)) (Str.ofString "_") (bodyL p1 p2 p3 p4 p5 p6 p7 p8 p9 p10 p11 p12 p13 p14 p15 p16 p17 p18) Q E it s₂) E s := by
  have hN := fun q hq => N q (hm q hq)
  refine law_loop (x1 := ml) (x2 := ml) (y1 := listOf ws.toArray n) (y2 := listOf ws.toArray n) (ps := #[]) (ob1 := ob1) (ob2 := ob2) (own := [(650, tabObj ps50)]) (n9 := b₀.toNat) (t0 := t0) (ta := ta) (nb := nb) (tn := tn) (t1 := t1) (t2 := t2) (t3 := t3) (t4 := t4) (t5 := t5) (t6 := t6) (t7 := t7) (t8 := t8) (n := n) (nW := nW) (nR := nR) (nL := nL) (nC := nC) (v2 := v2) (v3 := v3) (v4 := v4) (v5 := v5) (v6 := v6)
    lo hi hn g1 g2 g3 h1 h2 m1 m2 m3 lP hP lE hE ord hmost hmug hk trivial (.inl rfl) (.inl rfl) (.inl rfl) (.inl rfl) ha hal d1 d2 q1 q2 q3 G₀ F (fun q hq => ?_) (fun q hq => ?_) hdp hun hr (by omega) (by omega) fun m' h' tk' ps' news' F' N' => done m' h' tk' ps' F' fun q hq => N' q ?_
  · exact hN q ((by (repeat (first | exact List.forall_mem_nil _ | (refine List.forall_mem_cons.mpr ⟨(by k_mem), ?_⟩))) : ∀ z ∈ _, z ∈ _) q hq)
  · exact rest3 hL q hq
  · rcases List.mem_cons.mp hq with rfl | hq
    · exact .head _
    · exact .tail _ (List.mem_append_right _ hq)
end
end

-- LawTail
section
set_option maxRecDepth 100000
set_option maxHeartbeats 2000000
theorem for_tail {prog : Program} {w : World} {A : Around} {E : Value → Shared → Prop} {s : Shared} {env : Env} {Q : Flow → Shared → Prop} {x : Str} {px pos : Pos} {iter : Expr} {body : List Stmt} {h₀ : Heap} {L : Addr} {m : Str → Option Value} (_F : Fr h₀ L s.heap m) (hE : PassesOwn (model prog w) A env E) (hx : env.kindOf x = some .local)
    (hp : (env.scope.kind == .class || (env.scope.kind == .module && env.locals != env.globals)) = false)
    (hs : ∀ x, foldedSetIterable iter env x = pure x)
    (h : wpAny (model prog w) A (eval iter env) (fun xv s₁ => wpAny (model prog w) A (pyIter xv) (fun it s₂ => LoopAtV prog w A h₀ env x body Q E it s₂) E s₁) E s) :
    wpAny (model prog w) A (exec (.For (.Name x px) iter body [] pos) env) Q E s := For_invV h₀ hx hp h hs hE
section
variable {w : World} {p : Program} {loose : List Str} {mean : ExcName → Option Value} {mg mb : Str → Option Value} {A₀ : Around} {base h₀ : Heap} {L : Addr} {m : Str → Option Value}
  {dp un : Nat} {gd : Option (List Code)} {fa : Addr} {s : Shared} {E : Value → Shared → Prop}
  {md ml wa ra va dr la dl ca dc pa ea dv : Addr} {most nb : Int} {tm tm2 tn t1 t2 t3 t4 t5 t6 t7 t8 : Tok} {ws : List Value} {ns : List Int} {n nW nR nL nC : Nat} {esR esL esC : List DictEntry} {oP oE : Obj} {v2 v3 v4 v5 v6 : Value}
theorem law_tail {o : Obj} {k : Int} {t t0 ta : Tok} {a : List Nat} {ob1 ob2 : Obj} {ps50 : Array Value} {r1 r2 r3 r4 r5 r6 r7 r8 r9 r10 r11 r12 p1 p2 p3 p4 p5 p6 p7 p8 p9 p10 p11 p12 p13 p14 p15 p16 p17 p18 : Pos} {Q : Flow → Shared → Prop} {m₀ : Str → Option Value}
    (q1 : m₀ (Str.ofString "mug") = some (.ref md)) (q2 : m₀ (Str.ofString "own") = some (.ref wa)) (q3 : m₀ (Str.ofString "most") = some (.int most tm2))
    (hmug : o.IsDictOf (strKind PG w) [(Str.ofString "at", Value.int k t), (Str.ofString "of", Value.ref ml)]) (hk : 0 ≤ k ∧ k < 50)
    (ha : (a.length : Int) ≤ most) (hal : ∀ c ∈ a, c ∈ [97, 46, 98, 36, 95, 92])
    (lo : (md == sysModules) = false) (hi : IntsAre ws ns) (hn : ns.length ≤ 60)
    (g1 : getL (Str.ofString "limits") esR = some (some (.ref la))) (g2 : getL (Str.ofString "counter") esR = some (some (.ref ca))) (g3 : getL (Str.ofString "text") esL = some (some (.int most tm)))
    (h1 : getL (Str.ofString "places") esC = some (some (.ref pa))) (h2 : getL (Str.ofString "empties") esC = some (some (.ref ea)))
    (m1 : getL (Str.ofString "take") esC = some none) (m2 : getL (Str.ofString "put_off") esC = some none) (m3 : getL (Str.ofString "store") esC = some none)
    (lP : (pa == sysModules) = false) (hP : oP.IsDictOf (intKind PG w) []) (lE : (ea == sysModules) = false) (hE : oE.IsDictOf (intKind PG w) [])
    (ord : @LT.lt Nat _ 643 md ∧ @LT.lt Nat _ md ml ∧ @LT.lt Nat _ ml wa ∧ @LT.lt Nat _ wa dl ∧ @LT.lt Nat _ dl la ∧ @LT.lt Nat _ la dc ∧ @LT.lt Nat _ dc ca ∧ @LT.lt Nat _ ca pa ∧ @LT.lt Nat _ pa ea ∧ @LT.lt Nat _ ea dr ∧ @LT.lt Nat _ dr ra ∧ @LT.lt Nat _ ra dv ∧ @LT.lt Nat _ dv va) (hmost : 0 ≤ most ∧ most ≤ 17)
    (d1 : ob1.data = .cell (some (.ref va))) (d2 : ob2.data = .cell (some (.ref ra)))
    (G₀ : Ground w p loose mean mg mb A₀ base [] h₀) (F : Fr h₀ L s.heap m₀) (N : News h₀ L s.heap [(643, tabObj #[]), (md, o), (wa, listOf #[.str (tx a) ta] nW), (ml, listOf ws.toArray n), (la, instObj 536 dl), (dl, dictOf esL nL), (ca, instObj 493 dc), (dc, dictOf esC nC), (pa, oP), (ea, oE), (ra, instObj 514 dr), (dr, dictOf esR nR), (va, instObj 98 dv), (dv, dictOf (scEs w t1 t2 t3 t4 t5 t6 t7 t8 (.int nb tn) v2 v3 v4 v5 v6 (.str (tx a) t0)) 8), (L + 1 + 1, ob1), (L + 1, ob2), (650, tabObj ps50)])
    (hL : @LT.lt Nat _ (L + 1 + 1) md ∧ @LT.lt Nat _ 650 L) (hdp : dp + 100 < recursionLimit) (hun : un + 10 * 100 < cLine)
    (hEp : PassesOwn (model PG w) (ktrTop dp un gd (Str.ofString "law") scL L fa (.ref 654) (cellsFrom (L + 1) scL.names []) []) (envOfC (Str.ofString "law") scL L fa (.ref 654)) E)
    (done : ∀ m' h' tk' ps', Fr h₀ L h' m' → News h₀ L h' [(643, tabObj ps'), (650, tabObj ps50)] → Q (.ret (.bool true)) { s with heap := h', toks := tk' }) :
    wpAny (model PG w) (ktrTop dp un gd (Str.ofString "law") scL L fa (.ref 654) (cellsFrom (L + 1) scL.names []) []) (execs [Stmt.For (Expr.Name (Str.ofString "_") r1) ((Expr.Name (Str.ofString "range") r2).Call [(Expr.Constant (Const.int 1) 0 r3).BinOp Operator.Add ((Expr.Name (Str.ofString "_law_sip") r4).Call [Expr.Name (Str.ofString "mug") r5, Expr.Constant (Const.int 8) 0 r6] [] r7) r8] [] r9) (bodyL p1 p2 p3 p4 p5 p6 p7 p8 p9 p10 p11 p12 p13 p14 p15 p16 p17 p18) [] r10, Stmt.Return (some (Expr.Constant (Const.bool true) 0 r11)) r12] (envOfC (Str.ofString "law") scL L fa (.ref 654))) Q E s := by
  k_with_none
  k_with "execs cons" => (k_here; (with_reducible refine' gentk ?F ?e1 ?e2 ?e3 ?e4 ?_); (case F => k_asm); (case e1 => k_dflt exact rfl); (case e2 => k_dflt exact rfl); (case e3 => k_dflt exact rfl); (case e4 => k_dflt exact rfl); intro tk')
  k_with "callWith ref" => (k_here; k_dflt (refine' callWith_K ?k1 ?k2 ?_; (case k1 => k_asm); (case k2 => k_is); k_whole))
  k_with "call ref" => (k_here; (with_reducible show wpAny _ _ (call (Value.ref 610) _) _ _ _); k_dflt (refine' sip_use ?k1 ?k2 ?k3 ?k4 ?k5 ?kK ?kd ?ku ?U ?hml ?hmug ?lo ?hi ?hn ?hk ?hm ?hne ?_; (case k1 => k_asm); (case k2 => k_asm); (case k3 => k_asm); (case k4 => k_asm); (case k5 => k_asm); (case kK => first | assumption | exact rfl); (case kd => ktr_room); (case ku => ktr_units); (case U => k_updF); (case hmug => k_asm); (case hml => k_mem); (case lo => assumption); (case hi => assumption); (case hn => assumption); (case hk => omega); (case hm => omega); (case hne => omega); k_whole; intro h' o' t' v' tv' tk' F' N' hd' G' hv'; (try dsimp only at N'); (try k_fold)))
  k_with "call type:range" => ((with_reducible rename Fr _ _ _ _ => F'); (with_reducible rename News _ _ _ _ => N'); (with_unfolding_all refine range1_rows F' N' ?_; intro _ _ _ _ _ _ _ _ _))
  k_with "pyIter ref" => (k_here; (with_reducible show wpAny _ _ (pyIter (Value.ref _)) (fun it s₂ => LoopAtV _ _ _ _ _ _ _ _ _ it s₂) _ _); (with_reducible rename IsRange _ _ _ _ _ _ _ _ => hR9); k_dflt (refine' loop_use ?q1 ?q2 ?q3 ?hmug ?hk ?ha ?hal ?lo ?hi ?hn ?g1 ?g2 ?g3 ?h1 ?h2 ?m1 ?m2 ?m3 ?lP ?hP ?lE ?hE ?ord ?hmost ?d1 ?d2 ?G ?F ?N ?hm ?hL ?hdp ?hun hR9 ?hb ?_; (case F => k_asm); (case N => k_asm); (case G => with_reducible assumption); (case q1 => with_reducible assumption); (case q2 => with_reducible assumption); (case q3 => with_reducible assumption); (case hmug => with_reducible assumption); (case g1 => with_reducible assumption); (case g2 => with_reducible assumption); (case g3 => with_reducible assumption); (case h1 => with_reducible assumption); (case h2 => with_reducible assumption); (case m1 => with_reducible assumption); (case m2 => with_reducible assumption); (case m3 => with_reducible assumption); (case hm => (repeat (first | exact List.forall_mem_nil _ | (refine List.forall_mem_cons.mpr ⟨(by k_mem), ?_⟩)))); (case lo => with_reducible assumption); (case hi => with_reducible assumption); (case hn => with_reducible assumption); (case lP => with_reducible assumption); (case hP => with_reducible assumption); (case lE => with_reducible assumption); (case hE => with_reducible assumption); (case ord => with_reducible assumption); (case hk => omega); (case ha => with_reducible assumption); (case hal => with_reducible assumption); (case hmost => with_reducible assumption); (case d1 => with_reducible assumption); (case d2 => with_reducible assumption); (case hL => with_reducible assumption); (case hdp => ktr_room); (case hun => ktr_units); (case hb => omega); k_whole); intro m9' h' tk' ps9' F' N'; (try dsimp only); (try k_fold))
  k_with "eval Name" => (k_here; k_dflt (refine' nameX_L ?F ?v ?_ ?a ?b; (case F => k_asm); (case a => rfl); (case b => rfl); (case v => with_reducible assumption); k_whole))
  k_with "exec For Name Call cons nil" => (k_here; k_dflt (refine' for_tail ?F ?hE ?hx ?hp ?hs ?_; (case F => k_asm); (case hE => k_asm); (case hx => rfl); (case hp => rfl); (case hs => (intro _; rfl))))
  have X := G₀.X
  have B := G₀.B
  have T := G₀.T
  have hLs := hL
  obtain ⟨hL1, hL2⟩ := hLs
  (try k_fold)
  k_steps
  exact done _ _ _ _ (by with_reducible assumption) (by with_reducible assumption)
end
end

-- TailUse
section
set_option maxRecDepth 100000
set_option maxHeartbeats 1000000
section
variable {w : World} {p : Program} {loose : List Str} {mean : ExcName → Option Value} {mg mb : Str → Option Value} {A₀ : Around} {base h₀ : Heap} {L : Addr} {m : Str → Option Value}
  {dp un : Nat} {gd : Option (List Code)} {fa : Addr} {s : Shared} {E : Value → Shared → Prop}
  {md ml wa ra va dr la dl ca dc pa ea dv : Addr} {most nb : Int} {tm tm2 tn t1 t2 t3 t4 t5 t6 t7 t8 : Tok} {ws : List Value} {ns : List Int} {n nW nR nL nC : Nat} {esR esL esC : List DictEntry} {oP oE : Obj} {v2 v3 v4 v5 v6 : Value}
theorem tail_use {o : Obj} {k : Int} {t t0 ta : Tok} {a : List Nat} {ob1 ob2 : Obj} {ps50 : Array Value} {r1 r2 r3 r4 r5 r6 r7 r8 r9 r10 r11 r12 p1 p2 p3 p4 p5 p6 p7 p8 p9 p10 p11 p12 p13 p14 p15 p16 p17 p18 : Pos} {Q : Flow → Shared → Prop} {m₀ : Str → Option Value} {led : Led}
    (q1 : m₀ (Str.ofString "mug") = some (.ref md)) (q2 : m₀ (Str.ofString "own") = some (.ref wa)) (q3 : m₀ (Str.ofString "most") = some (.int most tm2))
    (hmug : o.IsDictOf (strKind PG w) [(Str.ofString "at", Value.int k t), (Str.ofString "of", Value.ref ml)]) (hk : 0 ≤ k ∧ k < 50)
    (ha : (a.length : Int) ≤ most) (hal : ∀ c ∈ a, c ∈ [97, 46, 98, 36, 95, 92])
    (lo : (md == sysModules) = false) (hi : IntsAre ws ns) (hn : ns.length ≤ 60)
    (g1 : getL (Str.ofString "limits") esR = some (some (.ref la))) (g2 : getL (Str.ofString "counter") esR = some (some (.ref ca))) (g3 : getL (Str.ofString "text") esL = some (some (.int most tm)))
    (h1 : getL (Str.ofString "places") esC = some (some (.ref pa))) (h2 : getL (Str.ofString "empties") esC = some (some (.ref ea)))
    (m1 : getL (Str.ofString "take") esC = some none) (m2 : getL (Str.ofString "put_off") esC = some none) (m3 : getL (Str.ofString "store") esC = some none)
    (lP : (pa == sysModules) = false) (hP : oP.IsDictOf (intKind PG w) []) (lE : (ea == sysModules) = false) (hE : oE.IsDictOf (intKind PG w) [])
    (ord : @LT.lt Nat _ 643 md ∧ @LT.lt Nat _ md ml ∧ @LT.lt Nat _ ml wa ∧ @LT.lt Nat _ wa dl ∧ @LT.lt Nat _ dl la ∧ @LT.lt Nat _ la dc ∧ @LT.lt Nat _ dc ca ∧ @LT.lt Nat _ ca pa ∧ @LT.lt Nat _ pa ea ∧ @LT.lt Nat _ ea dr ∧ @LT.lt Nat _ dr ra ∧ @LT.lt Nat _ ra dv ∧ @LT.lt Nat _ dv va) (hmost : 0 ≤ most ∧ most ≤ 17)
    (d1 : ob1.data = .cell (some (.ref va))) (d2 : ob2.data = .cell (some (.ref ra)))
    (G₀ : Ground w p loose mean mg mb A₀ base [] h₀) (F : Fr h₀ L s.heap m₀) (N : News h₀ L s.heap led)
    (hm : ∀ q ∈ [(643, tabObj #[]), (md, o), (wa, listOf #[.str (tx a) ta] nW), (ml, listOf ws.toArray n), (la, instObj 536 dl), (dl, dictOf esL nL), (ca, instObj 493 dc), (dc, dictOf esC nC), (pa, oP), (ea, oE), (ra, instObj 514 dr), (dr, dictOf esR nR), (va, instObj 98 dv), (dv, dictOf (scEs w t1 t2 t3 t4 t5 t6 t7 t8 (.int nb tn) v2 v3 v4 v5 v6 (.str (tx a) t0)) 8), (L + 1 + 1, ob1), (L + 1, ob2), (650, tabObj ps50)], q ∈ led)
    (hL : @LT.lt Nat _ (L + 1 + 1) md ∧ @LT.lt Nat _ 650 L) (hdp : dp + 100 < recursionLimit) (hun : un + 10 * 100 < cLine)
    (hEp : PassesOwn (model PG w) (ktrTop dp un gd (Str.ofString "law") scL L fa (.ref 654) (cellsFrom (L + 1) scL.names []) []) (envOfC (Str.ofString "law") scL L fa (.ref 654)) E)
    (done : ∀ m' h' tk' ps', Fr h₀ L h' m' → News h₀ L h' [(643, tabObj ps'), (650, tabObj ps50)] → Q (.ret (.bool true)) { s with heap := h', toks := tk' }) :
    wpAny (model PG w) (ktrTop dp un gd (Str.ofString "law") scL L fa (.ref 654) (cellsFrom (L + 1) scL.names []) []) (execs [Stmt.For (Expr.Name (Str.ofString "_") r1) ((Expr.Name (Str.ofString "range") r2).Call [(Expr.Constant (Const.int 1) 0 r3).BinOp Operator.Add ((Expr.Name (Str.ofString "_law_sip") r4).Call [Expr.Name (Str.ofString "mug") r5, Expr.Constant (Const.int 8) 0 r6] [] r7) r8] [] r9) (bodyL p1 p2 p3 p4 p5 p6 p7 p8 p9 p10 p11 p12 p13 p14 p15 p16 p17 p18) [] r10, Stmt.Return (some (Expr.Constant (Const.bool true) 0 r11)) r12] (envOfC (Str.ofString "law") scL L fa (.ref 654))) Q E s :=
  law_tail q1 q2 q3 hmug hk ha hal lo hi hn g1 g2 g3 h1 h2 m1 m2 m3 lP hP lE hE ord hmost d1 d2 G₀ F (news_sub N hm) hL hdp hun hEp done

end
end

-- ScalarOf
section
set_option maxRecDepth 100000
set_option maxHeartbeats 1000000
section
variable {w : World} {p : Program} {loose : List Str} {mean : ExcName → Option Value} {mg mb : Str → Option Value}
/-- a call that makes some things and changes one -/
theorem Does.upd1 {A₀ : Around} {base h₀ : Heap} {outer : List Env} {L : Addr} {m : Str → Option Value} {news : Led}
    {dp un : Nat} {gd : Option (List Code)} {cn : Str} {cs : Scope} {fa : Addr} {ccd : Value} {cl : List (Str × Addr)} {s : Shared} {Q E : Value → Shared → Prop} {b : Nat} {f : Addr} {vs : List Value} {pre₀ : Led} {d : Addr} {o : Obj} {post : Value → Led → Obj → Prop} {g : Obj → Led}
    (D : Does b w p loose mean mg mb f vs (pre₀ ++ [(d, o)]) (fun r n => ∃ mk o', n = mk ++ (pre₀ ++ [(d, o')]) ∧ post r mk o'))
    (B : Below A₀ base outer h₀) (F : Fr h₀ L s.heap m) (X : (written.heap_1 w.params).In h₀) (N : News h₀ L s.heap news) (T : Top p loose mean mg mb h₀) (hk : cs.kind = .function) (hdp : dp + b < recursionLimit) (hun : un + 10 * b < cLine)
    (hs : ∀ p ∈ pre₀, p ∈ news) (U : UpdF d o news g)
    (k : ∀ r mk o' h' tk', Fr h₀ L h' m → News h₀ L h' (mk ++ g o') → post r mk o' → Q r { s with heap := h', toks := tk' }) :
    wpAny (model PG w) (ktrTop dp un gd cn cs L fa ccd cl outer) (call (.ref f) vs) Q E s := by
  obtain ⟨pre, post', rfl, hg, a1, a2⟩ := U.split
  have Ns : News h₀ L s.heap (pre₀ ++ [(d, o)]) := fun q hq => by
    rcases List.mem_append.mp hq with hq | hq
    · exact N q (hs q hq)
    · rw [List.mem_singleton.mp hq]; exact N _ (List.mem_append_right _ (.head _))
  refine Does.go D B F X Ns T hk hdp hun fun r n h' tk' F' N' G hp => ?_
  obtain ⟨mk, o', rfl, hp⟩ := hp
  refine k r mk o' h' tk' F' (fun q hq => ?_) hp
  rcases List.mem_append.mp hq with hq | hq
  · exact N' q (List.mem_append_left _ hq)
  · have key : ∀ z ∈ pre ++ (d, o) :: post', z.1 ≠ d → h'.get? z.1 = some z.2 ∧ z.1 ≠ L ∧ h₀.get? z.1 = none := fun z hz hne => by
      have hN := N z hz
      by_cases hb : z.1 ∈ pre₀.map (·.1)
      · obtain ⟨p', hp', e⟩ := List.mem_map.mp hb
        have h3 := (N p' (hs p' hp')).1
        have h2 := hN.1
        rw [e, h2] at h3
        have h4 := N' p' (List.mem_append_right _ (List.mem_append_left _ hp'))
        rw [e, ← Option.some.inj h3] at h4
        exact h4
      · refine ⟨G.1 _ _ hN.1 fun q => ?_, hN.2⟩
        rw [List.map_append] at q
        rcases List.mem_append.mp q with q | q
        · exact hb q
        · exact hne (List.mem_singleton.mp q)
    rw [hg] at hq
    rcases List.mem_append.mp hq with hq | hq
    · exact key q (List.mem_append_left _ hq) (a1 q hq)
    · rcases List.mem_cons.mp hq with rfl | hq
      · exact N' _ (List.mem_append_right _ (List.mem_append_right _ (.head _)))
      · exact key q (List.mem_append_right _ (.tail _ hq)) (a2 q hq)

theorem next_spec {hp dh la : Addr} {n : Int} {t1 t2 t3 tl : Tok} {lz : Value} (hlt : @LT.lt Nat _ dh hp) :
    Does 3 w p loose mean mg mb 219 [.ref hp] ([(hp, instObj 257 dh)] ++ [(dh, dictOf (heapEs w t1 t2 t3 tl la n lz) 3)])
      (fun r nw => ∃ mk o', nw = mk ++ ([(hp, instObj 257 dh)] ++ [(dh, o')]) ∧ ∃ t' u, mk = [] ∧ r = .int (n + 1) t' ∧ o' = dictOf (heapEs w t1 t2 t3 u la (n + 1) lz) 3) := by
  k_with_none
  k_with "execs cons" => (k_here; (with_reducible refine' gentk ?F ?e1 ?e2 ?e3 ?e4 ?_); (case F => k_asm); (case e1 => k_dflt exact rfl); (case e2 => k_dflt exact rfl); (case e3 => k_dflt exact rfl); (case e4 => k_dflt exact rfl); intro tk')
  unfold Does
  intro dp un gd cn cs fa ccd cl outer A₀ base h₀ L m s R B F X N T hkf hdp hun hret
  have c1 := lt1_chain hlt lt1_nil
  simp only [List.cons_append, List.nil_append] at N
  k_dflt (refine' code_defG ?k1 ?k2 ?k3 ?k4 ?k5 ?kA ?kF ?kK ?k6 ?k7 ?k8 ?k9 ?kB ?_ ?c2 ?c3 ?c4 ?c5; (case kA => exact rfl); (case kF => exact rfl); (case kK => first | assumption | exact rfl); (case k1 => k_asm); (case k2 => k_asm); (case k3 => k_asm); (case k4 => k_asm); (case k5 => k_asm); (case k6 => k_is); (case k7 => k_is); (case k8 => ktr_room); (case k9 => exact BindsTo.of_eq rfl); (case c5 => decide); (case kB => exact locs rfl); (case c2 => exact rfl); (case c3 => exact rfl); (case c4 => exact rfl); k_whole; intro g' L' h' FG' F' N' B' X' T' kG'; (try dsimp only); (try k_lift B'); (try k_fold))
  k_steps
  exact hret _ _ _ _ (by k_asm) (by k_asm) (left_of (by assumption) (by assumption) (by assumption)) ⟨[], _, rfl, _, _, rfl, rfl, rfl⟩
abbrev thingKvs (nb : Int) (tn tc : Tok) (wl : Value) : List (Str × Value) := [(Str.ofString "is_freed", .bool false), (Str.ofString "is_destroyed", .bool false), (Str.ofString "weak", wl), (Str.ofString "blessed", .none), (Str.ofString "count", .int 0 tc), (Str.ofString "number", .int nb tn)]
theorem thing_spec {x dx C : Addr} {nb : Int} {tn : Tok} (hlt : @LT.lt Nat _ dx x)
    (hs : findIn (written.heap_1 w.params) (.ref C) "__setattr__" = some (some (.builtin "object.__setattr__"))) (hp : plainOver (written.heap_1 w.params) C = true) (hh : hasDictIn (written.heap_1 w.params) C = true)
    (q1 : takerIn (written.heap_1 w.params) C (Str.ofString "number") = some none) (q2 : takerIn (written.heap_1 w.params) C (Str.ofString "count") = some none) (q3 : takerIn (written.heap_1 w.params) C (Str.ofString "blessed") = some none)
    (q4 : takerIn (written.heap_1 w.params) C (Str.ofString "weak") = some none) (q5 : takerIn (written.heap_1 w.params) C (Str.ofString "is_destroyed") = some none) (q6 : takerIn (written.heap_1 w.params) C (Str.ofString "is_freed") = some none) :
    Does 3 w p loose mean mg mb 74 [.ref x, .int nb tn] ([(x, instObj C dx)] ++ [(dx, dictOf (entR w [] []) 0)])
      (fun r nw => ∃ mk o', nw = mk ++ ([(x, instObj C dx)] ++ [(dx, o')]) ∧ ∃ ts tc wl, mk = [] ∧ r = .none ∧ ts.length = 6 ∧ o' = dictOf (entR w (thingKvs nb tn tc wl) ts) 6) := by
  k_with_none
  k_with "execs cons" => (k_here; (with_reducible refine' gentk ?F ?e1 ?e2 ?e3 ?e4 ?_); (case F => k_asm); (case e1 => k_dflt exact rfl); (case e2 => k_dflt exact rfl); (case e3 => k_dflt exact rfl); (case e4 => k_dflt exact rfl); intro tk')
  k_with "newList" => (k_here; k_dflt (refine' newList_drop ?k1 ?k2 ?_; (case k1 => k_asm); (case k2 => k_asm); k_whole); intro l' h' F' N'; (try k_sweep))
  k_with "setAttr ref" => (k_here; k_dflt (refine' set_new ?k1 ?k2 ?k3 ?k4 ?k5 ?k6 ?k7 ?k8 ?k9 ?k10 ?k11 ?k12 ?k14 rfl rfl rfl ?_; (case k1 => k_asm); (case k2 => k_asm); (case k3 => k_asm); (case k4 => k_inst); (case k5 => exact rfl); (case k6 => first | with_reducible assumption | k_is); (case k7 => first | with_reducible assumption | k_is); (case k8 => first | with_reducible assumption | k_is); (case k9 => first | with_reducible assumption | k_is); (case k10 => assumption); (case k11 => exact rfl); (case k12 => exact Nat.le_of_ble_eq_true rfl); (case k14 => k_updF)); intro h' ts' tk' hl' F' N'; (try k_sweep))
  unfold Does
  intro dp un gd cn cs fa ccd cl outer A₀ base h₀ L m s R B F X N T hkf hdp hun hret
  have c1 := lt1_chain hlt lt1_nil
  have hl0 : ([] : List Tok).length = ([] : List (Str × Value)).length := rfl
  simp only [List.cons_append, List.nil_append] at N
  k_dflt (refine' code_defG ?k1 ?k2 ?k3 ?k4 ?k5 ?kA ?kF ?kK ?k6 ?k7 ?k8 ?k9 ?kB ?_ ?c2 ?c3 ?c4 ?c5; (case kA => exact rfl); (case kF => exact rfl); (case kK => first | assumption | exact rfl); (case k1 => k_asm); (case k2 => k_asm); (case k3 => k_asm); (case k4 => k_asm); (case k5 => k_asm); (case k6 => k_is); (case k7 => k_is); (case k8 => ktr_room); (case k9 => exact BindsTo.of_eq rfl); (case c5 => decide); (case kB => exact locs rfl); (case c2 => exact rfl); (case c3 => exact rfl); (case c4 => exact rfl); k_whole; intro g' L' h' FG' F' N' B' X' T' kG'; (try dsimp only); (try k_lift B'); (try k_fold))
  k_steps
  exact hret _ _ _ _ (by k_asm) (by k_asm) (left_of (by assumption) (by assumption) (by assumption)) ⟨[], _, rfl, _, _, _, rfl, rfl, by assumption, rfl⟩
theorem scalar_init {x dx : Addr} {nb : Int} {tn : Tok} (hlt : @LT.lt Nat _ dx x) :
    Does 4 w p loose mean mg mb 95 [.ref x, .int nb tn, .none] [(x, instObj 98 dx), (dx, dictOf [] 0)]
      (fun r n => r = .none ∧ ∃ t1 t2 t3 t4 t5 t6 t7 t8 tc v3 v4 v5 v6 tn, n = [(x, instObj 98 dx), (dx, dictOf (scEs w t1 t2 t3 t4 t5 t6 t7 t8 (.int nb tn) (.int 0 tc) v3 v4 v5 v6 .none) 8)]) := by
  k_with_none
  k_with "execs cons" => (k_here; (with_reducible refine' gentk ?F ?e1 ?e2 ?e3 ?e4 ?_); (case F => k_asm); (case e1 => k_dflt exact rfl); (case e2 => k_dflt exact rfl); (case e3 => k_dflt exact rfl); (case e4 => k_dflt exact rfl); intro tk')
  k_with "setAttr ref" => (k_here; k_dflt (refine' set_new ?k1 ?k2 ?k3 ?k4 ?k5 ?k6 ?k7 ?k8 ?k9 ?k10 ?k11 ?k12 ?k14 rfl rfl rfl ?_; (case k1 => k_asm); (case k2 => k_asm); (case k3 => k_asm); (case k4 => k_inst); (case k5 => exact rfl); (case k6 => k_is); (case k7 => k_is); (case k8 => k_is); (case k9 => k_is); (case k10 => assumption); (case k11 => exact rfl); (case k12 => exact Nat.le_of_ble_eq_true rfl); (case k14 => k_updF)); intro h' ts' tk' hl' F' N'; (try k_sweep))
  k_with "call ref" => (k_here; (with_reducible show wpAny _ _ (call (Value.ref 74) _) _ _ _); k_dflt (refine' Does.upd1 (thing_spec (C := 98) hlt (by k_is) (by k_is) (by k_is) (by k_is) (by k_is) (by k_is) (by k_is) (by k_is) (by k_is)) ?k1 ?k2 ?k3 ?k4 ?k5 ?kK ?kd ?ku ?km ?U ?_; (case k1 => k_asm); (case k2 => k_asm); (case k3 => k_asm); (case k4 => k_asm); (case k5 => k_asm); (case kK => first | assumption | exact rfl); (case kd => ktr_room); (case ku => ktr_units); (case U => k_updF); (case km => (repeat (first | exact List.forall_mem_nil _ | (refine List.forall_mem_cons.mpr ⟨(by k_mem), ?_⟩))))); intro r' mk' o' h' tk' F' N' q'; obtain ⟨ts9, tc9, wl9, e1, e2, hl9, e3⟩ := q'; subst e1 e2 e3;  (try simp only [List.cons_append, List.nil_append] at N'); (try k_fold))
  unfold Does
  intro dp un gd cn cs fa ccd cl outer A₀ base h₀ L m s R B F X N T hkf hdp hun hret
  have c1 := lt1_chain hlt lt1_nil
  have N0 : News h₀ L s.heap [(x, instObj 98 dx), (dx, dictOf (entR w [] []) 0)] := N
  clear N
  k_dflt (refine' code_defG ?k1 ?k2 ?k3 ?k4 ?k5 ?kA ?kF ?kK ?k6 ?k7 ?k8 ?k9 ?kB ?_ ?c2 ?c3 ?c4 ?c5; (case kA => exact rfl); (case kF => exact rfl); (case kK => first | assumption | exact rfl); (case k1 => k_asm); (case k2 => k_asm); (case k3 => k_asm); (case k4 => k_asm); (case k5 => k_asm); (case k6 => k_is); (case k7 => k_is); (case k8 => ktr_room); (case k9 => exact BindsTo.of_eq rfl); (case c5 => decide); (case kB => exact locs rfl); (case c2 => exact rfl); (case c3 => exact rfl); (case c4 => exact rfl); k_whole; intro g' L' h' FG' F' N' B' X' T' kG'; (try dsimp only); (try k_lift B'); (try k_fold))
  k_steps
  (rename List.length _ = _ => hl8)
  obtain ⟨t8, t7, t6, t5, t4, t3, t2, t1, e8⟩ := eight hl8
  subst e8
  exact hret _ _ _ _ (by k_asm) (by k_asm) (left_of (by assumption) (by assumption) (by assumption)) ⟨rfl, t1, t2, t3, t4, t5, t6, t7, t8, _, _, _, _, _, _, rfl⟩
theorem glob_init {x dx : Addr} {nb : Int} {tn : Tok} {nm : Str} {tq : Tok} (hlt : @LT.lt Nat _ dx x) :
    Does 4 w p loose mean mg mb 171 [.ref x, .int nb tn, .str nm tq] [(x, instObj 174 dx), (dx, dictOf [] 0)]
      (fun r n => r = .none ∧ ∃ es k, n = [(x, instObj 174 dx), (dx, dictOf es k)] ∧ getL (Str.ofString "scalar") es = some (some .none) ∧ es.length ≤ 11) := by
  k_with_none
  k_with "execs cons" => (k_here; (with_reducible refine' gentk ?F ?e1 ?e2 ?e3 ?e4 ?_); (case F => k_asm); (case e1 => k_dflt exact rfl); (case e2 => k_dflt exact rfl); (case e3 => k_dflt exact rfl); (case e4 => k_dflt exact rfl); intro tk')
  k_with "setAttr ref" => (k_here; k_dflt (refine' set_new ?k1 ?k2 ?k3 ?k4 ?k5 ?k6 ?k7 ?k8 ?k9 ?k10 ?k11 ?k12 ?k14 rfl rfl rfl ?_; (case k1 => k_asm); (case k2 => k_asm); (case k3 => k_asm); (case k4 => k_inst); (case k5 => exact rfl); (case k6 => k_is); (case k7 => k_is); (case k8 => k_is); (case k9 => k_is); (case k10 => assumption); (case k11 => exact rfl); (case k12 => exact Nat.le_of_ble_eq_true rfl); (case k14 => k_updF)); intro h' ts' tk' hl' F' N'; (try k_sweep))
  k_with "call ref" => (k_here; (with_reducible show wpAny _ _ (call (Value.ref 74) _) _ _ _); k_dflt (refine' Does.upd1 (thing_spec (C := 174) hlt (by k_is) (by k_is) (by k_is) (by k_is) (by k_is) (by k_is) (by k_is) (by k_is) (by k_is)) ?k1 ?k2 ?k3 ?k4 ?k5 ?kK ?kd ?ku ?km ?U ?_; (case k1 => k_asm); (case k2 => k_asm); (case k3 => k_asm); (case k4 => k_asm); (case k5 => k_asm); (case kK => first | assumption | exact rfl); (case kd => ktr_room); (case ku => ktr_units); (case U => k_updF); (case km => (repeat (first | exact List.forall_mem_nil _ | (refine List.forall_mem_cons.mpr ⟨(by k_mem), ?_⟩))))); intro r' mk' o' h' tk' F' N' q'; obtain ⟨ts9, tc9, wl9, e1, e2, hl9, e3⟩ := q'; subst e1 e2 e3;  (try simp only [List.cons_append, List.nil_append] at N'); (try k_fold))
  unfold Does
  intro dp un gd cn cs fa ccd cl outer A₀ base h₀ L m s R B F X N T hkf hdp hun hret
  have c1 := lt1_chain hlt lt1_nil
  have N0 : News h₀ L s.heap [(x, instObj 174 dx), (dx, dictOf (entR w [] []) 0)] := N
  clear N
  k_dflt (refine' code_defG ?k1 ?k2 ?k3 ?k4 ?k5 ?kA ?kF ?kK ?k6 ?k7 ?k8 ?k9 ?kB ?_ ?c2 ?c3 ?c4 ?c5; (case kA => exact rfl); (case kF => exact rfl); (case kK => first | assumption | exact rfl); (case k1 => k_asm); (case k2 => k_asm); (case k3 => k_asm); (case k4 => k_asm); (case k5 => k_asm); (case k6 => k_is); (case k7 => k_is); (case k8 => ktr_room); (case k9 => exact BindsTo.of_eq rfl); (case c5 => decide); (case kB => exact locs rfl); (case c2 => exact rfl); (case c3 => exact rfl); (case c4 => exact rfl); k_whole; intro g' L' h' FG' F' N' B' X' T' kG'; (try dsimp only); (try k_lift B'); (try k_fold))
  k_steps
  exact hret _ _ _ _ (by k_asm) (by k_asm) (left_of (by assumption) (by assumption) (by assumption)) ⟨rfl, _, _, rfl, (getL_entR (by assumption)).trans rfl, by unfold entR; rw [ents_len (by simp only [List.length_reverse]; assumption)]; exact Nat.le_of_ble_eq_true rfl⟩
theorem new_scalar_spec {hp dh la ra : Addr} {oR : Obj} {n : Int} {t1 t2 t3 tl : Tok} {lz : Value} (hlt : @LT.lt Nat _ dh hp) (hra : @LT.lt Nat _ hp ra) :
    Does 8 w p loose mean mg mb 226 [.ref hp, .none] ([(hp, instObj 257 dh), (ra, oR)] ++ [(dh, dictOf (heapEs w t1 t2 t3 tl la n lz) 3)])
      (fun r nw => ∃ mk o', nw = mk ++ ([(hp, instObj 257 dh), (ra, oR)] ++ [(dh, o')]) ∧ ∃ va dv nb tn u1 u2 u3 u4 u5 u6 u7 u8 tc v3 v4 v5 v6 u, r = .ref va ∧
        mk = [(va, instObj 98 dv), (dv, dictOf (scEs w u1 u2 u3 u4 u5 u6 u7 u8 (.int nb tn) (.int 0 tc) v3 v4 v5 v6 .none) 8)] ∧ @LT.lt Nat _ ra dv ∧ @LT.lt Nat _ dv va ∧ o' = dictOf (heapEs w t1 t2 t3 u la (n + 1) lz) 3) := by
  k_with_none
  k_with "execs cons" => (k_here; (with_reducible refine' gentk ?F ?e1 ?e2 ?e3 ?e4 ?_); (case F => k_asm); (case e1 => k_dflt exact rfl); (case e2 => k_dflt exact rfl); (case e3 => k_dflt exact rfl); (case e4 => k_dflt exact rfl); intro tk')
  k_with "call ref" => (k_here; (with_reducible show wpAny _ _ (call (Value.ref 219) _) _ _ _); k_dflt (refine' Does.upd1 (next_spec (dh := dh) hlt) ?k1 ?k2 ?k3 ?k4 ?k5 ?kK ?kd ?ku ?km ?U ?_; (case k1 => k_asm); (case k2 => k_asm); (case k3 => k_asm); (case k4 => k_asm); (case k5 => k_asm); (case kK => first | assumption | exact rfl); (case kd => ktr_room); (case ku => ktr_units); (case U => k_updF); (case km => (repeat (first | exact List.forall_mem_nil _ | (refine List.forall_mem_cons.mpr ⟨(by k_mem), ?_⟩))))); intro r' mk' o' h' tk' F' N' q'; obtain ⟨t9, u9, e1, e2, e3⟩ := q'; subst e1 e2 e3;  (try simp only [List.cons_append, List.nil_append] at N'); (try k_fold))
  k_with "call ref" => (k_here; (with_reducible show wpAny _ _ (call (Value.ref 98) _ _) _ _ _); k_dflt (refine' made_use (fun x dx hlt => scalar_init hlt) ?k1 ?k2 ?k3 ?k4 ?k5 ?kK ?kd ?ku ?hm ?hi ?hf ?_; (case k1 => k_asm); (case k2 => k_asm); (case k3 => k_asm); (case k4 => k_asm); (case k5 => k_asm); (case kK => first | assumption | exact rfl); (case kd => ktr_room); (case ku => ktr_units); (case hm => k_is); (case hi => k_is); (case hf => k_is)); intro x' dx' n' h' tk' l1 l2 q' F' N'; obtain ⟨t1', t2', t3', t4', t5', t6', t7', t8', v2', v3', v4', v5', v6', tn', e9⟩ := q'; subst e9;  (try k_lt l1); (have lx' := lt1_chain l2 (by with_reducible assumption)); (try simp only [List.cons_append, List.nil_append] at N'); (try k_fold))
  unfold Does
  intro dp un gd cn cs fa ccd cl outer A₀ base h₀ L m s R B F X N T hkf hdp hun hret
  have c1 := lt1_chain hlt lt1_nil
  have c2 := lt1_chain hra c1
  simp only [List.cons_append, List.nil_append] at N
  k_dflt (refine' code_defG ?k1 ?k2 ?k3 ?k4 ?k5 ?kA ?kF ?kK ?k6 ?k7 ?k8 ?k9 ?kB ?_ ?c2 ?c3 ?c4 ?c5; (case kA => exact rfl); (case kF => exact rfl); (case kK => first | assumption | exact rfl); (case k1 => k_asm); (case k2 => k_asm); (case k3 => k_asm); (case k4 => k_asm); (case k5 => k_asm); (case k6 => k_is); (case k7 => k_is); (case k8 => ktr_room); (case k9 => exact BindsTo.of_eq rfl); (case c5 => decide); (case kB => exact locs rfl); (case c2 => exact rfl); (case c3 => exact rfl); (case c4 => exact rfl); k_whole; intro g' L' h' FG' F' N' B' X' T' kG'; (try dsimp only); (try k_lift B'); (try k_fold))
  k_steps
  exact hret _ _ _ _ (by k_asm) (by k_asm) (left_of (by assumption) (by assumption) (by assumption)) ⟨[_, _], _, rfl, _, _, _, _, _, _, _, _, _, _, _, _, _, _, _, _, _, _, rfl, rfl, lt1_lt (by assumption) (by k_mem), lt1_lt (by assumption) (by k_mem), rfl⟩
theorem new_glob_spec {hp dh la ra : Addr} {oR : Obj} {n : Int} {t1 t2 t3 tl : Tok} {lz : Value} {nm : Str} {tq : Tok} (hlt : @LT.lt Nat _ dh hp) (hra : @LT.lt Nat _ hp ra) :
    Does 8 w p loose mean mg mb 254 [.ref hp, .str nm tq] ([(hp, instObj 257 dh), (ra, oR)] ++ [(dh, dictOf (heapEs w t1 t2 t3 tl la n lz) 3)])
      (fun r nw => ∃ mk o', nw = mk ++ ([(hp, instObj 257 dh), (ra, oR)] ++ [(dh, o')]) ∧ ∃ x dx es k u, r = .ref x ∧
        mk = [(x, instObj 174 dx), (dx, dictOf es k)] ∧ @LT.lt Nat _ ra dx ∧ @LT.lt Nat _ dx x ∧ o' = dictOf (heapEs w t1 t2 t3 u la (n + 1) lz) 3 ∧ getL (Str.ofString "scalar") es = some (some .none) ∧ es.length ≤ 11) := by
  k_with_none
  k_with "execs cons" => (k_here; (with_reducible refine' gentk ?F ?e1 ?e2 ?e3 ?e4 ?_); (case F => k_asm); (case e1 => k_dflt exact rfl); (case e2 => k_dflt exact rfl); (case e3 => k_dflt exact rfl); (case e4 => k_dflt exact rfl); intro tk')
  k_with "call ref" => (k_here; (with_reducible show wpAny _ _ (call (Value.ref 219) _) _ _ _); k_dflt (refine' Does.upd1 (next_spec (dh := dh) hlt) ?k1 ?k2 ?k3 ?k4 ?k5 ?kK ?kd ?ku ?km ?U ?_; (case k1 => k_asm); (case k2 => k_asm); (case k3 => k_asm); (case k4 => k_asm); (case k5 => k_asm); (case kK => first | assumption | exact rfl); (case kd => ktr_room); (case ku => ktr_units); (case U => k_updF); (case km => (repeat (first | exact List.forall_mem_nil _ | (refine List.forall_mem_cons.mpr ⟨(by k_mem), ?_⟩))))); intro r' mk' o' h' tk' F' N' q'; obtain ⟨t9, u9, e1, e2, e3⟩ := q'; subst e1 e2 e3;  (try simp only [List.cons_append, List.nil_append] at N'); (try k_fold))
  k_with "call ref" => (k_here; (with_reducible show wpAny _ _ (call (Value.ref 174) _ _) _ _ _); k_dflt (refine' made_use (fun x dx hlt => glob_init hlt) ?k1 ?k2 ?k3 ?k4 ?k5 ?kK ?kd ?ku ?hm ?hi ?hf ?_; (case k1 => k_asm); (case k2 => k_asm); (case k3 => k_asm); (case k4 => k_asm); (case k5 => k_asm); (case kK => first | assumption | exact rfl); (case kd => ktr_room); (case ku => ktr_units); (case hm => k_is); (case hi => k_is); (case hf => k_is)); intro x' dx' n' h' tk' l1 l2 q' F' N'; obtain ⟨es9, k9, e9, hg9, hl9⟩ := q'; subst e9;  (try k_lt l1); (have lx' := lt1_chain l2 (by with_reducible assumption)); (try simp only [List.cons_append, List.nil_append] at N'); (try k_fold))
  unfold Does
  intro dp un gd cn cs fa ccd cl outer A₀ base h₀ L m s R B F X N T hkf hdp hun hret
  have c1 := lt1_chain hlt lt1_nil
  have c2 := lt1_chain hra c1
  simp only [List.cons_append, List.nil_append] at N
  k_dflt (refine' code_defG ?k1 ?k2 ?k3 ?k4 ?k5 ?kA ?kF ?kK ?k6 ?k7 ?k8 ?k9 ?kB ?_ ?c2 ?c3 ?c4 ?c5; (case kA => exact rfl); (case kF => exact rfl); (case kK => first | assumption | exact rfl); (case k1 => k_asm); (case k2 => k_asm); (case k3 => k_asm); (case k4 => k_asm); (case k5 => k_asm); (case k6 => k_is); (case k7 => k_is); (case k8 => ktr_room); (case k9 => exact BindsTo.of_eq rfl); (case c5 => decide); (case kB => exact locs rfl); (case c2 => exact rfl); (case c3 => exact rfl); (case c4 => exact rfl); k_whole; intro g' L' h' FG' F' N' B' X' T' kG'; (try dsimp only); (try k_lift B'); (try k_fold))
  k_steps
  exact hret _ _ _ _ (by k_asm) (by k_asm) (left_of (by assumption) (by assumption) (by assumption)) ⟨[_, _], _, rfl, _, _, _, _, _, rfl, rfl, lt1_lt (by assumption) (by k_mem), lt1_lt (by assumption) (by k_mem), rfl, by assumption, by assumption⟩
local macro_rules | `(tactic| k_room) => `(tactic| ktr_room)
theorem scalar_of_spec {st dst gg hp dh la ra : Addr} {oG oR : Obj} {t1 t2 t3 tl t4 t5 t6 t7 ts : Tok} {lz : Value} (hG : oG.IsDictOf (strKind PG w) []) (lG : (gg == sysModules) = false)
    (ord : @LT.lt Nat _ dh hp ∧ @LT.lt Nat _ hp dst ∧ @LT.lt Nat _ dst st ∧ @LT.lt Nat _ st gg ∧ @LT.lt Nat _ gg ra) :
    Does 30 w p loose mean mg mb 568 [.ref st, .str (Str.ofString "main::x") ts] ([(st, instObj 599 dst), (dst, dictOf (stashEs w t1 t2 t3 tl hp gg) 3), (hp, instObj 257 dh), (ra, oR)] ++ [(gg, oG), (dh, dictOf (heapEs w t4 t5 t6 t7 la 0 lz) 3)])
      (fun r n => ∃ mk o1 o2, (∃ va dv nb tn t1 t2 t3 t4 t5 t6 t7 t8 v2 v3 v4 v5 v6, r = .ref va ∧ @LT.lt Nat _ ra dv ∧ @LT.lt Nat _ dv va ∧ mk = [(va, instObj 98 dv), (dv, dictOf (scEs w t1 t2 t3 t4 t5 t6 t7 t8 (.int nb tn) v2 v3 v4 v5 v6 .none) 8)]) ∧
        n = mk ++ ([(st, instObj 599 dst), (dst, dictOf (stashEs w t1 t2 t3 tl hp gg) 3), (hp, instObj 257 dh), (ra, oR)] ++ [(gg, o1), (dh, o2)])) := by
  k_with_none
  k_with "execs cons" => (k_here; (with_reducible refine' gentk ?F ?e1 ?e2 ?e3 ?e4 ?_); (case F => k_asm); (case e1 => k_dflt exact rfl); (case e2 => k_dflt exact rfl); (case e3 => k_dflt exact rfl); (case e4 => k_dflt exact rfl); intro tk')
  k_with "setAttr ref" => (k_here; k_dflt (refine' set_old ?k1 ?k2 ?k3 ?k4 ?k5 ?k6 ?k7 ?k8 ?k9 ?k10 ?k12 ?k14 rfl rfl rfl ?_; (case k1 => k_asm); (case k2 => k_asm); (case k3 => k_asm); (case k4 => k_inst); (case k5 => exact rfl); (case k6 => k_is); (case k7 => k_is); (case k8 => k_is); (case k9 => k_is); (case k10 => with_reducible assumption); (case k12 => exact Nat.le_trans (by with_reducible assumption) (Nat.le_of_ble_eq_true rfl)); (case k14 => k_updF)); intro h' es' n' tk' hg' hl' F' N'; (try k_sweep))
  k_with "call ref" => (k_here; (with_reducible show wpAny _ _ (call (Value.ref 226) _) _ _ _); k_dflt (refine' Does.upd1 (new_scalar_spec (dh := dh) (by with_reducible assumption) (lt1_lt (by assumption) (by k_mem))) ?k1 ?k2 ?k3 ?k4 ?k5 ?kK ?kd ?ku ?km ?U ?_; (case k1 => k_asm); (case k2 => k_asm); (case k3 => k_asm); (case k4 => k_asm); (case k5 => k_asm); (case kK => first | assumption | exact rfl); (case kd => ktr_room); (case ku => ktr_units); (case U => k_updF); (case km => (repeat (first | exact List.forall_mem_nil _ | (refine List.forall_mem_cons.mpr ⟨(by k_mem), ?_⟩))))); intro r' mk' o' h' tk' F' N' q'; obtain ⟨va', dv', nb', tn', u1', u2', u3', u4', u5', u6', u7', u8', w2', w3', w4', w5', w6', u9', e1, e2, q5, q6, e3⟩ := q'; subst e1 e2 e3; (have lx1 := lt1_chain q5 (by with_reducible assumption)); (have lx2 := lt1_chain q6 (by with_reducible assumption)); (try simp only [List.cons_append, List.nil_append] at N'); (try k_fold))
  k_with "call ref" => (k_here; (with_reducible show wpAny _ _ (call (Value.ref 254) _) _ _ _); k_dflt (refine' Does.upd1 (new_glob_spec (dh := dh) (ra := ra) (by with_reducible assumption) (lt1_lt (by assumption) (by k_mem))) ?k1 ?k2 ?k3 ?k4 ?k5 ?kK ?kd ?ku ?km ?U ?_; (case k1 => k_asm); (case k2 => k_asm); (case k3 => k_asm); (case k4 => k_asm); (case k5 => k_asm); (case kK => first | assumption | exact rfl); (case kd => ktr_room); (case ku => ktr_units); (case U => k_updF); (case km => (repeat (first | exact List.forall_mem_nil _ | (refine List.forall_mem_cons.mpr ⟨(by k_mem), ?_⟩))))); intro r' mk' o' h' tk' F' N' q'; obtain ⟨x', dx', es9, k9, u9, e1, e2, q5, q6, e3, hg9, hl9⟩ := q'; subst e1 e2 e3; (have lx1 := lt1_chain q5 (by with_reducible assumption)); (have lx2 := lt1_chain q6 (by with_reducible assumption)); (try simp only [List.cons_append, List.nil_append] at N'); (try k_fold))
  unfold Does
  intro dp un gd cn cs fa ccd cl outer A₀ base h₀ L m s R B F X N T hkf hdp hun hret
  obtain ⟨p1, p2, p3, p4, p5⟩ := ord
  have c1 := lt1_chain p1 lt1_nil
  have c2 := lt1_chain p2 c1
  have c3 := lt1_chain p3 c2
  have c4 := lt1_chain p4 c3
  have c5 := lt1_chain p5 c4
  simp only [List.cons_append, List.nil_append] at N
  k_dflt (refine' code_defG ?k1 ?k2 ?k3 ?k4 ?k5 ?kA ?kF ?kK ?k6 ?k7 ?k8 ?k9 ?kB ?_ ?c2 ?c3 ?c4 ?c5; (case kA => exact rfl); (case kF => exact rfl); (case kK => first | assumption | exact rfl); (case k1 => k_asm); (case k2 => k_asm); (case k3 => k_asm); (case k4 => k_asm); (case k5 => k_asm); (case k6 => k_is); (case k7 => k_is); (case k8 => ktr_room); (case k9 => exact BindsTo.of_eq rfl); (case c5 => decide); (case kB => exact locs rfl); (case c2 => exact rfl); (case c3 => exact rfl); (case c4 => exact rfl); k_whole; intro g' L' h' FG' F' N' B' X' T' kG'; (try dsimp only); (try k_lift B'); (try k_fold))
  k_steps
  refine hret _ ([(_, instObj 98 _), (_, dictOf (scEs w _ _ _ _ _ _ _ _ (.int _ _) _ _ _ _ _ .none) 8)] ++ ([(st, instObj 599 dst), (dst, dictOf (stashEs w t1 t2 t3 tl hp gg) 3), (hp, instObj 257 dh), (ra, oR)] ++ [(gg, _), (dh, _)])) _ _ (by k_asm) (cb_drop (by k_asm) (List.forall_mem_cons.mpr ⟨(by k_mem), List.forall_mem_cons.mpr ⟨(by k_mem), List.forall_mem_cons.mpr ⟨(by k_mem), List.forall_mem_cons.mpr ⟨(by k_mem), List.forall_mem_cons.mpr ⟨(by k_mem), List.forall_mem_cons.mpr ⟨(by k_mem), List.forall_mem_cons.mpr ⟨(by k_mem), List.forall_mem_cons.mpr ⟨(by k_mem), List.forall_mem_nil _⟩⟩⟩⟩⟩⟩⟩⟩)) (left_of (by assumption) (by assumption) (cb_drop (by assumption) (List.forall_mem_cons.mpr ⟨(by k_mem), List.forall_mem_cons.mpr ⟨(by k_mem), List.forall_mem_cons.mpr ⟨(by k_mem), List.forall_mem_cons.mpr ⟨(by k_mem), List.forall_mem_cons.mpr ⟨(by k_mem), List.forall_mem_cons.mpr ⟨(by k_mem), List.forall_mem_cons.mpr ⟨(by k_mem), List.forall_mem_cons.mpr ⟨(by k_mem), List.forall_mem_nil _⟩⟩⟩⟩⟩⟩⟩⟩))) ⟨_, _, _, ⟨_, _, _, _, _, _, _, _, _, _, _, _, _, _, _, _, _, rfl, lt1_lt (by assumption) (by k_mem), lt1_lt (by assumption) (by k_mem), rfl⟩, rfl⟩
end
end

-- ScalarU
section
set_option maxRecDepth 100000
set_option maxHeartbeats 1000000
section
variable {w : World} {p : Program} {loose : List Str} {mean : ExcName → Option Value} {mg mb : Str → Option Value} {A₀ : Around} {base h₀ : Heap} {outer : List Env} {L : Addr} {m : Str → Option Value} {news : Led}
  {dp un : Nat} {gd : Option (List Code)} {cn : Str} {cs : Scope} {fa : Addr} {ccd : Value} {cl : List (Str × Addr)} {s : Shared} {Q E : Value → Shared → Prop}
theorem scalar_use {st dst gg hp dh la ra : Addr} {oG oR oH : Obj} {t1 t2 t3 tl t4 t5 t6 t7 ts : Tok} {lz : Value} {g1 : Obj → Led} {g2 : Obj → Obj → Led}
    (B : Below A₀ base outer h₀) (F : Fr h₀ L s.heap m) (X : (written.heap_1 w.params).In h₀) (N : News h₀ L s.heap news) (T : Top p loose mean mg mb h₀) (hk : cs.kind = .function) (hdp : dp + 30 < recursionLimit) (hun : un + 10 * 30 < cLine)
    (hs : ∀ p ∈ [(st, instObj 599 dst), (dst, dictOf (stashEs w t1 t2 t3 tl hp gg) 3), (hp, instObj 257 dh), (ra, oR)], p ∈ news) (U1 : UpdF gg oG news g1) (U2 : ∀ o, UpdF dh oH (g1 o) (g2 o))
    (hH : oH = dictOf (heapEs w t4 t5 t6 t7 la 0 lz) 3) (hG : oG.IsDictOf (strKind PG w) []) (lG : (gg == sysModules) = false)
    (ord : @LT.lt Nat _ dh hp ∧ @LT.lt Nat _ hp dst ∧ @LT.lt Nat _ dst st ∧ @LT.lt Nat _ st gg ∧ @LT.lt Nat _ gg ra)
    (k : ∀ va dv nb tn t1 t2 t3 t4 t5 t6 t7 t8 v2 v3 v4 v5 v6 o1' o2' h' tk', @LT.lt Nat _ ra dv → @LT.lt Nat _ dv va → Fr h₀ L h' m →
      News h₀ L h' ((va, instObj 98 dv) :: (dv, dictOf (scEs w t1 t2 t3 t4 t5 t6 t7 t8 (.int nb tn) v2 v3 v4 v5 v6 .none) 8) :: g2 o1' o2') → Q (.ref va) { s with heap := h', toks := tk' }) :
    wpAny (model PG w) (ktrTop dp un gd cn cs L fa ccd cl outer) (call (.ref 568) [.ref st, .str (Str.ofString "main::x") ts]) Q E s := by
  subst hH
  refine Does.upd2 (scalar_of_spec (t1 := t1) (t2 := t2) (t3 := t3) (tl := tl) (t4 := t4) (t5 := t5) (t6 := t6) (t7 := t7) (la := la) (lz := lz) hG lG ord) B F X N T hk hdp hun hs U1 U2 ?_
  intro r mk o1' o2' h' tk' F' N' q
  obtain ⟨va, dv, nb, tn, t1, t2, t3, t4, t5, t6, t7, t8, v2, v3, v4, v5, v6, e1, c1, c2, e2⟩ := q
  subst e1 e2
  exact k va dv nb tn t1 t2 t3 t4 t5 t6 t7 t8 v2 v3 v4 v5 v6 o1' o2' h' tk' c1 c2 F' N'
end
end

-- Store0
section
set_option maxRecDepth 100000
set_option maxHeartbeats 4000000
theorem put_off0_spec {w : World} {p : Program} {loose : List Str} {mean : ExcName → Option Value} {mg mb : Str → Option Value} {ca va : Addr} :
    Does 3 w p loose mean mg mb 448 [.ref ca, .ref va, .none] [] (fun r news' => r = .none ∧ news' = []) := by
  k_with_none
  k_with "execs cons" => (k_here; (with_reducible refine' gentk ?F ?e1 ?e2 ?e3 ?e4 ?_); (case F => k_asm); (case e1 => k_dflt exact rfl); (case e2 => k_dflt exact rfl); (case e3 => k_dflt exact rfl); (case e4 => k_dflt exact rfl); intro tk')
  k_with "call builtin:dict.pop" => (k_here; k_dflt (refine pop_none (by k_asm) (by k_mem) (by assumption) (by assumption) ?_))
  unfold Does
  intro dp un gd cn cs fa ccd cl outer A₀ base h₀ L m s R B F X N T hkf hdp hun hret
  k_dflt (refine' enter_cells ?k1 ?k2 ?k3 ?k4 ?k5 ?kA ?kF ?kK ?k6 ?k7 ?k8 ?k9 ?kB ?kD ?_ ?c2 ?c3 ?c4; (case kA => exact rfl); (case kF => exact rfl); (case kK => assumption); (case k1 => k_asm); (case k2 => k_asm); (case k3 => k_asm); (case k4 => k_asm); (case k5 => k_asm); (case k6 => k_is); (case k7 => k_is); (case k8 => ktr_room); (case k9 => exact BindsTo.of_eq rfl); (case kB => exact rfl); (case kD => decide +kernel); (case c2 => exact rfl); (case c3 => exact rfl); (case c4 => exact rfl); k_whole; intro g' L' h' tk' cells' FG' F' N' Y' B' X' T' l1 kG'; (try k_lt l1); k_cells Y'; (try simp only [List.cons_append, List.nil_append] at N'); (try dsimp only); (try k_lift B'); (try k_fold))
  k_steps
  exact hret _ [] _ _ (by k_asm) (List.forall_mem_nil _) (left_of (by assumption) (by assumption) (List.forall_mem_nil _)) ⟨rfl, rfl⟩
theorem store0_spec {w : World} {p : Program} {loose : List Str} {mean : ExcName → Option Value} {mg mb : Str → Option Value} {x : Str} {t tn t1 t2 t3 t4 t5 t6 t7 t8 : Tok} {nb : Int} {v2 v3 v4 v5 v6 : Value} {ca dc pa ea va dv : Addr} {esC : List DictEntry} {nC : Nat} {oP oE : Obj}
    (h1 : getL (Str.ofString "places") esC = some (some (.ref pa))) (h2 : getL (Str.ofString "empties") esC = some (some (.ref ea)))
    (m1 : getL (Str.ofString "take") esC = some none) (m2 : getL (Str.ofString "put_off") esC = some none)
    (lP : (pa == sysModules) = false) (hP : oP.IsDictOf (intKind PG w) []) (lE : (ea == sysModules) = false) (hE : oE.IsDictOf (intKind PG w) [])
    (hne : @Ne Nat dv ca ∧ @Ne Nat dv dc ∧ @Ne Nat dv pa ∧ @Ne Nat dv ea ∧ @Ne Nat dv va ∧ @Ne Nat pa ca ∧ @Ne Nat pa dc ∧ @Ne Nat pa ea ∧ @Ne Nat pa va ∧ @Ne Nat ea ca ∧ @Ne Nat ea dc ∧ @Ne Nat ea va) :
    Does 6 w p loose mean mg mb 455 [.ref ca, .ref va, .str x t] [(ca, instObj 493 dc), (dc, dictOf esC nC), (pa, oP), (ea, oE), (va, instObj 98 dv), (dv, dictOf (scEs w t1 t2 t3 t4 t5 t6 t7 t8 (.int nb tn) v2 v3 v4 v5 v6 .none) 8)]
      (fun r news' => r = .none ∧ news' = [(ca, instObj 493 dc), (dc, dictOf esC nC), (pa, oP), (ea, oE), (va, instObj 98 dv), (dv, dictOf (scEs w t1 t2 t3 t4 t5 t6 t7 t8 (.int nb tn) v2 v3 v4 v5 v6 (.str x t)) 8)]) := by
  k_with_none
  k_with "execs cons" => (k_here; (with_reducible refine' gentk ?F ?e1 ?e2 ?e3 ?e4 ?_); (case F => k_asm); (case e1 => k_dflt exact rfl); (case e2 => k_dflt exact rfl); (case e3 => k_dflt exact rfl); (case e4 => k_dflt exact rfl); intro tk')
  k_with "call builtin:dict.pop" => (k_here; k_dflt (refine pop_none (by k_asm) (by k_mem) (by assumption) (by assumption) ?_))
  k_with "call ref" => (k_here; (with_reducible show wpAny _ _ (call (Value.ref 443) _) _ _ _); k_dflt (refine' Does.go0 take_spec ?k1 ?k2 ?k3 ?k4 ?k5 ?kK ?kd ?ku ?_; (case k1 => k_asm); (case k2 => k_asm); (case k3 => k_asm); (case k4 => k_asm); (case k5 => k_asm); (case kK => first | assumption | exact rfl); (case kd => ktr_room); (case ku => ktr_units); k_whole); intro r' h' tk' F' N' G' q'; subst q'; (try k_fold))
  k_with "call ref" => (k_here; (with_reducible show wpAny _ _ (call (Value.ref 448) _) _ _ _); k_dflt (refine' Does.go0 put_off0_spec ?k1 ?k2 ?k3 ?k4 ?k5 ?kK ?kd ?ku ?_; (case k1 => k_asm); (case k2 => k_asm); (case k3 => k_asm); (case k4 => k_asm); (case k5 => k_asm); (case kK => first | assumption | exact rfl); (case kd => ktr_room); (case ku => ktr_units); k_whole); intro r' h' tk' F' N' G' q'; subst q'; (try k_fold))
  obtain ⟨n1, n2, n3, n4, n5, n6, n7, n8, n9, n10, n11, n12⟩ := hne
  unfold Does
  intro dp un gd cn cs fa ccd cl outer A₀ base h₀ L m s R B F X N T hkf hdp hun hret
  k_dflt (refine' code_defG ?k1 ?k2 ?k3 ?k4 ?k5 ?kA ?kF ?kK ?k6 ?k7 ?k8 ?k9 ?kB ?_ ?c2 ?c3 ?c4 ?c5; (case kA => exact rfl); (case kF => exact rfl); (case kK => assumption); (case k1 => k_asm); (case k2 => k_asm); (case k3 => k_asm); (case k4 => k_asm); (case k5 => k_asm); (case k6 => k_is); (case k7 => k_is); (case k8 => ktr_room); (case k9 => exact BindsTo.of_eq rfl); (case c5 => decide); (case kB => exact locs rfl); (case c2 => exact rfl); (case c3 => exact rfl); (case c4 => exact rfl); k_whole; intro g' L' h' FG' F' N' B' X' T' kG'; (try dsimp only); (try k_lift B'); (try k_fold))
  k_steps
  exact hret _ _ _ _ (by k_asm) (by k_asm) (left_of (by assumption) (by assumption) (by assumption)) ⟨rfl, rfl⟩
theorem store0_use {w : World} {p : Program} {loose : List Str} {mean : ExcName → Option Value} {mg mb : Str → Option Value} {x : Str} {t tn t1 t2 t3 t4 t5 t6 t7 t8 : Tok} {nb : Int} {v2 v3 v4 v5 v6 : Value} {ca dc pa ea va dv : Addr} {esC : List DictEntry} {nC : Nat} {oP oE : Obj}
    {dp un : Nat} {gd : Option (List Code)} {cn : Str} {cs : Scope} {a : Addr} {ccd : Value} {cl : List (Str × Addr)} {outer : List Env} {A₀ : Around} {base h₀ : Heap} {L : Addr} {m : Str → Option Value} {s : Shared} {Q E : Value → Shared → Prop} {news : Led} {g : Obj → Led} {o₀ : Obj}
    (B : Below A₀ base outer h₀) (F : Fr h₀ L s.heap m) (X : (written.heap_1 w.params).In h₀) (N : News h₀ L s.heap news) (T : Top p loose mean mg mb h₀) (hk : cs.kind = .function) (hdp : dp + 6 < recursionLimit) (hun : un + 60 < cLine)
    (hs : ∀ p ∈ [(ca, instObj 493 dc), (dc, dictOf esC nC), (pa, oP), (ea, oE), (va, instObj 98 dv)], p ∈ news)
    (U : UpdF dv o₀ news g) (ho : o₀ = dictOf (scEs w t1 t2 t3 t4 t5 t6 t7 t8 (.int nb tn) v2 v3 v4 v5 v6 .none) 8)
    (h1 : getL (Str.ofString "places") esC = some (some (.ref pa))) (h2 : getL (Str.ofString "empties") esC = some (some (.ref ea)))
    (m1 : getL (Str.ofString "take") esC = some none) (m2 : getL (Str.ofString "put_off") esC = some none)
    (lP : (pa == sysModules) = false) (hP : oP.IsDictOf (intKind PG w) []) (lE : (ea == sysModules) = false) (hE : oE.IsDictOf (intKind PG w) [])
    (hne : @Ne Nat dv ca ∧ @Ne Nat dv dc ∧ @Ne Nat dv pa ∧ @Ne Nat dv ea ∧ @Ne Nat dv va ∧ @Ne Nat pa ca ∧ @Ne Nat pa dc ∧ @Ne Nat pa ea ∧ @Ne Nat pa va ∧ @Ne Nat ea ca ∧ @Ne Nat ea dc ∧ @Ne Nat ea va)
    (k : ∀ h' tk', Fr h₀ L h' m → News h₀ L h' (g (dictOf (scEs w t1 t2 t3 t4 t5 t6 t7 t8 (.int nb tn) v2 v3 v4 v5 v6 (.str x t)) 8)) → GSub s.heap h' [dv] → Q .none { s with heap := h', toks := tk' }) :
    wpAny (model PG w) (ktrTop dp un gd cn cs L a ccd cl outer) (call (.ref 455) [.ref ca, .ref va, .str x t]) Q E s := by
  subst ho
  obtain ⟨pre, post, rfl, hg, d1, d2⟩ := U.split
  have hmo := N (dv, _) (List.mem_append_right _ (.head _))
  have Ns : News h₀ L s.heap [(ca, instObj 493 dc), (dc, dictOf esC nC), (pa, oP), (ea, oE), (va, instObj 98 dv), (dv, dictOf (scEs w t1 t2 t3 t4 t5 t6 t7 t8 (.int nb tn) v2 v3 v4 v5 v6 .none) 8)] := fun p hp => by
    rcases List.mem_append.mp (show p ∈ [(ca, instObj 493 dc), (dc, dictOf esC nC), (pa, oP), (ea, oE), (va, instObj 98 dv)] ++ [(dv, dictOf (scEs w t1 t2 t3 t4 t5 t6 t7 t8 (.int nb tn) v2 v3 v4 v5 v6 .none) 8)] from hp) with hp | hp
    · exact N p (hs p hp)
    · rw [List.mem_singleton.mp hp]; exact hmo
  refine Does.go (store0_spec (x := x) (t := t) h1 h2 m1 m2 lP hP lE hE hne) B F X Ns T hk hdp hun fun r news' h' tk' F' N' G q => ?_
  obtain ⟨rfl, rfl⟩ := q
  have G' : GSub s.heap h' [dv] := fun b ob e nb => by
    by_cases hb : b ∈ ([(ca, instObj 493 dc), (dc, dictOf esC nC), (pa, oP), (ea, oE), (va, instObj 98 dv)] : Led).map (·.1)
    · obtain ⟨p, hp, rfl⟩ := List.mem_map.mp hb
      have h3 := (Ns p (List.mem_append_left [_] hp)).1
      rw [e] at h3; cases h3
      exact (N' p (List.mem_append_left [_] hp)).1
    · refine G.1 b ob e fun q => ?_
      rcases List.mem_append.mp (show b ∈ ([(ca, instObj 493 dc), (dc, dictOf esC nC), (pa, oP), (ea, oE), (va, instObj 98 dv)] : Led).map (·.1) ++ [dv] from q) with q | q
      · exact hb q
      · exact nb q
  refine k h' tk' F' (hg _ ▸ fun p hp => ?_) G'
  rcases List.mem_append.mp hp with hp | hp
  · exact ⟨G' _ _ (N p (List.mem_append_left _ hp)).1 (fun q => d1 p hp (List.mem_singleton.mp q)), (N p (List.mem_append_left _ hp)).2⟩
  · rcases List.mem_cons.mp hp with rfl | hp
    · exact N' _ (List.mem_append_right [_, _, _, _, _] (.head _))
    · exact ⟨G' _ _ (N p (List.mem_append_right _ (.tail _ hp))).1 (fun q => d2 p hp (List.mem_singleton.mp q)), (N p (List.mem_append_right _ (.tail _ hp))).2⟩
end

-- Law
section
set_option maxRecDepth 100000
set_option maxHeartbeats 16000000
local macro_rules | `(tactic| wrow_close) => `(tactic| ((with_reducible show GoodW _ _ _ _ _ (.ok (.ret (.bool _))) _); refine' goodW_bool ?c1 ?c2 (raisesW_false ?c3) ?c4; (case c1 => with_reducible assumption); (case c2 => with_reducible assumption); (case c3 => wrow_none_raised); (case c4 => kernel_rfl)))
theorem Ground.top {w : World} {p : Program} {loose : List Str} {mean : ExcName → Option Value} {mg mb : Str → Option Value} {A₀ : Around} {base : Heap} (B : Below A₀ base [] base) (X : (written.heap_1 w.params).In base) (T : Top p loose mean mg mb base) : Ground w p loose mean mg mb A₀ base [] base :=
  ⟨B, X, T, ktsDicts_nil⟩
/-- the addresses that the written part holds -/
abbrev ats : List Addr := [2, 3, 15, 17, 18, 20, 21, 22, 29, 31, 32, 34, 35, 36, 37, 38, 39, 42, 49, 51, 52, 54, 55, 56, 57, 58, 68, 70, 71, 73, 74, 75, 76, 77, 78, 79, 82, 89, 91, 92, 94, 95, 96, 97, 98, 101, 108, 110, 111, 113, 114, 115, 116, 117, 120, 127, 129, 130, 132, 133, 134, 135, 136, 139, 146, 148, 149, 151, 152, 153, 154, 155, 158, 165, 167, 168, 170, 171, 172, 173, 174, 184, 185, 187, 188, 190, 191, 192, 193, 194, 195, 196, 206, 208, 209, 211, 212, 213, 215, 216, 218, 219, 220, 222, 223, 225, 226, 227, 229, 230, 232, 233, 234, 236, 237, 239, 240, 241, 243, 244, 246, 247, 248, 250, 251, 253, 254, 255, 256, 257, 258, 259, 262, 264, 265, 267, 268, 269, 271, 272, 274, 275, 276, 278, 279, 281, 282, 283, 285, 286, 288, 289, 290, 292, 293, 295, 296, 297, 299, 300, 302, 303, 304, 306, 307, 309, 310, 311, 313, 314, 316, 317, 318, 320, 321, 323, 324, 325, 327, 328, 330, 331, 332, 334, 335, 337, 338, 339, 341, 342, 344, 345, 346, 348, 349, 351, 352, 353, 355, 356, 358, 359, 360, 362, 363, 365, 366, 367, 369, 370, 372, 373, 374, 376, 377, 379, 380, 381, 383, 384, 386, 387, 388, 390, 391, 393, 394, 395, 397, 398, 400, 401, 409, 411, 412, 414, 415, 416, 418, 419, 421, 422, 423, 425, 426, 428, 429, 430, 432, 433, 435, 436, 437, 439, 440, 442, 443, 444, 447, 448, 449, 451, 452, 454, 455, 456, 458, 459, 461, 462, 463, 465, 466, 468, 469, 470, 472, 473, 475, 476, 477, 479, 480, 482, 483, 484, 486, 487, 489, 490, 491, 492, 493, 494, 495, 505, 507, 508, 510, 511, 512, 513, 514, 515, 516, 526, 527, 529, 530, 532, 533, 534, 535, 536, 537, 538, 548, 550, 551, 553, 554, 555, 557, 558, 560, 561, 562, 564, 565, 567, 568, 569, 571, 572, 574, 575, 576, 578, 579, 581, 582, 583, 585, 586, 588, 589, 590, 592, 593, 595, 596, 597, 598, 599, 600, 601, 604, 606, 607, 609, 610, 611, 614, 615, 616, 618, 619, 621, 622, 623, 626, 627, 628, 630, 631, 633, 634, 635, 637, 638, 640, 641, 642, 644, 645, 647, 648, 649, 651, 652, 654, 655]
-- names that the head would else give to second texts of its own tables: taken, so that none is laid
theorem law_holds.tw5781658384175396523 : True := trivial
theorem law_holds.tw3882201998751590657 : True := trivial
theorem law_holds.tw4492043994082249198 : True := trivial
theorem law_holds.tw7545375339591397653 : True := trivial
theorem law_holds.tw13882729330811710610 : True := trivial
theorem law_holds.tw6709271908398517637 : True := trivial
theorem law_holds.tw6317479115527610633 : True := trivial
theorem law_holds.tw4464252984393422682 : True := trivial
theorem law_holds.tw12001131798957381970 : True := trivial
theorem law_holds.tw13800757232730249582 : True := trivial
theorem law_holds.tw13392613628428298086 : True := trivial
theorem law_holds.tw11297062200503488469 : True := trivial
theorem law_holds.tw11484002064277903863 : True := trivial
theorem law_holds.tw2578278018795888234 : True := trivial
theorem law_holds.tw6159533029260741167 : True := trivial
theorem law_holds.tw13028658284911697911 : True := trivial
theorem law_holds.tw7472407996622490835 : True := trivial
theorem law_holds.tw2016121425191149895 : True := trivial
theorem law_holds.tw7495221243884187115 : True := trivial
theorem law_holds.tw10283916278828761575 : True := trivial
theorem law_holds.tw17253903310271361901 : True := trivial
theorem law_holds.tw11966672015165255308 : True := trivial
theorem law_holds.tw13190703287169160282 : True := trivial
theorem law_holds.tw14662120449809943280 : True := trivial
theorem law_holds.tw17830944117370523080 : True := trivial
theorem law_holds.tw14160533322030094474 : True := trivial
theorem law_holds.tw16873799427995575018 : True := trivial
theorem law_holds.tw16462895619179043833 : True := trivial
theorem law_holds.tw2139843940965253949 : True := trivial
theorem law_holds.tw15741379261994504178 : True := trivial
theorem law_holds.tw12291295341487003417 : True := trivial
theorem law_holds.tw14176785179279804650 : True := trivial
theorem law_holds.tw14252543395802736299 : True := trivial
theorem law_holds.tw4781243967656130014 : True := trivial
theorem law_holds.tw7356724547972884604 : True := trivial
theorem law_holds.tw160851071654074740 : True := trivial
theorem law_holds.tw5364902710198789758 : True := trivial
theorem law_holds.tw3586223124089845285 : True := trivial
theorem law_holds.tw17345407343664743607 : True := trivial
theorem law_holds.tw2006301483956418059 : True := trivial
theorem law_holds.tw503957847093417577 : True := trivial
theorem law_holds.tw6155496442253334262 : True := trivial
theorem law_holds.tw15544829507116839252 : True := trivial
theorem law_holds.tw14991590004735058009 : True := trivial
theorem law_holds.tw11067727234611919522 : True := trivial
theorem law_holds.tw15806970514647361693 : True := trivial
theorem law_holds.tw8790382262760724670 : True := trivial
theorem law_holds.tw6869992995446874880 : True := trivial
theorem law_holds.tw15514866124879379921 : True := trivial
theorem law_holds.tw12687621791434340054 : True := trivial
theorem law_holds.tw17364227736987735495 : True := trivial
theorem law_holds.tw2401843486660128364 : True := trivial
theorem law_holds.tw913677256832984032 : True := trivial
theorem law_holds.tw8472228645029834797 : True := trivial
theorem law_holds.tw10666784280354678857 : True := trivial
theorem law_holds.tw17713402740875732926 : True := trivial
theorem law_holds.tw5914491427308094424 : True := trivial
theorem law_holds.tw11133525997344109421 : True := trivial
theorem law_holds.tw784011647948385275 : True := trivial
theorem law_holds.tw10189704592693192966 : True := trivial
theorem law_holds.tw1928719863018725356 : True := trivial
theorem law_holds.tw3927331946688356228 : True := trivial
theorem law_holds.tw16245577235439221107 : True := trivial
theorem law_holds.tw11315637435222106236 : True := trivial
theorem law_holds.tw1973129929022764952 : True := trivial
theorem law_holds.tw3307954989432871184 : True := trivial
theorem law_holds.tw8481075993509181622 : True := trivial
theorem law_holds.tw1909877003179415225 : True := trivial
theorem law_holds.tw5433748817414016935 : True := trivial
theorem law_holds.tw5640673133297012132 : True := trivial
theorem law_holds.tw17249539165995611551 : True := trivial
theorem law_holds.tw11795792742502079742 : True := trivial
theorem law_holds.tw11846676642670509255 : True := trivial
theorem law_holds.tw16612359704951912572 : True := trivial
theorem law_holds.tw5791418645094131800 : True := trivial
theorem law_holds.tw1762888911704233025 : True := trivial
theorem law_holds.tw15661869461025623997 : True := trivial
theorem law_holds.tw6260460797876433568 : True := trivial
theorem law_holds.tw17942709131360195518 : True := trivial
theorem law_holds.tw3438298445031660282 : True := trivial
theorem law_holds.tw14498155544194170393 : True := trivial
theorem law_holds.tw13958071646730322851 : True := trivial
theorem law_holds.tw11781800970755023335 : True := trivial
theorem law_holds.tw14789792462180790578 : True := trivial
theorem law_holds.tw8591876402714022951 : True := trivial
theorem law_holds.tw14351635765420936899 : True := trivial
theorem law_holds.tw59864651932915081 : True := trivial
theorem law_holds.tw16563099163409725306 : True := trivial
theorem law_holds.tw15341342317828512493 : True := trivial
theorem law_holds.tw16461882675039125421 : True := trivial
theorem law_holds.tw293627430662643474 : True := trivial
theorem law_holds.tw631266038723830076 : True := trivial
theorem law_holds.tw2903333896348957400 : True := trivial
theorem law_holds.tw6381524096760519305 : True := trivial
theorem law_holds.tw7408322871517469003 : True := trivial
theorem law_holds.tw7404543985812422374 : True := trivial
theorem law_holds.tw12684681026606017882 : True := trivial
theorem law_holds.tw4008084134468147086 : True := trivial
theorem law_holds.tw10441050188594101415 : True := trivial
theorem law_holds.tw8806649888931605024 : True := trivial
theorem law_holds.tw5920216800500632969 : True := trivial
theorem law_holds.tw7089819591129360890 : True := trivial
theorem law_holds.tw576407869801174206 : True := trivial
theorem law_holds.tw12134408205421670959 : True := trivial
theorem law_holds.tw9634471323475708679 : True := trivial
theorem law_holds.tw7983211939772527470 : True := trivial
theorem law_holds.tw16184459414616452189 : True := trivial
theorem law_holds.tw16190678330180157336 : True := trivial
theorem law_holds.tw8857742495270377987 : True := trivial
theorem law_holds.tw11169275537108399364 : True := trivial
theorem law_holds.tw12668044768207566790 : True := trivial
theorem law_holds.tw12253411696296436870 : True := trivial
theorem law_holds.tw18153520721480276881 : True := trivial
theorem law_holds.tw11347954631545130290 : True := trivial
theorem law_holds.tw14354538779393863138 : True := trivial
theorem law_holds.tw11223184984439025696 : True := trivial
theorem law_holds.tw6861490101519172755 : True := trivial
theorem law_holds.tw2136269947727277649 : True := trivial
theorem law_holds.tw724200737284857819 : True := trivial
theorem law_holds.tw15694993059591697976 : True := trivial
theorem law_holds.tw7696488724909661519 : True := trivial
theorem law_holds.tw11470271118054631628 : True := trivial
theorem law_holds.tw10983241140555628109 : True := trivial
theorem law_holds.tw13709617746848070560 : True := trivial
theorem law_holds.tw12320438053989627958 : True := trivial
theorem law_holds.tw4030767218360268280 : True := trivial
theorem law_holds.tw8035577848987061507 : True := trivial
theorem law_holds.tw10222300733896627045 : True := trivial
theorem law_holds.tw16106779387088534511 : True := trivial
theorem law_holds.tw1767730674963353768 : True := trivial
theorem law_holds.tw6765152471904792315 : True := trivial
theorem law_holds.tw17028624522117568015 : True := trivial
theorem law_holds.tw12622292602297523153 : True := trivial
theorem law_holds.tw15320506598460614908 : True := trivial
theorem law_holds.tw1242418559920758562 : True := trivial
theorem law_holds.tw15272395603832836080 : True := trivial
theorem law_holds.tw8785698371604719795 : True := trivial
theorem law_holds.tw9013377322688217293 : True := trivial
theorem law_holds.tw17899081815984039989 : True := trivial
theorem law_holds.tw3005452535816212104 : True := trivial
theorem law_holds.tw10726639523019406850 : True := trivial
theorem law_holds.tw14116105156363184049 : True := trivial
theorem law_holds.tw2102315897755806987 : True := trivial
theorem law_holds.tw5045712524691215523 : True := trivial
theorem law_holds.tw3035144380315620824 : True := trivial
theorem law_holds.tw8285764192309689115 : True := trivial
theorem law_holds.tw15150646450996357022 : True := trivial
theorem law_holds.tw16978406815995349258 : True := trivial
theorem law_holds.tw9631777516455689382 : True := trivial
theorem law_holds.tw13182730311906835528 : True := trivial
theorem law_holds.tw14489315793263303861 : True := trivial
theorem law_holds.tw3186734533307500241 : True := trivial
theorem law_holds.tw7820799176418779761 : True := trivial
theorem law_holds.tw8045378594462670225 : True := trivial
theorem law_holds.tw6751701741844952029 : True := trivial
theorem law_holds.tw41732636909640268 : True := trivial
theorem law_holds.tw1240693151401041967 : True := trivial
theorem law_holds.tw17264387287909652857 : True := trivial
theorem law_holds.tw3886952913131894933 : True := trivial
theorem law_holds.tw15732109348078318572 : True := trivial
theorem law_holds.tw16406091861079842607 : True := trivial
theorem law_holds.tw1710076424337546998 : True := trivial
theorem law_holds.tw18051328159682125866 : True := trivial
theorem law_holds.tw4963573110770748834 : True := trivial
theorem law_holds.tw4995542688137877417 : True := trivial
theorem law_holds.tw445335354869643106 : True := trivial
theorem law_holds.tw7910590604623066228 : True := trivial
theorem law_holds.tw6189876280036216102 : True := trivial
theorem law_holds.tw11017292853192552079 : True := trivial
theorem law_holds.tw85202364400427485 : True := trivial
theorem law_holds.tw1622690429015379626 : True := trivial
theorem law_holds.tw2322801206320994539 : True := trivial
theorem law_holds.tw9184033795430018204 : True := trivial
theorem law_holds.tw415365407113419659 : True := trivial
theorem law_holds.tw15014403891855920072 : True := trivial
theorem law_holds.tw15848713872586308078 : True := trivial
theorem law_holds.tw850272041215511910 : True := trivial
theorem law_holds.tw10346744231138586394 : True := trivial
theorem law_holds.tw16165715940066559518 : True := trivial
theorem law_holds.tw9989359697036934923 : True := trivial
theorem law_holds.tw14646867148444618371 : True := trivial
theorem law_holds.tw6746360682218282392 : True := trivial
theorem law_holds.tw14983226153234331074 : True := trivial
theorem law_holds.tw8835965917227929528 : True := trivial
theorem law_holds.tw12831907817818079685 : True := trivial
theorem law_holds.tw3956099054510807996 : True := trivial
theorem law_holds.tw8509993157628066667 : True := trivial
theorem law_holds.tw13840902789983287329 : True := trivial
theorem law_holds.tw15695062497276918967 : True := trivial
theorem law_holds.tw4992725456586698614 : True := trivial
theorem law_holds.tw16836969012518115619 : True := trivial
theorem law_holds.tw2096525686368166746 : True := trivial
theorem law_holds.tw3674665740742831893 : True := trivial
theorem law_holds.tw9606376775287448836 : True := trivial
theorem law_holds.tw14326059299131336239 : True := trivial
theorem law_holds.tw16470317323979864763 : True := trivial
theorem law_holds.tw4741859662064258567 : True := trivial
theorem law_holds.tw16641252976520058099 : True := trivial
theorem law_holds.tw11956458263131016624 : True := trivial
theorem law_holds.tw11677100312832694166 : True := trivial
theorem law_holds.tw12296726922439171297 : True := trivial
theorem law_holds.tw6719018230134327050 : True := trivial
theorem law_holds.tw11625900857008200698 : True := trivial
theorem law_holds.tw13092103797297032270 : True := trivial
theorem law_holds.tw18254337876149969668 : True := trivial
theorem law_holds.tw5898729028444588960 : True := trivial
theorem law_holds.tw18203989763732354715 : True := trivial
theorem law_holds.tw14531881819706719225 : True := trivial
theorem law_holds.tw16760957895259694429 : True := trivial
theorem law_holds.tw14497384708736915567 : True := trivial
theorem law_holds.tw11330957891505755796 : True := trivial
theorem law_holds.tw3258674603298201628 : True := trivial
theorem law_holds.tw11633083819707477107 : True := trivial
theorem law_holds.tw5455921660152230842 : True := trivial
theorem law_holds.tw9212889513913684515 : True := trivial
theorem law_holds.tw14957179600199517237 : True := trivial
theorem law_holds.tw3416923247095428876 : True := trivial
theorem law_holds.tw11803358882649189518 : True := trivial
theorem law_holds.tw8970147916757833333 : True := trivial
theorem law_holds.tw15274831704391544125 : True := trivial
theorem law_holds.tw16332274672890094952 : True := trivial
theorem law_holds.tw11977050620070087417 : True := trivial
theorem law_holds.tw13766487248619392586 : True := trivial
theorem law_holds.tw7604666192120794032 : True := trivial
theorem law_holds.tw7221428835167493151 : True := trivial
theorem law_holds.tw447027507633508388 : True := trivial
theorem law_holds.tw2414130084998747865 : True := trivial
theorem law_holds.tw3979707639553702691 : True := trivial
theorem law_holds.tw4037582482628031876 : True := trivial
theorem law_holds.tw16099233806120587224 : True := trivial
theorem law_holds.tw9975692261777386857 : True := trivial
theorem law_holds.tw3850334171643177529 : True := trivial
theorem law_holds.tw3974387499553966400 : True := trivial
theorem law_holds.tw5990188206726777172 : True := trivial
theorem law_holds.tw13005147029216865851 : True := trivial
theorem law_holds.tw9548147230944474901 : True := trivial
theorem law_holds.tw900637438159641495 : True := trivial
theorem law_holds.tw9887912731928775018 : True := trivial
theorem law_holds.tw6041440012092600215 : True := trivial
theorem law_holds.tw8266603773606604290 : True := trivial
theorem law_holds.tw3882250662718909693 : True := trivial
theorem law_holds.tw11126432536435168541 : True := trivial
theorem law_holds.tw11404014056486942332 : True := trivial
theorem law_holds.tw2851267720448770887 : True := trivial
theorem law_holds.tw12476058986133298565 : True := trivial
theorem law_holds.tw16765433158599729185 : True := trivial
theorem law_holds.tw1670043908289496885 : True := trivial
theorem law_holds.tw8417186165934385351 : True := trivial
theorem law_holds.tw4303444947968712155 : True := trivial
theorem law_holds.tw3756957479349018193 : True := trivial
theorem law_holds.tw2414074194907454277 : True := trivial
theorem law_holds.tw10458381655096516384 : True := trivial
theorem law_holds.tw7479968899032947501 : True := trivial
theorem law_holds.tw10968802771074238664 : True := trivial
theorem law_holds.tw908389787484368193 : True := trivial
theorem law_holds.tw16009327648451700120 : True := trivial
theorem law_holds.tw8909828626151137519 : True := trivial
theorem law_holds.tw10767655046202684341 : True := trivial
theorem law_holds.tw14892801356780361778 : True := trivial
theorem law_holds.tw3850375180904979519 : True := trivial
theorem law_holds.tw12115171985352901274 : True := trivial
theorem law_holds.tw11653573277977807760 : True := trivial
theorem law_holds.tw16720094985154256693 : True := trivial
theorem law_holds.tw9871626496009991038 : True := trivial
theorem law_holds.tw8804120190785687885 : True := trivial
theorem law_holds.tw15609566024721092083 : True := trivial
theorem law_holds.tw10079444305495103266 : True := trivial
theorem law_holds.tw2788888992717563140 : True := trivial
theorem law_holds.tw8093891021732403304 : True := trivial
theorem law_holds.tw2175471002772951711 : True := trivial
theorem law_holds.tw8514742172934523775 : True := trivial
theorem law_holds.tw1989176631692091739 : True := trivial
theorem law_holds.tw14774650325386425613 : True := trivial
theorem law_holds.tw3682559726232862161 : True := trivial
theorem law_holds.tw6896717019858035522 : True := trivial
theorem law_holds.tw8856317710758748564 : True := trivial
theorem law_holds.tw10350734228115807855 : True := trivial
theorem law_holds.tw10028117763298573888 : True := trivial
theorem law_holds.tw16935243356766158856 : True := trivial
theorem law_holds.tw5087963091746180759 : True := trivial
theorem law_holds.tw17545576798567701639 : True := trivial
theorem law_holds.tw123295346585929383 : True := trivial
theorem law_holds.tw6265907326580845545 : True := trivial
theorem law_holds.tw1819975233463548508 : True := trivial
theorem law_holds.tw10362271348294423435 : True := trivial
theorem law_holds.tw9843604407834444796 : True := trivial
theorem law_holds.tw17309000430359075326 : True := trivial
theorem law_holds.tw17758146289354676595 : True := trivial
theorem law_holds.tw12847567107135931479 : True := trivial
theorem law_holds.tw18026530572120702767 : True := trivial
theorem law_holds.tw718173064312146323 : True := trivial
theorem law_holds.tw18006792725990754497 : True := trivial
theorem law_holds.tw1096898596823417342 : True := trivial
theorem law_holds.tw16883458599210261866 : True := trivial
theorem law_holds.tw3808703085821546077 : True := trivial
theorem law_holds.tw8829074647290719032 : True := trivial
theorem law_holds.tw15796309260620551687 : True := trivial
theorem law_holds.tw745255978533919091 : True := trivial
theorem law_holds.tw9682718004065560343 : True := trivial
theorem law_holds.tw1601895830593022294 : True := trivial
theorem law_holds.tw11881114122080957857 : True := trivial
theorem law_holds.tw3033269912633744064 : True := trivial
theorem law_holds.tw16963379459963715452 : True := trivial
theorem law_holds.tw17793716333272398654 : True := trivial
theorem law_holds.tw545109181885906688 : True := trivial
theorem law_holds.tw6776455111828631412 : True := trivial
theorem law_holds.tw18261290160731607033 : True := trivial
theorem law_holds.tw7767266014307106701 : True := trivial
theorem law_holds.tw13956741780833797525 : True := trivial
theorem law_holds.tw2127001594154878533 : True := trivial
theorem law_holds.tw1377309892636839040 : True := trivial
theorem law_holds.tw3366817510852727610 : True := trivial
theorem law_holds.tw1997475870405608531 : True := trivial
theorem law_holds.tw5117662029339320154 : True := trivial
theorem law_holds.tw12153922251378674784 : True := trivial
theorem law_holds.tw14521376392698553312 : True := trivial
theorem law_holds.tw8634839017697508684 : True := trivial
theorem law_holds.tw17137235678499792623 : True := trivial
theorem law_holds.tw2075624079617657780 : True := trivial
theorem law_holds.tw12949845418750544790 : True := trivial
theorem law_holds.tw9069877914133315304 : True := trivial
theorem law_holds.tw15140378357190847165 : True := trivial
theorem law_holds.tw2143268655074302082 : True := trivial
theorem law_holds.tw13482675847692870326 : True := trivial
theorem law_holds.tw8210953160692291510 : True := trivial
theorem law_holds.tw4146061822495498468 : True := trivial
theorem law_holds.tw4072507727158212662 : True := trivial
theorem law_holds.tw12342728606916771844 : True := trivial
theorem law_holds.tw18155623678392573649 : True := trivial
theorem law_holds.tw3850404396616230974 : True := trivial
theorem law_holds.tw676263390381983339 : True := trivial
theorem law_holds.tw7636989558263936852 : True := trivial
theorem law_holds.tw14377833709258309704 : True := trivial
theorem law_holds.tw7480714314260584917 : True := trivial
theorem law_holds.tw4568741812840581045 : True := trivial
theorem law_holds.tw18197852217732850983 : True := trivial
theorem law_holds.tw16771549258648962210 : True := trivial
theorem law_holds.tw3127913417769977931 : True := trivial
theorem law_holds.tw9317688335297629284 : True := trivial
theorem law_holds.tw2644310842459337959 : True := trivial
theorem law_holds.tw14051398506283589457 : True := trivial
theorem law_holds.tw6723812968561706957 : True := trivial
theorem law_holds.tw16614716721108272449 : True := trivial
theorem law_holds.tw1724926542741425601 : True := trivial
theorem law_holds.tw16381176275627223697 : True := trivial
theorem law_holds.tw18090433342136740992 : True := trivial
theorem law_holds.tw13454136545276886934 : True := trivial
theorem law_holds.tw12218498018843733332 : True := trivial
theorem law_holds.tw11065903779536590938 : True := trivial
theorem law_holds.tw14289194402921355359 : True := trivial
theorem law_holds.tw3494445600050047599 : True := trivial
theorem law_holds.tw14385925486924208373 : True := trivial
theorem law_holds.tw2503670479209048990 : True := trivial
theorem law_holds.tw3158129796062787159 : True := trivial
theorem law_holds.tw8957123355933967898 : True := trivial
theorem law_holds.tw9779807473162285230 : True := trivial
theorem law_holds.tw12481875629721207810 : True := trivial
theorem law_holds.tw6727219029552735585 : True := trivial
theorem law_holds.tw3136910860242942599 : True := trivial
theorem law_holds.tw8982592368679156308 : True := trivial
theorem law_holds.tw14872900085578418628 : True := trivial
theorem law_holds.tw9552830710289189752 : True := trivial
theorem law_holds.tw498061464947678834 : True := trivial
theorem law_holds.tw8137031500313473552 : True := trivial
theorem law_holds.tw11924911360389889469 : True := trivial
theorem law_holds.tw15644819842384902770 : True := trivial
theorem law_holds.tw2782419253953178936 : True := trivial
theorem law_holds.tw2558664710541493025 : True := trivial
theorem law_holds.tw4581845663705801772 : True := trivial
theorem law_holds.tw2152083551845799040 : True := trivial
theorem law_holds.tw13983371404066579822 : True := trivial
theorem law_holds.tw8652346329174877282 : True := trivial
theorem law_holds.tw13650905803964671038 : True := trivial
theorem law_holds.tw5517996574296444776 : True := trivial
theorem law_holds.tw13294052699122959228 : True := trivial
theorem law_holds.tw13280740594461564331 : True := trivial
theorem law_holds.tw17156363617357476176 : True := trivial
theorem law_holds.tw4323815956820902445 : True := trivial
theorem law_holds.tw699380112222796084 : True := trivial
theorem law_holds.tw3572487005457819259 : True := trivial
theorem law_holds.tw1588742098881680585 : True := trivial
theorem law_holds.tw12456547296908542839 : True := trivial
theorem law_holds.tw13301187468288870568 : True := trivial
theorem law_holds.tw9645634856123762962 : True := trivial
theorem law_holds.tw811035903429128223 : True := trivial
theorem law_holds.tw2446358144275080391 : True := trivial
theorem law_holds.tw8312341600987523519 : True := trivial
theorem law_holds.tw907578622648922086 : True := trivial
theorem law_holds.tw16092355726972411579 : True := trivial
theorem law_holds.tw6881874429007886204 : True := trivial
theorem law_holds.tw4370086069003782432 : True := trivial
theorem law_holds.tw6882020374766023752 : True := trivial
theorem law_holds.tw1247253217256132012 : True := trivial
theorem law_holds.tw13336368349410954346 : True := trivial
theorem law_holds.tw1556451293825771818 : True := trivial
theorem law_holds.tw7484302960587174374 : True := trivial
theorem law_holds.tw9884440891127344651 : True := trivial
theorem law_holds.tw5506821171919863439 : True := trivial
theorem law_holds.tw5112083995522966620 : True := trivial
theorem law_holds.tw14828999820898988419 : True := trivial
theorem law_holds.tw14390602165704524457 : True := trivial
theorem law_holds.tw1722738952054099684 : True := trivial
theorem law_holds.tw3912811242725288453 : True := trivial
theorem law_holds.tw7120836010843673076 : True := trivial
theorem law_holds.tw926570990666696690 : True := trivial
theorem law_holds.tw11690447701083486646 : True := trivial
theorem law_holds.tw6171497949139891675 : True := trivial
theorem law_holds.tw17911580528928914924 : True := trivial
theorem law_holds.tw13220211186989608806 : True := trivial
theorem law_holds.tw16918785212296949754 : True := trivial
theorem law_holds.tw7775064044895347852 : True := trivial
theorem law_holds.tw5994716906283268228 : True := trivial
theorem law_holds.tw11544315989524547432 : True := trivial
theorem law_holds.tw2295933128562542503 : True := trivial
theorem law_holds.tw14904137174637212347 : True := trivial
theorem law_holds.tw1496123403401453975 : True := trivial
theorem law_holds.tw17598101756349436640 : True := trivial
theorem law_holds.tw7185456241796803578 : True := trivial
theorem law_holds.tw12780804625047726367 : True := trivial
theorem law_holds.tw8715444014776630742 : True := trivial
theorem law_holds.tw2557128651999224082 : True := trivial
theorem law_holds.tw10368410895845634921 : True := trivial
theorem law_holds.tw5212653520564569363 : True := trivial
theorem law_holds.tw15739221030334482584 : True := trivial
theorem law_holds.tw13250372474279835810 : True := trivial
theorem law_holds.tw13642005409729077643 : True := trivial
theorem law_holds.tw8040771413219435098 : True := trivial
theorem law_holds.tw13429453918920967058 : True := trivial
theorem law_holds.tw12223724995276690173 : True := trivial
theorem law_holds.tw14064573792008682920 : True := trivial
theorem law_holds.tw15162217921772873613 : True := trivial
theorem law_holds.tw16691439815215545270 : True := trivial
theorem law_holds.tw9525127294725463027 : True := trivial
theorem law_holds.tw17792525830624384078 : True := trivial
theorem law_holds.tw6333624483447246961 : True := trivial
theorem law_holds.tw12503156628232749375 : True := trivial
theorem law_holds.tw1905533677188600702 : True := trivial
theorem law_holds.tw12663309570017281627 : True := trivial
theorem law_holds.tw4211113817173803656 : True := trivial
theorem law_holds.tw13087128984098923117 : True := trivial
theorem law_holds.tw10516828495840041881 : True := trivial
theorem law_holds.tw2887994833065977647 : True := trivial
theorem law_holds.tw1550374771381668074 : True := trivial
theorem law_holds.tw1929443778124869092 : True := trivial
theorem law_holds.tw2325693721150917532 : True := trivial
theorem law_holds.tw4329158554759489670 : True := trivial
theorem law_holds.tw1791086108937442324 : True := trivial
theorem law_holds.tw8441880690091102137 : True := trivial
theorem law_holds.tw11182679623053108816 : True := trivial
theorem law_holds.tw15802469936163623734 : True := trivial
theorem law_holds.tw11097158420108258118 : True := trivial
theorem law_holds.tw1186782194237197914 : True := trivial
theorem law_holds.tw12597187120891498251 : True := trivial
theorem law_holds.tw6553333263825352884 : True := trivial
theorem law_holds.tw12394330538082041428 : True := trivial
theorem law_holds.tw12732824653754844360 : True := trivial
theorem law_holds.tw3910120701321347557 : True := trivial
theorem law_holds.tw10897144627088453450 : True := trivial
theorem law_holds.tw1172607208729018732 : True := trivial
theorem law_holds.tw7769649832755249146 : True := trivial
theorem law_holds.tw519298541982818421 : True := trivial
theorem law_holds.tw8549365171731915398 : True := trivial
theorem law_holds.tw12645607732203181651 : True := trivial
theorem law_holds.tw10301956948240465243 : True := trivial
theorem law_holds.tw13528896222378765290 : True := trivial
theorem law_holds.tw2124134355350193313 : True := trivial
theorem law_holds.tw11794004699284075115 : True := trivial
theorem law_holds.tw6564709946809587534 : True := trivial
theorem law_holds.tw1035469204868569938 : True := trivial
theorem law_holds.tw11426015686315989412 : True := trivial
theorem law_holds.tw14822640431511872941 : True := trivial
theorem law_holds.tw12977093529070104392 : True := trivial
theorem law_holds.tw2842810181116790245 : True := trivial
theorem law_holds.tw13536078969547264968 : True := trivial
theorem law_holds.tw8890443458166856008 : True := trivial
theorem law_holds.tw4916342969005030805 : True := trivial
theorem law_holds.tw4503035019201841076 : True := trivial
theorem law_holds.tw8854015012368427407 : True := trivial
theorem law_holds.tw9758593294864014727 : True := trivial
theorem law_holds.tw8176227357466254829 : True := trivial
theorem law_holds.tw13780023080261437657 : True := trivial
theorem law_holds.tw3390839446522356110 : True := trivial
theorem law_holds.tw17180001009569633970 : True := trivial
theorem law_holds.tw5731563423909890137 : True := trivial
theorem law_holds.tw15567558954438479688 : True := trivial
theorem law_holds.tw18116031599527039140 : True := trivial
theorem law_holds.tw1385162719727133579 : True := trivial
theorem law_holds.tw4273555757443719353 : True := trivial
theorem law_holds.tw7675160084493405025 : True := trivial
theorem law_holds.tw1099259369241382048 : True := trivial
theorem law_holds.tw9403268196540146800 : True := trivial
theorem law_holds.tw10609929442622069884 : True := trivial
theorem law_holds.tw17169043682955552997 : True := trivial
theorem law_holds.tw1258919526383655059 : True := trivial
theorem law_holds.tw18221580467831097590 : True := trivial
theorem law_holds.tw14390095281932903014 : True := trivial
theorem law_holds.tw4593294709026258786 : True := trivial
theorem law_holds.tw3253820488102484341 : True := trivial
theorem law_holds.tw2269544990204364226 : True := trivial
theorem law_holds.tw7304591109411159013 : True := trivial
theorem law_holds.tw9187647767651647856 : True := trivial
theorem law_holds.tw7674457499096017732 : True := trivial
theorem law_holds.tw12116493165278983582 : True := trivial
theorem law_holds.tw15617896438947887921 : True := trivial
theorem law_holds.tw3595789414353437717 : True := trivial
theorem law_holds.tw2695550118857162214 : True := trivial
theorem law_holds.tw607667584577438428 : True := trivial
theorem law_holds.tw8984152853971343422 : True := trivial
theorem law_holds.tw808278469055374699 : True := trivial
theorem law_holds.tw18234560199702728603 : True := trivial
theorem law_holds.tw2387193687640843687 : True := trivial
theorem law_holds.tw660297872995803996 : True := trivial
theorem law_holds.tw9889521400790421688 : True := trivial
theorem law_holds.tw3959601488294255719 : True := trivial
theorem law_holds.tw10498581749271578707 : True := trivial
theorem law_holds.tw8330938851228082562 : True := trivial
theorem law_holds.tw13402424001964919149 : True := trivial
theorem law_holds.tw13902218012105463410 : True := trivial
theorem law_holds.tw4991859449750346478 : True := trivial
theorem law_holds.tw7407239408455114201 : True := trivial
theorem law_holds.tw16098122237329998606 : True := trivial
theorem law_holds.tw5858263632927829637 : True := trivial
theorem law_holds.tw16134481763169526871 : True := trivial
theorem law_holds.tw9220624806794609946 : True := trivial
theorem law_holds.tw16098570224071239113 : True := trivial
theorem law_holds.tw9168033884955339765 : True := trivial
theorem law_holds.tw1285599515219305098 : True := trivial
theorem law_holds.tw1053317679998426468 : True := trivial
theorem law_holds.tw8570087061310353148 : True := trivial
theorem law_holds.tw12303009252429188658 : True := trivial
theorem law_holds.tw10108825076125807744 : True := trivial
theorem law_holds.tw17923851452625207687 : True := trivial
theorem law_holds.tw15726739188670627701 : True := trivial
theorem law_holds.tw11098625913536864229 : True := trivial
theorem law_holds.tw1685627985566243432 : True := trivial
theorem law_holds.tw723553956927101924 : True := trivial
theorem law_holds.tw16947615914383616782 : True := trivial
theorem law_holds.tw5542243279508502960 : True := trivial
theorem law_holds.tw14281342344845405768 : True := trivial
theorem law_holds.tw15352218221683021774 : True := trivial
theorem law_holds.tw5277994541964179845 : True := trivial
theorem law_holds.tw2017991025062827469 : True := trivial
theorem law_holds.tw16057390660189216267 : True := trivial
theorem law_holds.tw18388893480867403737 : True := trivial
theorem law_holds.tw15837452725152343555 : True := trivial
theorem law_holds.tw1778412455037948541 : True := trivial
theorem law_holds.tw6580623548314892615 : True := trivial
theorem law_holds.tw5451054884063135654 : True := trivial
theorem law_holds.tw15293083901398250104 : True := trivial
theorem law_holds.tw6934448944433832347 : True := trivial
theorem law_holds.tw15452448965706171373 : True := trivial
theorem law_holds.tw13431030151845061361 : True := trivial
theorem law_holds.tw2602977815382960713 : True := trivial
theorem law_holds.tw9009705080361974123 : True := trivial
theorem law_holds.tw4818577856007422655 : True := trivial
theorem law_holds.tw3046938939346580660 : True := trivial
theorem law_holds.tw1335265377702380343 : True := trivial
theorem law_holds.tw10817052189556005596 : True := trivial
theorem law_holds.tw11586273756423631628 : True := trivial
theorem law_holds.tw9207643191828677137 : True := trivial
theorem law_holds.tw2139172203440323022 : True := trivial
theorem law_holds.tw12835091436910803158 : True := trivial
theorem law_holds.tw3756308257209627903 : True := trivial
theorem law_holds.tw17253691774821329096 : True := trivial
theorem law_holds.tw7695934317539461687 : True := trivial
theorem law_holds.tw1341266762083198811 : True := trivial
theorem law_holds.tw12108977868540685583 : True := trivial
theorem law_holds.tw9758047768218912823 : True := trivial
theorem law_holds.tw17865009358878524859 : True := trivial
theorem law_holds.tw15829985883664642994 : True := trivial
theorem law_holds.tw17993387198741990920 : True := trivial
theorem law_holds.tw8860054118572591635 : True := trivial
theorem law_holds.tw12800644894191811977 : True := trivial
theorem law_holds.tw4889031023730116350 : True := trivial
theorem law_holds.tw10486713781251687710 : True := trivial
theorem law_holds.tw6677821561840896501 : True := trivial
theorem law_holds.tw7019463264422422977 : True := trivial
theorem law_holds.tw228058311090241170 : True := trivial
theorem law_holds.tw9432226000188453795 : True := trivial
theorem law_holds.tw14571795756577361901 : True := trivial
theorem law_holds.tw2782584491509435139 : True := trivial
theorem law_holds.tw10296202853966499060 : True := trivial
theorem law_holds.tw11303081109005220762 : True := trivial
theorem law_holds.tw8720880381367431298 : True := trivial
theorem law_holds.tw15202863084288179589 : True := trivial
theorem law_holds.tw5989267464594152519 : True := trivial
theorem law_holds.tw3004322157184113663 : True := trivial
theorem law_holds.tw9483915327669328748 : True := trivial
theorem law_holds.tw17891701833085026040 : True := trivial
theorem law_holds.tw10242277825702978295 : True := trivial
theorem law_holds.tw881140697980615281 : True := trivial
theorem law_holds.tw2078624436916829710 : True := trivial
theorem law_holds.tw11532970265236058100 : True := trivial
theorem law_holds.tw2142710703020379005 : True := trivial
theorem law_holds.tw15352839923633478061 : True := trivial
theorem law_holds.tw11100686419730198450 : True := trivial
theorem law_holds.tw10007947361888340627 : True := trivial
theorem law_holds.tw10566571302883470556 : True := trivial
theorem law_holds.tw9529696498207198238 : True := trivial
theorem law_holds.tw9288214680346807717 : True := trivial
theorem law_holds.tw10264638600885302300 : True := trivial
theorem law_holds.tw10442559174759676424 : True := trivial
theorem law_holds.tw13478230802861573701 : True := trivial
theorem law_holds.tw4643041051132140158 : True := trivial
theorem law_holds.tw15123554796541802991 : True := trivial
theorem law_holds.tw4614512636035447770 : True := trivial
theorem law_holds.tw15472126771306010800 : True := trivial
theorem law_holds.tw10465528174321978529 : True := trivial
theorem law_holds.tw3426384778480675251 : True := trivial
theorem law_holds.tw13667737974841707781 : True := trivial
theorem law_holds.tw8386679336120195906 : True := trivial
theorem law_holds.tw1721165116777925873 : True := trivial
theorem law_holds.tw9423440377400516374 : True := trivial
theorem law_holds.tw15883345262158282383 : True := trivial
theorem law_holds.tw10517181812226103804 : True := trivial
theorem law_holds.tw13342518741750886279 : True := trivial
theorem law_holds.tw9875236377963488844 : True := trivial
theorem law_holds.tw3110860835449505704 : True := trivial
theorem law_holds.tw9010822018090708908 : True := trivial
theorem law_holds.tw4439653461905209652 : True := trivial
theorem law_holds.tw687851300278632918 : True := trivial
theorem law_holds.tw18249637531494128599 : True := trivial
theorem law_holds.tw9992725586745946429 : True := trivial
theorem law_holds.tw14746732674962391887 : True := trivial
theorem law_holds.tw2303879751551577860 : True := trivial
theorem law_holds.tw15333956030411951890 : True := trivial
theorem law_holds.tw6860709855171689206 : True := trivial
theorem law_holds.tw15527639110640922598 : True := trivial
theorem law_holds.tw13342137609418717338 : True := trivial
theorem law_holds.tw15031514592837009168 : True := trivial
set_option Elab.async true in
theorem law_holds : PySem.Challenge.rw_qz0103_01.Holds := by
  k_with_none
  k_with "execs cons" => (k_here; (with_reducible refine' gentk ?zzF ?zze1 ?zze2 ?zze3 ?zze4 ?_); (case zzF => k_asm); (case zze1 => k_dflt exact rfl); (case zze2 => k_dflt exact rfl); (case zze3 => k_dflt exact rfl); (case zze4 => k_dflt exact rfl); intro tk')
  k_with "call ref" => (k_here; (with_reducible show wpAny _ _ (call (Value.ref 610) _) _ _ _); k_dflt (refine' sip_use ?zzk1 ?zzk2 ?zzk3 ?zzk4 ?zzk5 ?zzkK ?zzkd ?zzku ?zzU ?zzhml ?zzhmug ?zzlo ?zzhi ?zzhn ?zzhk ?zzhm ?zzhne ?_; (case zzk1 => k_asm); (case zzk2 => k_asm); (case zzk3 => k_asm); (case zzk4 => k_asm); (case zzk5 => k_asm); (case zzkK => first | assumption | exact rfl); (case zzkd => ktr_room); (case zzku => ktr_units); (case zzU => k_updF); (case zzhmug => k_asm); (case zzhml => k_mem); (case zzlo => assumption); (case zzhi => assumption); (case zzhn => first | omega | (simp only [List.length_take]; omega)); (case zzhk => omega); (case zzhm => omega); (case zzhne => k_dflt (first | exact Or.inl (lt1_lt (by assumption) (by k_mem)) | exact Or.inr (lt1_lt (by assumption) (by k_mem)) | k_ne | omega)); k_whole; intro h' o' t' v' tv' tk' F' N' hd' G' hv'; (try dsimp only at N'); (try k_fold)))
  k_with "call ref" => (k_here; (with_reducible show wpAny _ _ (call (Value.ref 615) _) _ _ _); k_dflt (refine' drawn_use ?zzk1 ?zzk2 ?zzk3 ?zzk4 ?zzk5 ?zzkK ?zzkd ?zzku ?zzU ?zzhml ?zzhmug ?zzlo ?zzhi ?zzhn ?zzhk ?zzhne ?_; (case zzk1 => k_asm); (case zzk2 => k_asm); (case zzk3 => k_asm); (case zzk4 => k_asm); (case zzk5 => k_asm); (case zzkK => first | assumption | exact rfl); (case zzkd => ktr_room); (case zzku => ktr_units); (case zzU => k_updF); (case zzhmug => k_asm); (case zzhml => k_mem); (case zzlo => assumption); (case zzhi => assumption); (case zzhn => first | omega | (simp only [List.length_take]; omega)); (case zzhk => omega); (case zzhne => k_dflt (first | exact Or.inl (lt1_lt (by assumption) (by k_mem)) | exact Or.inr (lt1_lt (by assumption) (by k_mem)) | k_ne | omega)); k_whole; intro h' o' t' k' ss' tr' tk' F' N' hd' G' hv' hl' hs'; (try dsimp only at N'); (try k_fold)))
  k_with "callWith ref" => (k_here; k_dflt (refine' callWith_K ?zzk1 ?zzk2 ?_; (case zzk1 => k_asm); (case zzk2 => k_is); k_whole))
  k_with "call ref" => (k_here; (with_reducible show wpAny _ _ (call (Value.ref 257) _ _) _ _ _); k_dflt (refine' heap_use ?zzk1 ?zzk2 ?zzk3 ?zzk4 ?zzk5 ?zzkK ?zzkd ?zzku ?_; (case zzk1 => k_asm); (case zzk2 => k_asm); (case zzk3 => k_asm); (case zzk4 => k_asm); (case zzk5 => k_asm); (case zzkK => first | assumption | exact rfl); (case zzkd => ktr_room); (case zzku => ktr_units); k_whole; intro x' dx' t1' t2' t3' tl' z5 h' tk' l1 l2 F' N'; (try k_lt l1); (have lx' := lt1_chain l2 (by with_reducible assumption)); (try k_fold)))
  k_with "call ref" => (k_here; (with_reducible show wpAny _ _ (call (Value.ref 493) _ _) _ _ _); k_dflt (refine' counter_use ?zzk1 ?zzk2 ?zzk3 ?zzk4 ?zzk5 ?zzkK ?zzkd ?zzku ?_; (case zzk1 => k_asm); (case zzk2 => k_asm); (case zzk3 => k_asm); (case zzk4 => k_asm); (case zzk5 => k_asm); (case zzkK => first | assumption | exact rfl); (case zzkd => ktr_room); (case zzku => ktr_units); k_whole; intro x' dx' pa ea oP oE esC nC h' tk' l1 l2 c1 c2 c3 c4 c5 c6 c7 c8 c9 c10 c11 F' N'; (try k_lt l1); (have lx' := lt1_chain l2 (by with_reducible assumption)); (have lx' := lt1_chain c1 (by with_reducible assumption)); (have lx' := lt1_chain c2 (by with_reducible assumption)); (try k_fold)))
  k_with "call ref" => (k_here; (with_reducible show wpAny _ _ (call (Value.ref 599) _ _) _ _ _); k_dflt (refine' stash_use ?zzk1 ?zzk2 ?zzk3 ?zzk4 ?zzk5 ?zzkK ?zzkd ?zzku ?_; (case zzk1 => k_asm); (case zzk2 => k_asm); (case zzk3 => k_asm); (case zzk4 => k_asm); (case zzk5 => k_asm); (case zzkK => first | assumption | exact rfl); (case zzkd => ktr_room); (case zzku => ktr_units); k_whole; intro x' dx' t1' t2' t3' t4' gg oG h' tk' l1 l2 c1 c2 c3 F' N'; (try k_lt l1); (have lx' := lt1_chain l2 (by with_reducible assumption)); (have lx' := lt1_chain c1 (by with_reducible assumption)); (try k_fold)))
  k_with "call ref" => (k_here; (with_reducible show wpAny _ _ (call (Value.ref 514) _ _) _ _ _); k_dflt (refine' run_use ?zzk1 ?zzk2 ?zzk3 ?zzk4 ?zzk5 ?zzkK ?zzkd ?zzku ?_; (case zzk1 => k_asm); (case zzk2 => k_asm); (case zzk3 => k_asm); (case zzk4 => k_asm); (case zzk5 => k_asm); (case zzkK => first | assumption | exact rfl); (case zzkd => ktr_room); (case zzku => ktr_units); k_whole; intro x' dx' esR nR h' tk' l1 l2 c1 c2 c3 F' N'; (try k_lt l1); (have lx' := lt1_chain l2 (by with_reducible assumption)); (try k_fold)))
  k_with "call ref" => (k_here; (with_reducible show wpAny _ _ (call (Value.ref 568) _ _) _ _ _); k_dflt (refine' scalar_use ?zzk1 ?zzk2 ?zzk3 ?zzk4 ?zzk5 ?zzkK ?zzkd ?zzku ?zzkm ?zzU1 ?zzU2 ?zzhH ?zzhG ?zzlG ?zzord ?_; (case zzk1 => k_asm); (case zzk2 => k_asm); (case zzk3 => k_asm); (case zzk4 => k_asm); (case zzk5 => k_asm); (case zzkK => first | assumption | exact rfl); (case zzkd => ktr_room); (case zzku => ktr_units); (case zzkm => (repeat (first | exact List.forall_mem_nil _ | (refine List.forall_mem_cons.mpr ⟨(by k_mem), ?_⟩)))); (case zzU1 => k_updF); (case zzU2 => (intro o9; (try dsimp only); k_updF)); (case zzhH => with_reducible rfl); (case zzhG => assumption); (case zzlG => assumption); (case zzord => (refine ⟨?_, ?_, ?_, ?_, ?_⟩ <;> (k_dflt (first | with_reducible assumption | exact lt1_lt (by assumption) (by k_mem))))); k_whole; intro va' dv' nb' tn' t1' t2' t3' t4' t5' t6' t7' t8' v2' v3' v4' v5' v6' o1' o2' h' tk' c1' c2' F' N'; (have lx' := lt1_chain c1' (by with_reducible assumption)); (have lx' := lt1_chain c2' (by with_reducible assumption)); (try dsimp only at N'); (try k_fold)))
  k_with "call ref" => (k_here; (with_reducible show wpAny _ _ (call (Value.ref 455) _) _ _ _); k_dflt (refine' store0_use ?zzk1 ?zzk2 ?zzk3 ?zzk4 ?zzk5 ?zzkK ?zzkd ?zzku ?zzkm ?zzU ?zzho ?zzh1 ?zzh2 ?zzm1 ?zzm2 ?zzlP ?zzhP ?zzlE ?zzhE ?zzhne ?_; (case zzk1 => k_asm); (case zzk2 => k_asm); (case zzk3 => k_asm); (case zzk4 => k_asm); (case zzk5 => k_asm); (case zzkK => first | assumption | exact rfl); (case zzkd => ktr_room); (case zzku => ktr_units); (case zzh1 => k_get); (case zzh2 => k_get); (case zzm1 => k_get); (case zzm2 => k_get); (case zzkm => (repeat (first | exact List.forall_mem_nil _ | (refine List.forall_mem_cons.mpr ⟨(by k_mem), ?_⟩)))); (case zzU => k_updF); (case zzho => with_reducible rfl); (case zzlP => assumption); (case zzhP => assumption); (case zzlE => assumption); (case zzhE => assumption); (case zzhne => (refine ⟨?_, ?_, ?_, ?_, ?_, ?_, ?_, ?_, ?_, ?_, ?_, ?_⟩ <;> k_ne))); (intro h' tk' F' N' G'; (try dsimp only at N'); (try k_fold)))
  k_with "call ref" => (k_here; (with_reducible show wpAny _ _ (call (Value.ref 641) _) _ _ _); (with_reducible rename ∀ c ∈ _, c ∈ [97, 46, 98, 36, 95] => hs9); (obtain ⟨a9, e9, l9, m9⟩ := six hs9); (with_reducible rename News _ _ _ _ => nE9); (simp only [e9] at nE9); clear e9; k_dflt (refine' heard3_use ?zzk1 ?zzk2 ?zzk3 ?zzkK ?zzkd ?zzku ?zzkm ?zzU ?zzho ?zzd4 ?zzd5 ?zzha ?zzhll ?zzhfo ?zzhvq ?zzg1 ?zzg2 ?zzg3 ?zzh1 ?zzh2 ?zzm1 ?zzm2 ?zzm3 ?zzlP ?zzhP ?zzlE ?zzhE ?zzord ?zzord2 ?_; (case zzk1 => k_asm); (case zzk2 => k_asm); (case zzk3 => k_asm); (case zzkK => first | assumption | exact rfl); (case zzkd => ktr_room); (case zzku => ktr_units); (case zzg1 => with_reducible assumption); (case zzg2 => with_reducible assumption); (case zzh1 => with_reducible assumption); (case zzh2 => with_reducible assumption); (case zzm1 => with_reducible assumption); (case zzm2 => with_reducible assumption); (case zzm3 => with_reducible assumption); (case zzkm => (repeat (first | exact List.forall_mem_nil _ | (refine List.forall_mem_cons.mpr ⟨(by k_mem), ?_⟩)))); (case zzg3 => k_get); (case zzU => k_updF); (case zzho => with_reducible rfl); (case zzd4 => with_reducible assumption); (case zzd5 => with_reducible assumption); (case zzha => omega); (case zzhll => omega); (case zzhfo => with_reducible assumption); (case zzhvq => with_reducible assumption); (case zzlP => with_reducible assumption); (case zzhP => with_reducible assumption); (case zzlE => with_reducible assumption); (case zzhE => with_reducible assumption); (case zzord => (refine ⟨?_, ?_, ?_, ?_, ?_, ?_, ?_, ?_, ?_⟩ <;> (k_dflt (first | with_reducible assumption | exact lt1_lt (by assumption) (by k_mem))))); (case zzord2 => (refine ⟨?_, ?_, ?_, ?_⟩ <;> first | (k_dflt (first | with_reducible assumption | exact lt1_lt (by assumption) (by k_mem))) | k_ne)); k_whole); intro u1' u2' h' tk' g9' TT9 F9 N9 GG'; (k_dflt (have F' := fr_nil TT9 F9)); (k_dflt (have N' := news_nil TT9 N9)); clear F9 N9 GG' TT9; (try dsimp only at N'); (all_goals (try k_fold)))
  k_with "execs cons" => (k_here; (with_reducible show wpAny _ _ (execs (Stmt.For _ _ _ _ _ :: _) _) _ _ _); k_dflt (refine' tail_use ?zzq1 ?zzq2 ?zzq3 ?zzhmug ?zzhk ?zzha ?zzhal ?zzlo ?zzhi ?zzhn ?zzg1 ?zzg2 ?zzg3 ?zzh1 ?zzh2 ?zzm1 ?zzm2 ?zzm3 ?zzlP ?zzhP ?zzlE ?zzhE ?zzord ?zzhmost ?zzd1 ?zzd2 ?zzG ?zzF ?zzN ?zzhm ?zzhL ?zzhdp ?zzhun ?zzhEp ?_; (case zzF => k_asm); (case zzN => k_asm); (case zzG => with_reducible assumption); (case zzq1 => rfl); (case zzq2 => rfl); (case zzq3 => rfl); (case zzhmug => with_reducible assumption); (case zzg1 => with_reducible assumption); (case zzg2 => with_reducible assumption); (case zzh1 => with_reducible assumption); (case zzh2 => with_reducible assumption); (case zzm1 => with_reducible assumption); (case zzm2 => with_reducible assumption); (case zzm3 => with_reducible assumption); (case zzhm => (repeat (first | exact List.forall_mem_nil _ | (refine List.forall_mem_cons.mpr ⟨(by k_mem), ?_⟩)))); (case zzg3 => k_get); (case zzlo => with_reducible assumption); (case zzhi => with_reducible assumption); (case zzhn => (simp only [List.length_take]; omega)); (case zzlP => with_reducible assumption); (case zzhP => with_reducible assumption); (case zzlE => with_reducible assumption); (case zzhE => with_reducible assumption); (case zzord => (refine ⟨?_, ?_, ?_, ?_, ?_, ?_, ?_, ?_, ?_, ?_, ?_, ?_, ?_⟩ <;> (k_dflt (first | with_reducible assumption | exact lt1_lt (by assumption) (by k_mem))))); (case zzhk => omega); (case zzha => omega); (case zzhal => with_reducible assumption); (case zzhmost => omega); (case zzd1 => with_reducible assumption); (case zzd2 => with_reducible assumption); (case zzhL => (refine ⟨?_, ?_⟩ <;> first | (k_dflt (first | with_reducible assumption | exact lt1_lt (by assumption) (by k_mem))) | omega)); (case zzhdp => ktr_room); (case zzhun => ktr_units); (case zzhEp => passes_own); k_whole); intro m9' h' tk' ps9' F' N'; (try dsimp only); (try k_fold))
  (w_on; o_law; o_head (kmHook Mine.written.heap_1 ats (fun _ => by kernel_rfl) [643, 650]); (case hw => w_witness2))
  k_go0
  (all_goals try k_fold)
  (with_reducible rename Below _ _ _ _ => bB9)
  (with_reducible rename Frag.In _ _ => xX9)
  (with_reducible rename Top _ _ _ _ _ _ => tT9)
  have GG9 := Ground.top bB9 xX9 tT9
  k_steps
end
end Mine

theorem PySem.Challenge.cw_qz0103_01_holds : PySem.Challenge.rw_qz0103_01.Holds := by
  exact Mine.law_holds
