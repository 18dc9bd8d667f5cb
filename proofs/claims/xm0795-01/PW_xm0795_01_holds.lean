import PyProof.Rows.All
import Wide.All
import OpenK.AllK
import Wide.FinOn
import Lean
import PySem.Challenge.RW_xm0795_01
set_option Elab.async false
set_option maxRecDepth 100000
set_option maxHeartbeats 8000000
section
open PySem PySem.W PyProof.Rows
namespace Mine
open_top hd for PySem.Challenge.rw_xm0795_01
end Mine
end
section
open PySem PySem.W PyProof.Rows PySem.Calls
namespace Mine

/-- what an update of the fields leaves -/
def Lasts (P : Obj → Prop) : Prop := ∀ (o : Obj) (f : Array Value → Array Value), P o → P (o.mapFields f)

def Tr (P : Obj → Prop) (base : Heap) (e : Addr) (fl : Value) (h : Heap) : Prop :=
  ∃ oe vs T oT ts, h.get? e = some oe ∧ P oe ∧ oe.data = .fields vs ∧ vs[1]? = some (.ref T) ∧ base.get? T = none ∧ T ≠ e ∧ h.get? T = some oT ∧ oT.data = .fields ts ∧ ts[3]? = some fl

def Fly (P : Obj → Prop) (base : Heap) (l : List Env) (e : Addr) (fl : Value) (h : Heap) : Prop :=
  base.StaysIn h ∧ base.get? e = none ∧ h.FunFrames base l ∧ Tr P base e fl h

section
variable {P : Obj → Prop} {M : Model} {A : Around} {E : Value → Shared → Prop} {s : Shared} {base : Heap} {env : Env} {outer : List Env} {L e : Addr} {oe : Obj} {vs : Array Value} {Q : Unit → Shared → Prop}

theorem entry_put (hP : Lasts P) {head : Value} {hadNext : Bool} (hfr : A.frames = some (env :: outer)) (hl : s.heap.FunFrames base (env :: outer)) (hf : env.frame = some L)
    (hkb : base.StaysIn s.heap) (hen : base.get? e = none) (he : s.heap.get? e = some oe) (hp : P oe) (hd : oe.data = .fields vs) (hsz : 1 < vs.size)
    (h : ∀ h', Fly P base (env :: outer) e (rawInt L) h' → s.heap.UpToSlots h' → Q () { s with heap := h' }) :
    wpAny M A (do let a ← frameOf env; let pl ← entryPlaceOf L hadNext; let b ← EntryCells.newEntry head a .none (rawInt L) .none pl; setField (.ref e) 1 b) Q E s := by
  have noRec : ∀ b ∈ (env :: outer).filterMap (·.frame), b ≠ e := fun b hb q => by
    obtain ⟨_, o, ho, hnf⟩ := hl.mem hb
    rw [q, he] at ho; cases ho; exact hnf vs hd
  refine wpAny_bind (wpAny_frameOf_fun hfr hl hf fun h₁ hs₁ => ?_)
  refine wpAny_bind (wpAny_entryPlaceOf fun pl hpl => ?_)
  unfold EntryCells.newEntry newFields
  refine wpAny_bind (wpAny_newObj_type ?_ (hpl.sizeOk5 _ _ _ _ _))
  have he₁ : h₁.get? e = some oe := (hs₁.2.1 e fun hm => noRec e hm rfl).trans he
  have kb₁ : base.StaysIn h₁ := fun b o hbo => (hs₁.2.1 b fun hm => by rw [(hl.mem hm).1] at hbo; cases hbo).trans (hkb b o hbo)
  generalize hto : ({ cls := .type "traceback", dict := none, data := .fields ([head, .ref L, .none, rawInt L, .none] ++ (if pl.isEmpty then List.replicate 6 Value.none else pl)).toArray } : Obj) = to
  have htd : to.data = .fields ([head, .ref L, .none, rawInt L, .none] ++ (if pl.isEmpty then List.replicate 6 Value.none else pl)).toArray := by rw [← hto]
  have he₂ := Heap.get?_push_of_some (h := h₁) to he₁
  refine wpAny_setField he₂ hd hsz (h _ ?_ ?_)
  · have hTe : h₁.objs.size ≠ e := Nat.ne_of_gt (Heap.lt_size he₁)
    have hd₃ := Obj.data_mapFields hd (·.setIfInBounds 1 (Value.ref h₁.objs.size))
    have keep : ∀ b o, b ≠ e → h₁.get? b = some o → ((h₁.push to).update e (Obj.mapFields (·.setIfInBounds 1 (Value.ref h₁.objs.size)))).get? b = some o := fun b o hbe hb => by
      rw [Heap.get?_update_other _ _ (Ne.symm hbe)]
      exact Heap.get?_push_of_some _ hb
    refine ⟨fun b o hbo => keep b o (fun q => by rw [q, hen] at hbo; cases hbo) (kb₁ b o hbo), hen, hl.of_keeps fun b o hb hnf => ?_, ?_⟩
    · obtain ⟨sl, hs⟩ := hs₁.2.2 b o hb
      exact ⟨_, keep b _ (fun q => by rw [q, he] at hb; cases hb; exact hnf vs hd) hs, rfl⟩
    · exact ⟨_, _, h₁.objs.size, to, _, Heap.get?_update_self _ he₂ (Obj.isFreed_of_fields hd₃), hP _ _ hp, hd₃, by simp [hsz], kb₁.fresh, hTe,
        (Heap.get?_update_other _ _ (Ne.symm hTe)).trans (Heap.get?_push_size h₁ (Obj.isFreed_of_fields htd)), htd, by simp⟩
  · intro b o hb hnf
    obtain ⟨sl, hs⟩ := hs₁.2.2 b o hb
    refine ⟨sl, ?_⟩
    rw [Heap.get?_update_other _ _ (show e ≠ b from fun q => by rw [← q, he] at hb; cases hb; exact hnf vs hd)]
    exact Heap.get?_push_of_some _ hs

theorem note_first (hP : Lasts P) (hfr : A.frames = some (env :: outer)) (hl : s.heap.FunFrames base (env :: outer)) (hf : env.frame = some L)
    (hkb : base.StaysIn s.heap) (hen : base.get? e = none) (he : s.heap.get? e = some oe) (hp : P oe) (hd : oe.data = .fields vs) (h1 : vs[1]? = some .none)
    (h : ∀ h', Fly P base (env :: outer) e (rawInt L) h' → s.heap.UpToSlots h' → Q () { s with heap := h' }) : wpAny M A (noteFrame (.ref e) env) Q E s := by
  unfold noteFrame
  simp only [hf]
  refine wpAny_bind (wpAny_field he hd h1 ?_)
  rw [if_neg (by decide)]
  exact entry_put hP hfr hl hf hkb hen he hp hd (Array.getElem?_eq_some_iff.mp h1).1 h

theorem note_next (hP : Lasts P) (hfr : A.frames = some (env :: outer)) (hf : env.frame = some L) (hfl : Fly P base (env :: outer) e .none s.heap)
    (h : ∀ h', Fly P base (env :: outer) e (rawInt L) h' → s.heap.UpToSlots h' → Q () { s with heap := h' }) : wpAny M A (noteFrame (.ref e) env) Q E s := by
  obtain ⟨hkb, hen, hl, oe, vs, T, oT, ts, he, hp, hd, h1, hnT, hTe, hT, hdT, h3⟩ := hfl
  unfold noteFrame
  simp only [hf]
  refine wpAny_bind (wpAny_field he hd h1 ?_)
  rw [if_pos (show (Value.ref T != Value.none) = true from by simp)]
  refine wpAny_bind (wpAny_field hT hdT h3 ?_)
  rw [if_neg (show ¬ ((Value.none == rawInt L) = true) from by simp [rawInt])]
  refine wpAny_bind (wpAny_setField hT hdT (Array.getElem?_eq_some_iff.mp h3).1 ?_)
  have other : ∀ b, b ≠ T → (s.heap.update T (Obj.mapFields (·.setIfInBounds 3 Value.none))).get? b = s.heap.get? b := fun b hb => Heap.get?_update_other _ _ (Ne.symm hb)
  have noRec : ∀ b o, s.heap.get? b = some o → (∀ vs, o.data ≠ .fields vs) → b ≠ T := fun b o hb hnf q => by rw [q, hT] at hb; cases hb; exact hnf ts hdT
  refine entry_put hP hfr (hl.of_keeps fun b o hb hnf => ⟨o, (other b (noRec b o hb hnf)).trans hb, rfl⟩) hf (fun b o hbo => (other b fun q => by rw [q, hnT] at hbo; cases hbo).trans (hkb b o hbo)) hen
    ((other e (Ne.symm hTe)).trans he) hp hd (Array.getElem?_eq_some_iff.mp h1).1 fun h' x1 x2 => h h' x1 fun b o hb hnf => x2 b o ((other b (noRec b o hb hnf)).trans hb) hnf

theorem flight_none {l : List Env} {fl : Value} (hfl : Fly P base l e fl s.heap) (h : ∀ h', Fly P base l e .none h' → s.heap.UpToSlots h' → Q () { s with heap := h' }) :
    wpAny M A (setFlight (.ref e) none) Q E s := by
  obtain ⟨hkb, hen, hl, oe, vs, T, oT, ts, he, hp, hd, h1, hnT, hTe, hT, hdT, h3⟩ := hfl
  have hsz3 : 3 < ts.size := (Array.getElem?_eq_some_iff.mp h3).1
  have other : ∀ b, b ≠ T → (s.heap.update T (Obj.mapFields (·.setIfInBounds 3 ((none : Option Addr).elim Value.none fun f => rawInt f)))).get? b = s.heap.get? b :=
    fun b hb => Heap.get?_update_other _ _ (Ne.symm hb)
  have noRec : ∀ b o, s.heap.get? b = some o → (∀ vs, o.data ≠ .fields vs) → b ≠ T := fun b o hb hnf q => by rw [q, hT] at hb; cases hb; exact hnf ts hdT
  unfold setFlight
  refine wpAny_bind (wpAny_field he hd h1 ?_)
  rw [if_pos (show (Value.ref T != Value.none) = true from by simp)]
  refine wpAny_setField hT hdT hsz3 (h _ ⟨fun b o hbo => (other b fun q => by rw [q, hnT] at hbo; cases hbo).trans (hkb b o hbo), hen,
    hl.of_keeps fun b o hb hnf => ⟨o, (other b (noRec b o hb hnf)).trans hb, rfl⟩, ?_⟩ fun b o hb hnf => ⟨o.slots, (other b (noRec b o hb hnf)).trans hb⟩)
  exact ⟨oe, vs, T, _, _, (other e (Ne.symm hTe)).trans he, hp, hd, h1, hnT, hTe, Heap.get?_update_self _ hT (Obj.isFreed_of_fields (Obj.data_mapFields hdT _)), Obj.data_mapFields hdT _, by simp [hsz3]⟩

theorem Fly.pop {env : Env} {l : List Env} {fl : Value} {h : Heap} (x : Fly P base (env :: l) e fl h) : Fly P base l e fl h :=
  let ⟨a, b, ⟨_, _, c⟩, d⟩ := x; ⟨a, b, c, d⟩
theorem Fly.there {l : List Env} {fl : Value} {h : Heap} (x : Fly P base l e fl h) : ∃ ob vs, h.get? e = some ob ∧ P ob ∧ ob.data = .fields vs :=
  let ⟨_, _, _, oe, vs, _, _, _, he, hp, hd, _⟩ := x; ⟨oe, vs, he, hp, hd⟩
end
end Mine
end
section
open PySem PySem.W PyProof.Rows PySem.Calls
namespace Mine

def ExcCls (h : Heap) (C : Addr) : Prop :=
  ∃ nm q N bs bm hdct sn sub ab col dd k0 k1 k2 k3 k5, h.get? C = some (excClassObj nm q C N bs bm hdct sn sub ab col dd k0 k1 k2 k3 k5 "Exception.__new__") ∧
    bm.contains (.type "Exception") = true ∧ bm.contains (.type "BaseException") = true ∧ bm.contains (.type "AttributeError") = false ∧ bm.contains (.type "NameError") = false ∧ hdct = true
theorem ExcCls.keeps {h h' : Heap} {C : Addr} (x : ExcCls h C) (k : ∀ b o, h.get? b = some o → h'.get? b = some o) : ExcCls h' C :=
  let ⟨nm, q, N, bs, bm, hdct, sn, sub, ab, col, dd, k0, k1, k2, k3, k5, e, r⟩ := x; ⟨nm, q, N, bs, bm, hdct, sn, sub, ab, col, dd, k0, k1, k2, k3, k5, k _ _ e, r⟩

def excMk (K : Frag) (C : Addr) : Bool := match K.lookup C with
  | some ⟨.type "type", _, .cls cd, sl⟩ => (match cd.mro, sl.toList with
    | .ref C' :: bm, [_, _, _, _, some (.builtin n), _] => C' == C && n == "Exception.__new__" && !cd.hasDel && bm.contains (.type "Exception") && bm.contains (.type "BaseException") && !bm.contains (.type "AttributeError") && !bm.contains (.type "NameError") && cd.hasDict
    | _, _ => false)
  | _ => false
theorem excCls_of {K : Frag} {h : Heap} {C : Addr} (X : K.In h) (e : excMk K C = true) : ExcCls h C := by
  unfold excMk at e
  split at e
  · rename_i dd cd sl ho
    split at e
    · rename_i C' bm k0 k1 k2 k3 n k5 hm hs
      simp only [Bool.and_eq_true, beq_iff_eq, Bool.not_eq_true'] at e
      obtain ⟨⟨⟨⟨⟨⟨⟨e1, e2⟩, e3⟩, e4⟩, e5⟩, e6⟩, e7⟩, e8⟩ := e
      obtain ⟨nm, bs, mro, ns, qn, hd, sn, sub, ab, col, del⟩ := cd
      dsimp only at hm e3 e8
      have hsl : sl = #[k0, k1, k2, k3, some (.builtin n), k5] := by
        obtain ⟨l⟩ := sl
        simp only at hs
        rw [hs]
      subst hsl
      subst e2
      subst e1
      subst hm
      subst e3
      subst e8
      exact ⟨nm, qn, ns, bs, bm, true, sn, sub, ab, col, dd, k0, k1, k2, k3, k5, X _ _ ho, e4, e5, e6, e7, rfl⟩
    · cases e
  · cases e

abbrev excTup (rest : List Value) : Obj := { cls := .type "tuple", data := .seq rest.toArray }
abbrev excNew (C t : Addr) : Obj := { cls := .ref C, data := .fields #[.ref t, .none, .none, .none, .bool false, .none] }

section
variable {prog : Program} {w : World} {A : Around} {R : Result → Shared → Prop} {h : Heap} {g : Array GenState} {d : Drawn} {t : Nat} {os : OsState}

theorem exc_new {C : Addr} (Y : ExcCls h C) {rest : List Value}
    (hq : R (.ok (.ret (.ref (h.objs.size + 1)))) ⟨(h.push (excTup rest)).push (excNew C h.objs.size), g, d, t, os⟩) (hrest : rest.length ≤ sizeLine) :
    codeAny (model prog w) A (.call (.builtin "Exception.__new__") ⟨.ref C :: rest, []⟩) R ⟨h, g, d, t, os⟩ := by
  obtain ⟨nm, q, N, bs, bm, hdct, sn, sub, ab, col, dd, k0, k1, k2, k3, k5, hC, c1, c2, c3, c4, c5⟩ := Y
  have F := PySem.F.excBase_Exception
  have hcB : (Value.ref C :: bm).contains (.type "Exception") = true := by rw [List.contains_cons, c1, Bool.or_true]
  have hcA : (Value.ref C :: bm).contains (.type "AttributeError") = false := by rw [List.contains_cons, c3]; rfl
  have hcN : (Value.ref C :: bm).contains (.type "NameError") = false := by rw [List.contains_cons, c4]; rfl
  have hstar := F.noStar
  refine codeAny_call_builtin_code (Code.quiet_builtin _ F.quiet) ?_
  simp only [checkBuiltinCall, F.newKind, F.newSplit, F.newRow]
  repeat (first | refine wpAny_loadPart_at hC ?_ | (refine wpAny_isSubtype_exc hC ?_; rw [hcB]) | refine wpAny_staticBase_exc hC ?_ | refine wpAny_madeBy_exc hC ?_ | simp only [bne_self_eq_false, Bool.false_eq_true, if_false] | wp_step)
  have hends := F.ends
  refine codeAny_builtinAt F.entry ?_
  unfold Builtin.«BaseException.__new__»
  refine PySem.wpAt_bind ?_
  show PySem.wpAt _ _ _ (stack >>= _) _ _ _
  refine PySem.wpAt_bind (PySem.wpAt_stack fun p below => PySem.wpAt_of_wpAny ?_)
  wp_walk
  refine PySem.wpAt_of_wpAny ?_
  rw [F.owner]
  repeat (first | with_reducible refine wpAny_madeHere_exc F.canon hC ?_ | with_reducible refine wpAny_loadPart_at hC ?_ | (with_reducible refine wpAny_isSubtype_exc hC ?_; first | rw [hcB] | rw [hcA] | rw [hcN]) | wp_step)
  show R _ _
  rw [Heap.size_push]
  exact hq

theorem exc_call {C fI : Addr} (Y : ExcCls h C) {rest : List Value} (hi : Looks (model prog w) h (typeLookup (.ref C) "__init__") (some (.ref fI)))
    (hb : ∀ self, Looks (model prog w) h (bindSpecial (.ref fI) self) (.ref fI, [self])) (hrest : rest.length ≤ sizeLine)
    (hq : codeAny (model prog w) (A.under (.builtin "type.__call__" ⟨.ref C :: rest, []⟩)) (.call (.ref fI) ⟨.ref (h.objs.size + 1) :: rest, []⟩) (InitBack (h.objs.size + 1) R)
      ⟨(h.push (excTup rest)).push (excNew C h.objs.size), g, d, t, os⟩) :
    codeAny (model prog w) A (.call (.ref C) ⟨rest, []⟩) R ⟨h, g, d, t, os⟩ := by
  have Y' := Y
  obtain ⟨nm, q, N, bs, bm, hdct, sn, sub, ab, col, dd, k0, k1, k2, k3, k5, hC, c1, c2, c3, c4, c5⟩ := Y
  have f1 := tc_lookup
  have f2 := tc_bind (.ref C)
  have hT : (⟨h, g, d, t, os⟩ : Shared).TypeIs (.ref C) "type" := ⟨_, hC, rfl⟩
  refine codeAny_of_tree ?_
  show wpAny _ _ (callAny (.ref C) _) _ _ _
  repeat (any_goals (first | assumption | with_reducible refine wpAny_loadPart_at hC ?_ | wp_step))
  refine ⟨rfl, ?_⟩
  refine codeAny_call_builtin_at (Code.quiet_builtin _ (by decide +kernel)) entry_typeCall (wpAny_check_type_call_sub hC ?_)
  unfold Builtin.«type.__call__»
  repeat (first | with_reducible refine wpAny_loadPart_at hC ?_ | with_reducible refine wpAny_madeBy_exc hC ?_ | wp_step)
  refine exc_new Y' ?_ hrest
  have k : ∀ b o, h.get? b = some o → ((h.push (excTup rest)).push (excNew C h.objs.size)).get? b = some o := fun b o e => Heap.get?_push_of_some _ (Heap.get?_push_of_some _ e)
  have hx : ((h.push (excTup rest)).push (excNew C h.objs.size)).get? (h.objs.size + 1) = some (excNew C h.objs.size) := by heap_get
  have hC₁ := k _ _ hC
  have hcC : (Value.ref C :: bm).contains (.ref C) = true := by simp
  have i1 := hi.keeps k
  have b1 := (hb (.ref (h.objs.size + 1))).keeps k
  show wpAny _ _ _ _ _ _
  unfold isInstance
  repeat (first | with_reducible refine wpAny_loadPart_at hx ?_ | (with_reducible refine wpAny_isSubtype_exc hC₁ ?_; rw [hcC]) | wp_step)
  show wpAny _ _ (isSubtype (.ref C) (.ref C)) _ _ _
  refine wpAny_isSubtype_exc hC₁ ?_
  rw [hcC]
  repeat (first | with_reducible refine wpAny_loadPart_at hx ?_ | wp_step)
  show wpAny _ _ (typeLookup (.ref C) _) _ _ _
  refine i1.at ?_
  refine wpAny_holding (wpAny_bind (b1.at ?_))
  refine wpAny_bind (wpAny_call ?_)
  refine codeAny_mono hq fun r s' z => ?_
  rcases r with e | (v | _ | _ | _) <;> first | exact z | exact z.elim | skip
  obtain ⟨rfl, z⟩ := z
  exact wpAny_pure (wpAny_pure z)
end
end Mine
end
section
open PySem PySem.W PyProof.Rows PySem.Calls
namespace Mine

/-- in flight, the property kept; news: what the ledger still holds beside the exception -/
def RaisedP (P : Obj → Prop) (base G : Heap) (l : List Env) (e : Addr) (news : List (Addr × Obj)) (h : Heap) : Prop :=
  ∃ B, base.StaysIn B ∧ (∀ b o, G.get? b = some o → b ∉ l.filterMap (·.frame) → B.get? b = some o) ∧
    (∀ q ∈ news, B.get? q.1 = some q.2 ∧ G.get? q.1 = none ∧ base.get? q.1 = none) ∧ Fly P B l e .none h

section
variable {P : Obj → Prop} {M : Model} {A : Around} {E : Value → Shared → Prop} {s' : Shared} {base g : Heap} {outer : List Env} {L a e : Addr} {m : Str → Option Value} {name : Str} {scope : Scope} {cd : Value} {Q : Unit → Shared → Prop} {all news : List (Addr × Obj)}

theorem leave_P {oe : Obj} {vs : Array Value} (hP : Lasts P) (K : Below A base outer g) (F : Fr g L s'.heap m) (N : News g L s'.heap all) (he : (e, oe) ∈ all) (hp : P oe) (hd : oe.data = .fields vs) (h1 : vs[1]? = some .none)
    (hn : ∀ q ∈ news, q ∈ all ∧ q.1 ≠ e) (hk : scope.kind = .function)
    (hQ : ∀ h', RaisedP P base g outer e news h' → g.UpToSlots h' → Q () { s' with heap := h' }) :
    wpAny M (A.deeper (envOf name scope L a cd)) (leaving (envOf name scope L a cd) (.ref e)) Q E s' := by
  have K' := K.push (name := name) (a := a) (cd := cd) F hk
  have Ne := N _ he
  -- no frame of the stack is one of the ledger's objects
  have apart : ∀ q ∈ all, q.1 ∉ (envOf name scope L a cd :: outer).filterMap (·.frame) := fun q hq hm => by
    rcases kts_mem hm with z | z
    · exact (N q hq).2.1 z
    · obtain ⟨_, o, ho, _⟩ := K.frames.mem z
      rw [(N q hq).2.2] at ho; cases ho
  generalize hfs : (envOf name scope L a cd :: outer).filterMap (·.frame) = fs at apart
  have hidden : ∀ b o, s'.heap.get? b = some o → b ≠ e → b ∉ fs → (hideAll s'.heap (e :: fs)).get? b = some o := fun b o q n1 n2 =>
    hideAll_get _ q fun hm => (List.mem_cons.mp hm).elim n1 n2
  have st : base.StaysIn (hideAll s'.heap (e :: fs)) := fun b o q => hidden b o (K'.stays b o q)
    (fun z => by have := K.stays b o q; rw [z, Ne.2.2] at this; cases this) (fun hm => by rw [← hfs] at hm; rw [(K'.frames.mem hm).1] at q; cases q)
  have sg : ∀ b o, g.get? b = some o → b ∉ outer.filterMap (·.frame) → (hideAll s'.heap (e :: fs)).get? b = some o := fun b o q nm => hidden b o (F.keep b o q)
    (fun z => by rw [z, Ne.2.2] at q; cases q) (fun hm => by
      rw [← hfs] at hm
      rcases kts_mem hm with z | z
      · rw [z, kts_self F] at q; cases q
      · exact nm z)
  have hl : ∀ q ∈ news, (hideAll s'.heap (e :: fs)).get? q.1 = some q.2 ∧ g.get? q.1 = none ∧ base.get? q.1 = none := fun q hq =>
    have hq' := hn q hq
    ⟨hidden _ _ (N q hq'.1).1 hq'.2 (apart q hq'.1), (N q hq'.1).2.2, fresh_of_stays K.stays (N q hq'.1).2.2⟩
  have hin : ∀ env ∈ (envOf name scope L a cd :: outer), ∀ b, env.frame = some b → b ∈ (e :: fs) := fun env he b hb => List.mem_cons_of_mem _ (hfs ▸ List.mem_filterMap.mpr ⟨env, he, hb⟩)
  refine wpAny_bind ?_
  refine note_first (base := hideAll s'.heap (e :: fs)) hP K'.stack (funFrames_hide K'.frames hin) rfl (fun b o q => of_hideAll _ q) (hideAll_none _ (.head _)) Ne.1 hp hd h1 fun h₁ f₁ u₁ => ?_
  refine flight_none f₁ fun h₂ f₂ u₂ => ?_
  exact hQ h₂ ⟨_, st, sg, hl, f₂.pop⟩ ((Heap.UpToSlots.of_keeps F.keep).trans (u₁.trans u₂))
end

section
variable {P : Obj → Prop} {prog : Program} {w : World} {A₀ : Around} {E : Value → Shared → Prop} {s' : Shared} {base g g₀ G : Heap} {outer : List Env} {L a e C : Addr} {m : Str → Option Value} {name : Str} {scope : Scope} {cd : Value}
  {n : Str} {b₀ : Stmt} {suite : List Stmt} {pos np : Pos} {rest : List ExceptHandler} {Q : Flow → Shared → Prop} {news : List (Addr × Obj)} {KF : Frag}
  {p : Program} {loose : List Str} {mean : ExcName → Option Value} {mg mb : Str → Option Value} {x : Str}

theorem caught_P (hP : Lasts P) (hPc : ∀ o, P o → o.cls = .ref C) (R : RaisedP P base G (envOf name scope L a cd :: outer) e news s'.heap) (F : Fr g L G m) (K : Below A₀ base outer g) (hsm : G.UpToSlots s'.heap) (XB : KF.In base) (TB : Top p loose mean mg mb base)
    (D : KtsDicts (outer.filterMap (·.frame)) g) (T0 : KtsTurn (outer.filterMap (·.frame)) g₀ g)
    (ex : nsIn KF mainGlobals x = some (some (.ref C))) (q : ktsIn KF C "BaseException" = true)
    (hk : scope.kind = .function) (hlo : (envOf name scope L a cd).kindOf n = some .local) (hx : (envOf name scope L a cd).kindOf x = some .globalImplicit) (hd : (x == ("__debug__" : Str)) = false)
    (k : ∀ h' g' oe ws tk, KtsTurn (outer.filterMap (·.frame)) g₀ g' → Fr g' L h' (fun y => if y = n then some (.ref e) else m y) → News g' L h' ((e, oe) :: news) → P oe → oe.data = .fields ws → Below A₀ base outer g' → KF.In g' → Top p loose mean mg mb g' → KtsDicts (outer.filterMap (·.frame)) g' →
      wpAny (model prog w) ((A₀.deeper (envOf name scope L a cd)).mark (some (.ref e))) (execs (b₀ :: suite) (envOf name scope L a cd))
        (fun f s₄ => wpAny (model prog w) (A₀.deeper (envOf name scope L a cd)) (do bindName (envOf name scope L a cd) n .none; unbindBehindTheSuite (envOf name scope L a cd) n pos) (fun _ s₅ => Q f s₅) E s₄)
        (AsSuiteRaised (model prog w) ((A₀.deeper (envOf name scope L a cd)).mark (some (.ref e))) (envOf name scope L a cd) n pos (notedBy (model prog w) ((A₀.deeper (envOf name scope L a cd)).mark (some (.ref e))) (envOf name scope L a cd) (cameBackBy (model prog w) (A₀.deeper (envOf name scope L a cd)) (envOf name scope L a cd) E)))
        { s' with heap := h', toks := tk }) :
    wpAny (model prog w) (A₀.deeper (envOf name scope L a cd)) (noteFrame (.ref e) (envOf name scope L a cd))
      (fun _ s₂ => wpAny (model prog w) (A₀.deeper (envOf name scope L a cd)) (setFlight (.ref e) none) (fun _ s₃ =>
        wpAny (model prog w) (A₀.deeper (envOf name scope L a cd)) (handleBy (.ref e) (envOf name scope L a cd) (.ExceptHandler (some (.Name x np)) (some n) (b₀ :: suite) pos :: rest)) Q E s₃) E s₂) E s' := by
  obtain ⟨B, hB, hBG, hl, hfl⟩ := R
  have hL : B.get? L = none := by
    obtain ⟨_, ⟨L', _, hf, hn', _⟩, _⟩ := hfl.2.2.1
    obtain rfl : L = L' := Option.some.inj hf
    exact hn'
  refine note_next hP (Around.frames_deeper K.stack) rfl hfl fun h₄ f₄ u₄ => ?_
  refine flight_none f₄ fun h₅ f₅ u₅ => ?_
  have hsm₅ := hsm.trans (u₄.trans u₅)
  obtain ⟨g₅, T₅, F₅, K₅⟩ := kts_ground K F hBG f₅.1 hsm₅
  have X₅ : KF.In g₅ := XB.keeps K₅.stays
  have P₅ : TopRead p loose mg mb g₅ := topRead_of (TB.keeps K₅.stays)
  obtain ⟨ob, _, hob, hobp, _⟩ := f₅.there
  obtain ⟨nm, q', N, bs, bm, hdct, sn, sub, ab, col, dd, k0, k1, k2, k3, k5, newId, hC, hbase, hbT⟩ := kts_cls X₅ q
  refine wpAny_handleBy_cons (codeAny_handlers_test (name_K F₅ X₅ P₅ ex ?_ hk hx hd)) (by intro q; cases q)
  refine wpAny_excMatches_sub_self (F₅.keep _ _ hC) hob (hPc _ hobp) hbase (codeAny_handlers_suite_as ?_)
  refine flight_none f₅ fun h₆ f₆ u₆ => ?_
  have hsm₆ := hsm₅.trans u₆
  obtain ⟨g₆, T₆, F₆, K₆⟩ := kts_ground K F hBG f₆.1 hsm₆
  obtain ⟨oe, ws, hoe, hop, hod⟩ := f₆.there
  have ne₆ : g₆.get? e = none := T₆.none_ _ (kts_fresh F hBG f₆.2.1 fun o ho m => by
    obtain ⟨_, o', ho', hd⟩ := K.frames.mem m
    rw [ho] at ho'
    cases ho'
    obtain ⟨sl, hs⟩ := hsm₆ _ _ (F.keep _ _ ho) hd
    rw [hoe] at hs
    cases hs
    exact hd _ hod)
  have N₆ := News.more F₆ (news := news) (fun q hq => ⟨f₆.1 _ _ (hl q hq).1, (fun z => by have := (hl q hq).1; rw [z, hL] at this; cases this), T₆.none_ _ (kts_none F.keep (hl q hq).2.1)⟩)
    hoe (fun es n q => by rw [hod] at q; cases q) ne₆
  refine stN F₆ N₆ (fun h₇ F₇ N₇ => ?_) hk hlo
  exact k h₇ g₆ oe ws _ (T0.trans T₆) F₇ N₇ hop hod K₆ (XB.keeps K₆.stays) (TB.keeps K₆.stays) (D.turn T₆)
end
end Mine
end
section
open PySem PySem.W PyProof.Rows PySem.Calls Builtin Builtin.ObjectAttr
namespace Mine

section
variable {prog : Program} {w : World} {A : Around} {E : Value → Shared → Prop} {K : Frag} {C x t : Addr} {s : Shared} {h₀ : Heap} {L : Addr} {m : Str → Option Value} {news news' : List (Addr × Obj)} {R : Result → Shared → Prop}

theorem exc_K {rest : List Value} {fI : Addr} (F : Fr h₀ L s.heap m) (N : News h₀ L s.heap news) (X : K.In s.heap) (hm : excMk K C = true)
    (hi : findIn K (.ref C) "__init__" = some (some (.ref fI))) (hf : typeIn K (.ref fI) = some (.type "function")) (hz : rest.length ≤ sizeLine)
    (h : ∀ x t h', Fr h₀ L h' m → News h₀ L h' ((x, excNew C t) :: (t, excTup rest) :: news) → (∀ p ∈ news, p.1 < t) → t < x →
      codeAny (model prog w) (A.under (.builtin "type.__call__" ⟨.ref C :: rest, []⟩)) (.call (.ref fI) ⟨.ref x :: rest, []⟩) (InitBack x R) { s with heap := h' }) :
    codeAny (model prog w) A (.call (.ref C) ⟨rest, []⟩) R s := by
  obtain ⟨hh, g, d, tk, os⟩ := s
  refine exc_call (excCls_of X hm) (looks_findIn X hi) (fun self => bind_fn X self hf) hz (h _ hh.objs.size _ ((F.push _).push _) ?_ (fun p hp => Heap.lt_size (N p hp).1) (Nat.lt_succ_self _))
  have := (N.push F (excTup rest)).push (F.push _) (excNew C hh.objs.size)
  rwa [Heap.size_push] at this

theorem call_exc_K {rest : List Value} {fI : Addr} {Q : Value → Shared → Prop} (F : Fr h₀ L s.heap m) (X₀ : K.In h₀) (N : News h₀ L s.heap news) (hm : excMk K C = true)
    (hi : findIn K (.ref C) "__init__" = some (some (.ref fI))) (hf : isFn K (.ref fI) = true) (hz : rest.length ≤ sizeLine)
    (h : ∀ x t h', Fr h₀ L h' m → News h₀ L h' ((x, excNew C t) :: (t, excTup rest) :: news) → (∀ p ∈ news, p.1 < t) → t < x →
      codeAny (model prog w) (A.under (.builtin "type.__call__" ⟨.ref C :: rest, []⟩)) (.call (.ref fI) ⟨.ref x :: rest, []⟩) (InitBack x fun r s' => match r with | .ok (.ret v) => Q v s' | .ok _ => False | .error e => E e s') { s with heap := h' }) :
    wpAny (model prog w) A (call (.ref C) rest) Q E s := wpAny_call (exc_K F N (X₀.keeps F.keep) hm hi (beq_iff_eq.mp hf) hz h)

/-- Exception.__init__(self, ..) -/
theorem excInit_K {rest : List Value} {Q : Value → Shared → Prop} {ns : Addr → List (Addr × Obj)} (F : Fr h₀ L s.heap m) (X₀ : K.In h₀) (N : News h₀ L s.heap news) (hm : excMk K C = true)
    (U : ∀ t', Upd x (excNew C t) (excNew C t') news (ns t')) (hz : rest.length ≤ sizeLine)
    (h : ∀ t' h', Fr h₀ L h' m → News h₀ L h' ((t', excTup rest) :: ns t') → (∀ p ∈ news, p.1 < t') → Q .none { s with heap := h' }) :
    wpAny (model prog w) A (call (.builtin "Exception.__init__") (.ref x :: rest)) Q E s := by
  obtain ⟨nm, q, Nn, bs, bm, hdct, sn, sub, ab, col, dd, k0, k1, k2, k3, k5, hC, c1, c2, c3, c4, c5⟩ := excCls_of (X₀.keeps F.keep) hm
  have FE := PySem.F.excBase_Exception
  obtain ⟨pre, post, rfl, hns, a, b⟩ := (U s.heap.objs.size).split
  have he : s.heap.get? x = some (excNew C t) := (N (x, excNew C t) (by simp)).1
  obtain ⟨hh, g, d, tk, os⟩ := s
  dsimp only at he hC
  have hcB : (Value.ref C :: bm).contains (.type "Exception") = true := by rw [List.contains_cons, c1, Bool.or_true]
  refine wpAny_call (codeAny_call_builtin FE.init.plain FE.initEntry ?_)
  have hshort := FE.noStar
  simp only [checkBuiltinCall, FE.initKind, FE.initSplit, FE.initRow]
  repeat (first | with_reducible refine wpAny_loadPart_at he ?_ | with_reducible refine wpAny_loadPart_at hC ?_ | (with_reducible refine wpAny_isSubtype_exc hC ?_; rw [hcB]) | wp_step)
  refine wpAny_onRaise ?_
  rw [show ∀ (a b : String) (n : Nat), Bind.check ⟨.positional, "*", "Exception", .self, [⟨"args", .varPos, false⟩]⟩ a b n (List.map (fun x => x.fst) ({ pos := Value.ref x :: rest } : Args).kw) = pure () from
    fun a b n => check_star_args _ _ _ _ _ _]
  refine wpAny_pure ?_
  wp_walk
  have hlt := Heap.lt_size he
  obtain ⟨F₂, N₂⟩ := news_upd (pre := (hh.objs.size, excTup rest) :: pre) (f := Obj.mapFields fun y => y.setIfInBounds 0 (Value.ref hh.objs.size)) (o' := excNew C hh.objs.size) (F.push (excTup rest)) (N.push F (excTup rest))
    (fun p hp => by
      rcases List.mem_cons.mp hp with rfl | hp
      · exact Nat.ne_of_gt hlt
      · exact a p hp) b rfl rfl
  refine h hh.objs.size _ F₂ ?_ fun p hp => Heap.lt_size (N p hp).1
  rw [hns]
  exact N₂

/-- self.message = v on an exception that has no dict yet -/
theorem set_exc {ox : Obj} {vs : Array Value} {name : Str} {v : Value} {Q : Unit → Shared → Prop} {P : Addr} {ns : Addr → List (Addr × Obj)} (F : Fr h₀ L s.heap m) (X₀ : K.In h₀) (N : News h₀ L s.heap news)
    (hcl : ox.cls = .ref C) (hdd : ox.dict = none) (hdat : ox.data = .fields vs)
    (hs : findIn K (.ref C) "__setattr__" = some (some (.builtin "object.__setattr__"))) (ht : takerIn K C name = some none) (hh : hasDictIn K C = true)
    (hmro : (clsIn K C).map (·.mro) = some [.ref C, .ref P, .type "Exception", .type "BaseException", .type "object"])
    (U : ∀ d, Upd x ox { ox with dict := some d } news (ns d))
    (h : ∀ d h', Fr h₀ L h' m → News h₀ L h' ((d, dictOf [⟨PyData.keyHash w.params name, .str name (s.toks + 1), v⟩] 1) :: ns d) → (∀ p ∈ news, p.1 < d) → Q () { s with heap := h', toks := s.toks + 2 }) :
    wpAny (model prog w) A (setAttr (.ref x) name v) Q E s := by
  have X := X₀.keeps F.keep
  obtain ⟨pre, post, rfl, hns, a, b⟩ := (U s.heap.objs.size).split
  have he : s.heap.get? x = some ox := (N (x, ox) (by simp)).1
  have I : InstAt s.heap x ox C none := ⟨he, hcl, by unfold notCls; rw [hdat], by rw [hdd]; trivial⟩
  refine set_plain X I hs ?_
  have SF := PySem.F.store_object
  obtain ⟨cd, hc, hm⟩ := Option.map_eq_some_iff.mp hmro
  have sub : Looks (model prog w) s.heap (isInstance (.ref x) (.type "object")) true := I.type.andThen (looks_mroIn X (by unfold mroIn; rw [hc, Option.bind_some, hm]; rfl))
  refine codeAny_call_builtin SF.slot.plain SF.entry (@check_slot (model prog w) _ _ _ "object.__setattr__" "object" "__setattr__" (.ref x) [.str name s.toks, v] [] _ SF.kind SF.split sub (SF.args (.ref x) (.str name s.toks) v) ?_)
  obtain ⟨attr, ha, hr⟩ := Option.bind_eq_some_iff.mp ht
  have hm' : Looks (model prog w) s.heap (mroOf (.ref C)) cd.mro := (looks_clsIn X hc).andThen .now
  have L3 : Looks (model prog w) s.heap (storeTaker? attr) none := by
    cases attr with
    | none => exact .now
    | some y =>
      obtain ⟨z, hz, e⟩ := Option.map_eq_some_iff.mp hr
      refine (looks_takesIn X hz).andThen ?_
      cases z
      · exact .now
      · cases e
  have pass := PySem.F.store_Exception.passes (.ref x)
  obtain ⟨hp, g, d, tk, os⟩ := s
  dsimp only at he hm' L3 sub
  rw [osa_eq, refuse_eq]
  refine wpAny_bind (wpAny_bind (I.type.at (wpAny_bind (hm'.at ?_))))
  rw [hm, refuseLoop_ref, refuseLoop_ref, pass]
  refine wpAny_pure (wpAny_bind (I.type.at (wpAny_bind ((looks_findIn X ha).at (wpAny_bind (L3.at ?_))))))
  obtain ⟨cd', hc', hd'⟩ := any_some hh
  rw [hc] at hc'
  obtain rfl : cd = cd' := Option.some.inj hc'
  obtain ⟨oc, od, oda, osl⟩ := ox
  dsimp only at hcl hdd hdat
  subst hcl hdd hdat
  have hlt := Heap.lt_size he
  have hx₁ : (hp.push emptyDict).get? x = some ⟨.ref C, none, .fields vs, osl⟩ := Heap.get?_push_of_some _ he
  refine wpAny_bind (wpAny_pure (wpAny_bind (wpAny_bind (wpAny_loadPart he (wpAny_bind ((looks_clsIn X hc).at ?_))))))
  rw [hd']
  refine wpAny_bind (wpAny_alloc (wpAny_bind (wpAny_update hx₁ ?_)))
  refine wpAny_pure (a := some hp.objs.size) (wpAny_bind (wpAny_pure (wpAny_bind ?_)))
  obtain ⟨F₂, N₂⟩ := news_upd (pre := (hp.objs.size, emptyDict) :: pre) (f := fun o => { o with dict := some hp.objs.size }) (o' := ⟨.ref C, some hp.objs.size, .fields vs, osl⟩) (F.push emptyDict) (N.push F emptyDict)
    (fun p hp => by
      rcases List.mem_cons.mp hp with rfl | hp
      · exact Nat.ne_of_gt hlt
      · exact a p hp) b rfl rfl
  obtain ⟨F₃, N₃⟩ := news_upd (pre := []) (post := pre ++ (x, _) :: post) (f := Obj.putName name (PyData.keyHash w.params name) (.str name (tk + 1)) v) (o' := dictOf [⟨PyData.keyHash w.params name, .str name (tk + 1), v⟩] 1) F₂ N₂ (fun _ h => nomatch h)
    (fun p hp => by
      rcases List.mem_append.mp hp with hp | hp
      · exact Nat.ne_of_lt (Heap.lt_size (N p (List.mem_append_left _ hp)).1)
      · rcases List.mem_cons.mp hp with rfl | hp
        · exact Nat.ne_of_lt hlt
        · exact Nat.ne_of_lt (Heap.lt_size (N p (List.mem_append_right _ (.tail _ hp))).1)) (by show Obj.putName name _ _ v (dictOf [] 0) = _; rw [putName_dict]; rfl) rfl
  have D := (N₂ (hp.objs.size, emptyDict) (.head _)).1
  have D' := (N₃ (hp.objs.size, dictOf [⟨PyData.keyHash w.params name, .str name (tk + 1), v⟩] 1) (.head _)).1
  unfold nsSet
  refine wpAny_bind (wpAny_bind (wpAny_askSetting (wpAny_pure (wpAny_bind (wpAny_mkText (wpAny_bind (wpAny_loadPart D ?_)))))))
  have c : (!(#[] : Array DictEntry).any (·.key.isStr name) && (#[] : Array DictEntry).any (·.refKey)) = false := by simp
  dsimp only
  rw [aRefKeyMayBeTheName_at, c]
  refine wpAny_updatePart D ?_
  refine wpAny_bind (wpAny_lookBehind D' (pastItsLine_dict (by simp [sizeLine_eq])) ?_)
  refine wpAny_pure (h _ _ F₃ ?_ fun p hp => Heap.lt_size (N p hp).1)
  rw [hns]
  exact N₃

/-- e.message of an exception that has a dict -/
theorem get_exc {ox : Obj} {od : Option Obj} {name : Str} {v : Value} {expr : Bool} {Q : Value → Shared → Prop} (X : K.In s.heap) (I : InstAt s.heap x ox C od)
    (hga : findIn K (.ref C) "__getattribute__" = some (some (.builtin "BaseException.__getattribute__"))) (hgn : findIn K (.ref C) "__getattr__" = some none)
    (hb : mroIn K C (.type "BaseException") = some true)
    (hf : findObj K C od name = some (.value v)) (hv : handedIn v = true) (h : Q v { s with toks := s.toks + 1 }) :
    wpAny (model prog w) A (getAttr (.ref x) name expr) Q E s := by
  obtain ⟨hp, g, d, tk, os⟩ := s
  have FB := PySem.F.attrBase_Exception
  have L0 := I.type (M := model prog w)
  have L1 := looks_findIn (M := model prog w) X hga
  have L2 := looks_findIn (M := model prog w) X hgn
  have L4 := looks_find (M := model prog w) X I hf
  have L3 : Looks (model prog w) hp (isInstance (.ref x) (.type "BaseException")) true := L0.andThen (looks_mroIn X hb)
  dsimp only at L0 L1 L2 L4
  have f3 := FB.ga.bind (.ref x)
  have hx2 : (Value.builtin "BaseException.__getattribute__" == Value.builtin "object.__getattribute__") = false := by decide +kernel
  have hx1 : (onTheHeap (Value.ref C) && Value.builtin "BaseException.__getattribute__" == Value.builtin "object.__getattribute__") = false := by rw [hx2]; rfl
  have hx0 : (expr && onTheHeap (Value.builtin "BaseException.__getattribute__")) = false := by cases expr <;> rfl
  unfold getAttr getAttrBy
  refine wpAny_bind (wpAny_mkText (wpAny_holding (wpAny_bind (L0.at (wpAny_bind (L1.at ?_))))))
  dsimp only
  rw [hx1]
  show wpAny _ _ (getAttrByItsOwn _ _ _ _ _ _) _ _ _
  unfold getAttrByItsOwn hookBefore
  refine wpAny_bind ?_
  show wpAny _ _ (typeLookup (.ref C) "__getattr__") _ _ _
  refine L2.at ?_
  refine wpAny_bind (wpAny_attempt (wpAny_holding ?_))
  unfold callGetattribute
  rw [hx0]
  show wpAny _ _ (boundAndCalled _ _ _) _ _ _
  unfold boundAndCalled
  rw [f3]
  refine wpAny_bind (wpAny_pure ?_)
  refine wpAny_call (codeAny_call_builtin FB.ga.plain PySem.F.entry_bexc_ga (@check_slot (model prog w) _ _ _ "BaseException.__getattribute__" "BaseException" "__getattribute__" (.ref x) [.str name tk] [] _ (by decide +kernel) (by decide +kernel) L3 (PySem.F.args_bexc_ga _ _) ?_))
  unfold Builtin.«object.__getattribute__»
  repeat lk
  have z : handedOut v = (pure v : Sem Value) := handedOut_of hv
  show wpAny _ _ (handedOut v) _ _ _
  rw [z]
  exact wpAny_pure h

/-- what stands behind the evaluated exception of a raise -/
def RaisE (E : Value → Shared → Prop) (v : Value) (s₁ : Shared) : Prop :=
  ∃ e C oe vs, v = .ref e ∧ ExcCls s₁.heap C ∧ s₁.heap.get? e = some oe ∧ oe.cls = .ref C ∧ oe.data = .fields vs ∧ vs[1]? = some .none ∧ E (.ref e) s₁
theorem RaisE.mk {e C : Addr} {oe : Obj} {vs : Array Value} (hm : excMk K C = true) (F : Fr h₀ L s.heap m) (X₀ : K.In h₀) (N : News h₀ L s.heap news) (he : (e, oe) ∈ news) (hc : oe.cls = .ref C) (hd : oe.data = .fields vs) (h1 : vs[1]? = some .none)
    (h : E (.ref e) s) : RaisE E (.ref e) s :=
  ⟨e, C, oe, vs, rfl, excCls_of (X₀.keeps F.keep) hm, (N _ he).1, hc, hd, h1, h⟩

theorem Raise_E {env : Env} {ex : Expr} {pos : Pos} {Q : Flow → Shared → Prop} {M : Model} (hh : A.handled = none)
    (h : wpAny M A (eval ex env) (RaisE E) E s) : wpAny M A (exec (.Raise (some ex) none pos) env) Q E s := by
  show wpAny M A (do standAt pos; raiseStmt env (some (do let v ← eval ex env; standAt pos; pure v)) none) Q E s
  refine wpAny_bind (wpAny_standAt ?_)
  unfold raiseStmt
  dsimp only
  refine wpAny_bind (wpAny_bind (wpAny_mono h (fun v s₁ h₁ => wpAny_bind (wpAny_standAt (wpAny_pure ?_))) fun _ _ x => x))
  obtain ⟨e, C, oe, vs, rfl, ⟨nm, q, Nn, bs, bm, hdct, sn, sub, ab, col, dd, k0, k1, k2, k3, k5, hC, c1, c2, c3, c4, c5⟩, he, hc, hd, h1, hE⟩ := h₁
  obtain ⟨hp, g, d, tk, os⟩ := s₁
  obtain ⟨oc, od, oda, osl⟩ := oe
  dsimp only at hc hd he hC
  subst hc hd
  have hcB : (Value.ref C :: bm).contains (.type "BaseException") = true := by rw [List.contains_cons, c2, Bool.or_true]
  have hnt : ∀ {Q' : Bool → Shared → Prop}, Q' false ⟨hp, g, d, tk, os⟩ → wpAny M A (isType (.ref e)) Q' E ⟨hp, g, d, tk, os⟩ := by
    intro Q' hq
    simp only [isType, loadHead]
    exact wpAny_bind (wpAny_loadPart he (wpAny_pure hq))
  refine wpAny_bind (wpAny_pure ?_)
  dsimp only
  refine wpAny_bind (wpAny_holding ?_)
  unfold excFromValue isExcClass
  refine wpAny_bind (wpAny_bind (hnt ?_))
  simp only [Bool.false_eq_true, if_false]
  refine wpAny_pure ?_
  simp only [Bool.false_eq_true, if_false]
  unfold isInstance
  refine wpAny_bind (wpAny_bind ?_)
  repeat (first | with_reducible refine wpAny_loadPart_at he ?_ | (with_reducible refine wpAny_isSubtype_exc hC ?_; rw [hcB]) | wp_step)
  rw [h1]
  refine wpAny_pure ?_
  rw [if_neg (by decide)]
  refine wpAny_pure ?_
  unfold raiseNew
  refine wpAny_bind (wpAny_handled ?_)
  rw [hh]
  first
    | exact wpAny_throw hE
    | exact wpAny_bind (wpAny_pure (wpAny_throw hE))
end
end Mine
end
section
open PySem PySem.W PyProof.Rows PySem.Calls
namespace Mine

/-- the end of a def that may have caught something: all that stood stands (frames up to slots), the value is as told -/
def LeaveT (fs : List Addr) (g : Heap) (s₀ : Shared) (Ok : Value → Prop) (v : Value) (s' : Shared) : Prop :=
  ∃ g' L' m' h' tk', KtsTurn fs g g' ∧ Fr g' L' h' m' ∧ s' = { s₀ with heap := h', toks := tk' } ∧ Ok v
theorem leaveT_ {fs : List Addr} {g g' h' : Heap} {L' : Addr} {m' : Str → Option Value} {s₀ : Shared} {Ok : Value → Prop} {v : Value} {tk' : Nat} (T : KtsTurn fs g g') (F : Fr g' L' h' m') (h : Ok v) :
    LeaveT fs g s₀ Ok v { s₀ with heap := h', toks := tk' } := ⟨g', L', m', h', tk', T, F, rfl, h⟩

section
variable {prog : Program} {w : World} {A₀ : Around} {s : Shared} {base h₀ : Heap} {L : Addr} {m : Str → Option Value} {env : Env} {news : List (Addr × Obj)} {K : Frag} {p : Program} {loose : List Str} {mean : ExcName → Option Value} {mg mb : Str → Option Value}
    {Q E : Value → Shared → Prop} {name qual : Str} {params : Arguments} {body : List Stmt} {scope : Scope} {dV kV doc pm cdv ct oc : Value} {an od : Option Addr} {osl : Array (Option Value)} {f : Addr} {args : List Value} {binds : List (Str × Value)} {Ok : Value → Prop}

theorem enter_T (B : Below A₀ base [] h₀) (F : Fr h₀ L s.heap m) (X₀ : K.In h₀) (N : News h₀ L s.heap news) (T : Top p loose mean mg mb h₀) (hf : env.frame = some L) (hke : env.scope.kind = .function)
    (ho : K.lookup f = some ⟨oc, od, .func (fnOf name qual params body scope dV kV doc pm an cdv ct), osl⟩) (hcd : codeIn K cdv qual = true) (hroom : (A₀.deeper env).depth < recursionLimit)
    (hbind : BindsTo s (fnOf name qual params body scope dV kV doc pm an cdv ct) ⟨args, []⟩ binds) (hloc : ∀ y ∈ binds, scope.names.lookup y.1 = some .local)
    (hco : scope.isCoroutine = false) (hgen : scope.isGenerator = false) (hk : scope.kind = .function) (hcell : ∀ x ∈ scope.names, x.2 ≠ .cell)
    (h : ∀ L' h₁, Fr s.heap L' h₁ (fun y => binds.reverse.lookup y) → News s.heap L' h₁ [] → Below (A₀.deeper env) base [env] s.heap → K.In s.heap → Top p loose mean mg mb s.heap → KtsDicts ([env].filterMap (·.frame)) s.heap →
      wpAny (model prog w) ((A₀.deeper env).deeper (envOf qual scope L' f cdv)) (execs body (envOf qual scope L' f cdv))
        (fun fl s' => LeaveT ([env].filterMap (·.frame)) s.heap s Ok (match fl with | .ret v => v | _ => .none) s') (fun _ _ => False)
        { s with heap := h₁, toks := s.toks + binds.length })
    (hq : ∀ v h' tk', Ok v → Fr h₀ L h' m → News h₀ L h' news → Q v { s with heap := h', toks := tk' }) :
    wpAny (model prog w) (A₀.deeper env) (call (.ref f) args) Q E s := by
  have X := X₀.keeps F.keep
  have B₁ : Below (A₀.deeper env) base [env] s.heap := pushX B F hf hke
  obtain ⟨oL, es, ep, hLg, hLd, hLk, hLf⟩ := F.ns
  have hfs : [env].filterMap (·.frame) = [L] := by simp [hf]
  refine wpAny_call (codeAny_call_def (fd := fnOf name qual params body scope dV kV doc pm an cdv ct) (body := body) (binds := binds) hroom (X _ _ ho) rfl (T.nolimit.keeps F.keep) (codeRec_of X hcd) rfl hbind hcell hloc (fun h₁ hns hk₁ => ?_) hco hgen hk)
  refine wpAny_mono (h s.heap.objs.size h₁ ⟨hns, hk₁, Nat.le_refl _⟩ News.nil B₁ X (T.keeps F.keep) ?_) (fun fl s' hl => ?_) (fun _ _ y => y.elim)
  · rw [hfs]
    intro b hb
    obtain rfl := List.mem_singleton.mp hb
    exact ⟨oL, es, ep, hLg, hLd⟩
  · obtain ⟨g', L', m', h', tk', T', F', rfl, hv⟩ := hl
    rw [hfs] at T'
    obtain ⟨sl, hs⟩ := T'.up hLg
    have nL₀ : h₀.get? L = none := kts_self F
    have up : ∀ b o, s.heap.get? b = some o → b ≠ L → h'.get? b = some o := fun b o e nb => F'.keep b o (T'.other b o e (fun q => nb (List.mem_singleton.mp q)))
    exact hq _ h' tk' hv ⟨⟨_, es, ep, F'.keep _ _ hs, hLd, hLk, hLf⟩, fun b o e => up b o (F.keep b o e) (fun q => by rw [q, nL₀] at e; cases e), F.above⟩
      fun q hq' => ⟨up _ _ (N q hq').1 (N q hq').2.1, (N q hq').2⟩
end
end Mine
end
section
open PySem PySem.W PyProof.Rows PySem.Calls
namespace Mine

theorem allNe_of {t x : Addr} {l : List (Addr × Obj)} (h : AllLt t l) (hx : @LE.le Nat _ t x) : ∀ p ∈ l, p.1 ≠ x := by
  induction l with
  | nil => intro p hp; cases hp
  | cons q r ih =>
    intro p hp
    rcases List.mem_cons.mp hp with rfl | hp
    · have h1 : @LT.lt Nat _ p.1 t := h.1
      intro e
      rw [e] at h1
      exact absurd (Nat.lt_of_lt_of_le h1 hx) (Nat.lt_irrefl _)
    · exact ih h.2 p hp

section
variable {prog : Program} {w : World} {A : Around} {E : Value → Shared → Prop} {s : Shared} {env : Env} {h₀ : Heap} {x : Str} {body : List Stmt} {Q : Flow → Shared → Prop}

/-- between the turns: the set holds the ints taken, none of them twice -/
def MetJ (prog : Program) (w : World) (D : Addr) (x : Str) (m₀ : Str → Option Value) (ns : List Int) (i : Nat) (m₁ : Str → Option Value) (news₁ : List (Addr × Obj)) : Prop :=
  ∃ so k, news₁ = [(D, so)] ∧ so.SetObjOf (PySem.intKind prog w) (fun z => decide (z ∈ ns.take i)) k ∧ k ≤ i ∧ (ns.take i).Nodup ∧ ∀ z, z ≠ x → m₁ z = m₀ z

theorem iter_met {l D : Addr} {so : Obj} {vs : List Value} {ns : List Int} {m₀ : Str → Option Value}
    (hh : A.handled = none) (hl : h₀.IsList l vs.toArray) (hi : IntsAre vs ns) (F : Fr h₀ env.locals s.heap m₀) (N : News h₀ env.locals s.heap [(D, so)]) (hs : so.SetObjOf (PySem.intKind prog w) (fun _ => false) 0)
    (turn : ∀ i n t so₁ k h tk own, ns[i]? = some n → i < ns.length → k ≤ i → so₁.SetObjOf (PySem.intKind prog w) (fun z => decide (z ∈ ns.take i)) k → (ns.take i).Nodup → OwnOff own [D] →
      Fr h₀ env.locals h (fun y => if y = x then some (.int n t) else m₀ y) → News h₀ env.locals h ((D, so₁) :: own) →
      wpAny (model prog w) A (execs body env) (InvPostN h₀ env.locals (MetJ prog w D x m₀ ns (i + 1)) own [D] { s with heap := h, toks := tk } Q) E { s with heap := h, toks := tk })
    (done : ∀ (u : Str → Option Value) so₁ h tk, ns.Nodup → Fr h₀ env.locals h (fun z => if z = x then u z else m₀ z) → News h₀ env.locals h [(D, so₁)] → Q .next { s with heap := h, toks := tk }) :
    wpAny (model prog w) A (pyIter (.ref l)) (fun it s₂ => LoopAtV prog w A h₀ env x body Q E it s₂) E s := by
  refine iter_invN (MetJ prog w D x m₀ ns) hh hl hi F N ⟨so, 0, rfl, ?_, Nat.le_refl _, by simp, fun _ _ => rfl⟩ ?_ ?_
  · simpa using hs
  · rintro i n t m₁ news₁ h tk own hn _ hoff ⟨so₁, k, rfl, hso, hk, hnd, hm⟩ F₁ N₁
    have e : (fun z => if z = x then some (Value.int n t) else m₁ z) = fun z => if z = x then some (Value.int n t) else m₀ z := by
      funext z
      by_cases h1 : z = x
      · simp [h1]
      · simp only [if_neg h1]; exact hm z h1
    rw [e] at F₁
    exact turn i n t so₁ k h tk own hn (by obtain ⟨h, _⟩ := List.getElem?_eq_some_iff.mp hn; exact h) hk hso hnd hoff F₁ N₁
  · rintro m₁ news₁ h tk ⟨so₁, k, rfl, _, _, hnd, hm⟩ F₁ N₁
    rw [List.take_length] at hnd
    refine done m₁ so₁ h tk hnd ?_ N₁
    have e : (fun z => if z = x then m₁ z else m₀ z) = m₁ := by
      funext z
      by_cases h1 : z = x
      · simp [h1]
      · simp only [if_neg h1]; exact (hm z h1).symm
    rw [e]; exact F₁

theorem met_end {D : Addr} {ns : List Int} {m₀ m' : Str → Option Value} {i k : Nat} {n : Int} {so' : Obj} {own : List (Addr × Obj)} {L : Addr} {s₁ : Shared} {h' : Heap} {tk : Nat}
    (F : Fr h₀ L h' m') (N : News h₀ L h' ((D, so') :: own)) (hn : ns[i]? = some n) (hk : k ≤ i) (hd : (ns.take i).Nodup) (hne : ¬ n ∈ ns.take i)
    (hs : so'.SetObjOf (PySem.intKind prog w) (fun z => decide (z ∈ ns.take i) || decide (z = n)) (if decide (n ∈ ns.take i) then k else k + 1)) (hm : ∀ z, z ≠ x → m' z = m₀ z) :
    InvEndN h₀ L (MetJ prog w D x m₀ ns (i + 1)) own [D] s₁ { s₁ with heap := h', toks := tk } := by
  have ht : ns.take (i + 1) = ns.take i ++ [n] := by rw [List.take_add_one, hn]; rfl
  have hne' : n ∉ ns.take i := hne
  have hne : ¬ decide (n ∈ ns.take i) = true := by simpa using hne
  refine InvEndN.intro F N (nx := [(D, so')]) ⟨so', k + 1, rfl, ?_, by omega, ?_, hm⟩ rfl (fun p hp => ?_) (fun p hp => .tail _ hp)
  · rw [if_neg hne] at hs
    have e : (fun z => decide (z ∈ ns.take (i + 1))) = fun z => decide (z ∈ ns.take i) || decide (z = n) := by
      funext z
      rw [ht]
      simp [List.mem_append]
    rw [e]; exact hs
  · rw [ht, List.nodup_append]
    exact ⟨hd, by simp, by intro a ha b hb e; simp at hb; subst hb; subst e; exact hne' ha⟩
  · rw [List.mem_singleton.mp hp]; exact .head _
end

theorem twice_of {ns : List Int} {i : Nat} {n : Int} (hn : ns[i]? = some n) (hm : n ∈ ns.take i) : ¬ ns.Nodup := by
  intro hd
  obtain ⟨hi, hx⟩ := List.getElem?_eq_some_iff.mp hn
  obtain ⟨j, hj, e⟩ := List.getElem_of_mem hm
  rw [List.length_take] at hj
  rw [List.getElem_take] at e
  exact List.pairwise_iff_getElem.mp hd j i (by omega) hi (by omega) (by rw [e, hx])
end Mine
end
section
open PySem PySem.W PyProof.Rows PySem.Calls
namespace Mine

theorem kk_exc (w : World) : excMk (hd.heap_39 w.params) 44 = true := by kernel_rfl
theorem kk_mro (w : World) : (clsIn (hd.heap_39 w.params) 44).map (·.mro) = some [.ref 44, .ref 31, .type "Exception", .type "BaseException", .type "object"] := by kernel_rfl
theorem kk_ktsIn (w : World) : ktsIn (hd.heap_39 w.params) 44 "BaseException" = true := by kernel_rfl
theorem meta_exc : typeOf (.type "Exception") = pure (.type "type") := by kernel_rfl

def fewS : Str := Str.ofString "a table tells sixteen numbers of codes"
def unfitS : Str := Str.ofString "a table has another number of symbols"
def againS : Str := Str.ofString "a symbol stands twice in a table"
def told (cs ss : List Int) : Str :=
  if cs.length ≠ 16 ∨ (∃ c ∈ cs, c < 0) then fewS else if cs.sum ≠ ss.length ∨ 256 < ss.length then unfitS else if ¬ ss.Nodup then againS else Str.ofString ""

def ExcP (C d : Addr) (o : Obj) : Prop := o.cls = .ref C ∧ o.dict = some d
theorem lasts_excP {C d : Addr} : Lasts (ExcP C d) := by
  intro o f h
  refine ⟨(Obj.cls_mapFields o f).trans h.1, ?_⟩
  obtain ⟨a, b, c, e⟩ := o
  cases c <;> exact h.2

theorem get_exc_K {prog : Program} {w : World} {A : Around} {E Q : Value → Shared → Prop} {K : Frag} {C x d : Addr} {s : Shared} {h₀ : Heap} {L : Addr} {m : Str → Option Value} {news : List (Addr × Obj)} {oe : Obj} {ws : Array Value} {es : List DictEntry} {n : Nat} {name : Str} {v : Value} {attr : Option Value} {expr : Bool}
    (F : Fr h₀ L s.heap m) (X₀ : K.In h₀) (N : News h₀ L s.heap news) (hp : ExcP C d oe) (he : (x, oe) ∈ news) (hd : oe.data = .fields ws) (hdm : (d, dictOf es n) ∈ news)
    (hga : findIn K (.ref C) "__getattribute__" = some (some (.builtin "BaseException.__getattribute__"))) (hgn : findIn K (.ref C) "__getattr__" = some none) (hb : mroIn K C (.type "BaseException") = some true)
    (ha : findIn K (.ref C) name = some attr) (hn : noGet K attr = true) (hh : hasDictIn K C = true) (hl : getL name es = some (some v)) (hv : handedIn v = true) (h : Q v { s with toks := s.toks + 1 }) :
    wpAny (model prog w) A (getAttr (.ref x) name expr) Q E s :=
  get_exc (od := some (dictOf es n)) (X₀.keeps F.keep) ⟨(N _ he).1, hp.1, by unfold notCls; rw [hd], by rw [hp.2]; exact (N _ hdm).1⟩ hga hgn hb (findObj_own hh ha hn hl) hv h

def OkStr (x : Str) (v : Value) : Prop := ∃ t, v = .str x t

inductive Rem (e : Addr) : List (Addr × Obj) → List (Addr × Obj) → Prop
  | head {o : Obj} {r : List (Addr × Obj)} : (∀ p ∈ r, p.1 ≠ e) → Rem e ((e, o) :: r) r
  | tail {p : Addr × Obj} {r r' : List (Addr × Obj)} : p.1 ≠ e → Rem e r r' → Rem e (p :: r) (p :: r')
  | stop {r : List (Addr × Obj)} : Rem e r []
theorem Rem.out {e : Addr} {all news : List (Addr × Obj)} (h : Rem e all news) : ∀ q ∈ news, q ∈ all ∧ q.1 ≠ e := by
  induction h with
  | head h => exact fun q hq => ⟨.tail _ hq, h q hq⟩
  | tail h _ ih =>
    intro q hq
    rcases List.mem_cons.mp hq with rfl | hq
    · exact ⟨.head _, h⟩
    · exact ⟨.tail _ (ih q hq).1, (ih q hq).2⟩
  | stop => exact fun _ hq => nomatch hq
local macro_rules | `(tactic| k_upd) => `(tactic| first | (refine' Rem.head ?a; (case a => k_all)) | (refine' Rem.tail ?a ?b; (case a => k_ne); (case b => k_upd)) | exact Rem.stop)
local macro_rules | `(tactic| k_all) => `(tactic| first
  | exact allNe_of (by assumption) (by omega)
  | exact allNe_of (And.right (by assumption)) (by omega)
  | exact allNe_of (And.right (And.right (by assumption))) (by omega)
  | exact allNe_of (And.right (And.right (And.right (by assumption)))) (by omega)
  | exact allNe_of (And.right (And.right (And.right (And.right (by assumption))))) (by omega))

local macro_rules | `(tactic| walk_at "call ref") => `(tactic| (k_here; k_dflt (refine' call_exc_K (C := 44) ?k1 ?k2 ?k3 ?k4 ?k5 ?k6 ?k7 ?_; (case k1 => k_asm); (case k2 => k_asm); (case k3 => k_asm); (case k4 => exact kk_exc _); (case k5 => k_is); (case k6 => k_is); (case k7 => size_fits); k_whole; intro x' d' h' F' N' l1 l2; (try k_lt l1); (try k_lt2 l2); (try k_sweep); k_enter)))
local macro_rules | `(tactic| walk_at "getMethod type:Exception") => `(tactic| (k_here; refine' method_type ?F ?X ?m (by decide +kernel) ?e ?h ?_; (case F => k_asm); (case X => k_asm); (case m => exact meta_exc); (case e => k_dflt k_is); (case h => k_handed)))
local macro_rules | `(tactic| walk_at "call builtin:Exception.__init__") => `(tactic| (k_here; k_dflt (refine' excInit_K ?k1 ?k2 ?k3 ?k4 ?k5 ?k6 ?_; (case k1 => k_asm); (case k2 => k_asm); (case k3 => k_asm); (case k4 => exact kk_exc _); (case k5 => (intro t9; k_upd)); (case k6 => size_fits); k_whole; intro t' h' F' N' l1; (try k_lt l1); (try k_sweep))))
local macro_rules | `(tactic| walk_at "setAttr ref") => `(tactic| (k_here; k_dflt (refine' set_exc (C := 44) ?k1 ?k2 ?k3 ?k4 ?k5 ?k6 ?k7 ?k8 ?k9 ?k10 ?k11 ?_; (case k1 => k_asm); (case k2 => k_asm); (case k3 => k_asm); (case k11 => (intro t9; k_upd)); (case k4 => exact rfl); (case k5 => exact rfl); (case k6 => exact rfl); (case k7 => k_is); (case k8 => k_is); (case k9 => k_is); (case k10 => exact kk_mro _); k_whole; intro d' h' F' N' l1; (try k_lt l1); (try k_sweep))))
local macro_rules | `(tactic| walk_at "exec Raise some none") => `(tactic| (k_here; refine Raise_E rfl ?_))
local macro_rules | `(tactic| walk_at "RaisE") => `(tactic| (k_dflt (refine' RaisE.mk (C := 44) ?k1 ?k2 ?k3 ?k4 ?k5 ?k6 ?k7 ?k8 ?_; (case k2 => k_asm); (case k3 => k_asm); (case k1 => exact kk_exc _); (case k4 => k_asm); (case k5 => k_mem); (case k6 => exact rfl); (case k7 => exact rfl); (case k8 => exact rfl); k_whole)))
local macro_rules | `(tactic| walk_at "leaving ref") => `(tactic| (k_here; k_dflt (refine' leave_P (P := ExcP 44 _) lasts_excP ?k1 ?k2 ?k3 ?k4 ?k5 ?k6 ?k7 (Rem.out ?k8) ?k9 ?_; (case k1 => assumption); (case k2 => assumption); (case k3 => assumption); (case k4 => k_mem); (case k5 => exact ⟨rfl, rfl⟩); (case k6 => exact rfl); (case k7 => exact rfl); (case k8 => k_upd); (case k9 => exact rfl); k_whole; intro h' R' U')))
local macro_rules | `(tactic| walk_at "noteFrame ref") => `(tactic| (k_here; (rename RaisedP _ _ _ _ _ _ _ => rkX); k_dflt (refine' caught_P lasts_excP (fun _ h => h.1) rkX ?F ?K ?U ?XB ?TB ?D ?T0 ?ex ?q ?h1 ?h2 ?h3 ?h4 ?_; (case F => assumption); (case K => assumption); (case U => assumption); (case XB => assumption); (case TB => assumption); (case D => assumption); (case T0 => first | assumption | exact KtsTurn.refl); (case ex => k_is); (case q => exact kk_ktsIn _); (case h1 => exact rfl); (case h2 => exact rfl); (case h3 => exact rfl); (case h4 => decide); k_whole; intro h' g' oe' ws' tk' T9 F' N' hp' hd' B' X' P' D'; (try k_sweep))))
local macro_rules | `(tactic| walk_at "getAttr ref") => `(tactic| (k_here; (rename ExcP _ _ _ => hpX); k_dflt (refine' get_exc_K ?F ?X ?N hpX ?he ?hd ?hdm ?ga ?gn ?hb ?ha ?hn ?hh ?hl ?hv ?_; (case F => k_asm); (case X => k_asm); (case N => k_asm); (case he => k_mem); (case hd => assumption); (case hdm => k_mem); (case ga => k_is); (case gn => k_is); (case hb => k_is); (case ha => k_is); (case hn => k_is); (case hh => k_is); (case hl => k_get); (case hv => k_handed); k_whole)))
local macro_rules | `(tactic| walk_at "LeaveT") => `(tactic| (k_dflt (refine' leaveT_ ?T ?F ?_; (case T => first | assumption | exact KtsTurn.refl); (case F => assumption))))
local macro_rules | `(tactic| is_list) => `(tactic| exact Fr.lst (by assumption) (Fr.lst (by assumption) (by assumption)))

local macro_rules | `(tactic| walk_at "pyIter ref") => `(tactic| (k_here; kse_here; (rename Fr _ _ _ _ => lF'); (rename News _ _ _ _ => lN'); (with_unfolding_all refine' iter_met (by rfl) ?hl ?hi lF' lN' ?hs (fun i' n' t' so' k' h' tk' own' hn' hi' hk' hs' hd' ho' F' N' => ?_) (fun u' so' h' tk' hd' F' N' => ?_); (case hl => exact Fr.lst (by assumption) (by assumption)); (case hi => assumption); (case hs => assumption)); (all_goals (try clear lF' lN')); (all_goals (try k_fold))))
local macro_rules | `(tactic| walk_at "InvEndN") => `(tactic| (refine met_end (by assumption) (by assumption) (by assumption) (by assumption) (by assumption) (by assumption) (by assumption) (by (intro z h1; first | rfl | (simp [h1]; done) | (simp_all; done)))))
section
variable {cs ss : List Int} {t : Tok}
theorem ok_few (h : (cs.length : Int) ≠ 16 ∨ ∃ c ∈ cs, c < 0) : OkStr (told cs ss) (.str fewS t) := by
  refine ⟨t, ?_⟩
  unfold told
  rw [if_pos (h.imp (fun h e => h (by omega)) id)]
theorem ok_good (h1 : (cs.length : Int) = 16) (h2 : ∀ c ∈ cs, 0 ≤ c) : told cs ss = if cs.sum ≠ ss.length ∨ 256 < ss.length then unfitS else if ¬ ss.Nodup then againS else Str.ofString "" := by
  unfold told
  rw [if_neg]
  rintro (h | ⟨c, hc, h⟩)
  · exact h (by omega)
  · have := h2 c hc; omega
theorem ok_unfit (h1 : (cs.length : Int) = 16) (h2 : ∀ c ∈ cs, 0 ≤ c) (h : cs.sum ≠ ss.length ∨ 256 < (ss.length : Int)) : OkStr (told cs ss) (.str unfitS t) := by
  refine ⟨t, ?_⟩
  rw [ok_good h1 h2, if_pos (h.imp id fun h => by omega)]
theorem ok_again (h1 : (cs.length : Int) = 16) (h2 : ∀ c ∈ cs, 0 ≤ c) (h3 : cs.sum = ss.length) (h4 : ¬ 256 < (ss.length : Int)) (h5 : ¬ ss.Nodup) : OkStr (told cs ss) (.str againS t) := by
  refine ⟨t, ?_⟩
  rw [ok_good h1 h2, if_neg (by rintro (h | h); exact h h3; omega), if_pos h5]
theorem ok_none (h1 : (cs.length : Int) = 16) (h2 : ∀ c ∈ cs, 0 ≤ c) (h3 : cs.sum = ss.length) (h4 : ¬ 256 < (ss.length : Int)) (h5 : ss.Nodup) : OkStr (told cs ss) (.str (Str.ofString "") t) := by
  refine ⟨t, ?_⟩
  rw [ok_good h1 h2, if_neg (by rintro (h | h); exact h h3; omega), if_neg (by simpa using h5)]
theorem least_of {M : Int} (h : ∀ a : Int, a ∈ cs → M ≤ a) (hM : ¬ M < 0) : ∀ c ∈ cs, 0 ≤ c := fun c hc => by have := h c hc; omega
end
local macro_rules | `(tactic| walk_at "OkStr") => `(tactic| ((try dsimp only); first
  | exact ok_few (.inl (by assumption))
  | exact ok_few (.inr ⟨_, by assumption, by assumption⟩)
  | exact ok_unfit (by omega) (least_of (by assumption) (by assumption)) (.inl (by assumption))
  | exact ok_unfit (by omega) (least_of (by assumption) (by assumption)) (.inr (by assumption))
  | exact ok_again (by omega) (least_of (by assumption) (by assumption)) (by assumption) (by assumption) (twice_of (by assumption) (by assumption))
  | exact ok_none (by omega) (least_of (by assumption) (by assumption)) (by assumption) (by assumption) (by assumption)))

section
variable {w : World} {H : Heap} {s : Shared} {L l1 l2 : Addr} {m : Str → Option Value} {env : Env} {news : List (Addr × Obj)} {mean : ExcName → Option Value} {mg mb : Str → Option Value} {Q E : Value → Shared → Prop} {v1 v2 : List Value} {cs ss : List Int}

theorem told_K (B : Below callerA H [] H) (F : Fr H L s.heap m) (X₀ : (hd.heap_39 w.params).In H) (N : News H L s.heap news) (T : Top hd.view_39 (looseW hd.view_39 []) mean mg mb H) (hf : env.frame = some L) (hke : env.scope.kind = .function)
    (hl1 : s.heap.IsList l1 v1.toArray) (hi1 : IntsAre v1 cs) (hl2 : s.heap.IsList l2 v2.toArray) (hi2 : IntsAre v2 ss) (b1 : cs.length ≤ 100) (b2 : ss.length ≤ 400) (b3 : ∀ c ∈ cs, -1000 ≤ c ∧ c ≤ 1000)
    (h : ∀ t h' tk', Fr H L h' m → News H L h' news → Q (.str (told cs ss) t) { s with heap := h', toks := tk' }) :
    wpAny (model PySem.Challenge.rw_xm0795_01.row.prog w) (callerA.deeper env) (call (.ref 81) [.ref l1, .ref l2]) Q E s := by
  revert X₀
  k_fill
  intro X₀
  refine' enter_T (Ok := OkStr (told cs ss)) B F X₀ N T hf hke ?ho ?hcd ?hroom ?hbind ?hloc ?c2 ?c3 ?c4 ?c5 ?_ (fun v h' tk' ⟨t, e⟩ F' N' => by rw [e]; exact h t h' tk' F' N')
  case ho => k_is
  case hcd => k_is
  case hroom => k_room
  case hbind => exact BindsTo.of_eq rfl
  case hloc => exact locs rfl
  case c2 => rfl
  case c3 => rfl
  case c4 => rfl
  case c5 => decide
  clear h hf hke F N B
  intro L' h₁ F' N' B' X' T' D'
  dsimp only
  k_fold
  w_top off
  k_steps
end
end Mine
end
section
open PySem PySem.W PyProof.Rows PySem.Calls
namespace Mine
theorem mulOk_small {x y : Int} (h0 : 0 ≤ y) (h1 : y < 4611686018427387904) : IntMulOk x y := by
  exact IntMulOk.of_right (intBits_le_64 (by omega) (by omega))
theorem fdiv_bound {x k : Int} (hx : 0 ≤ x) (hk : 1 ≤ k) : 0 ≤ x.fdiv k ∧ x.fdiv k ≤ x := by
  have e : x.fdiv k = x / k := Int.fdiv_eq_ediv_of_nonneg _ (by omega)
  rw [e]
  exact ⟨Int.ediv_nonneg hx (by omega), Int.ediv_le_self _ hx⟩
theorem fmod_bound (x : Int) {k : Int} (hk : 0 < k) : 0 ≤ x.fmod k ∧ x.fmod k < k := ⟨Int.fmod_nonneg_of_pos x hk, Int.fmod_lt_of_pos x hk⟩
local macro_rules | `(tactic| walk_at "binaryOp Mult int int") => `(tactic| (k_here; refine PyProof.Rows.mul_int ?_ (mulOk_small (show 0 ≤ Int.fmod _ 2147483647 from (fmod_bound _ (by decide)).1) (show Int.fmod _ 2147483647 < _ from Int.lt_trans (fmod_bound _ (by decide)).2 (by decide)))))
section
variable {w : World} {H base h₀ : Heap} {s : Shared} {L S a₀ : Addr} {m : Str → Option Value} {news : List (Addr × Obj)} {mean : ExcName → Option Value} {mg mb : Str → Option Value} {Q E : Value → Shared → Prop}
  {dp un : Nat} {gd : Option (List Code)} {cn : Str} {cs : Scope} {ccd : Value} {cl : List (Str × Addr)} {outer : List Env} {A₀ : Around}

theorem take_K {a b top : Int} {ta tb tt : Tok} {c : Nat} (B : Below A₀ base outer h₀) (F : Fr h₀ L s.heap m) (X₀ : (hd.heap_39 w.params).In h₀) (T : Top hd.view_39 (looseW hd.view_39 []) mean mg mb h₀) (hke : cs.kind = .function)
    (N : News h₀ L s.heap ((S, listOf [Value.int a ta, Value.int b tb].toArray c) :: news)) (hoff : OwnOff news [S]) (ha : 0 ≤ a) (hb : 0 ≤ b) (hb' : b < 2147483647) (ht : 1 ≤ top) (ht' : top ≤ 1000) (hroom : dp + 1 < recursionLimit)
    (h : ∀ (r : Int) t (a' b' : Int) ta' tb' c' h' tk', 0 ≤ r → r < top → 0 ≤ a' → a' ≤ a → 0 ≤ b' → b' < 2147483647 → Fr h₀ L h' m → News h₀ L h' ((S, listOf [Value.int a' ta', Value.int b' tb'].toArray c') :: news) → Q (.int r t) { s with heap := h', toks := tk' }) :
    wpAny (model PySem.Challenge.rw_xm0795_01.row.prog w) (ktrTop dp un gd cn cs L a₀ ccd cl outer) (call (.ref 67) [.ref S, .int top tt]) Q E s := by
  revert X₀
  k_fill
  intro X₀
  refine wpAny_call ?_
  k_dflt cell_enter
  w_top off
  k_steps
  · exact h _ _ (a.fdiv top) b _ _ _ _ _ (fmod_bound a (by omega)).1 (fmod_bound a (by omega)).2 (fdiv_bound ha ht).1 (fdiv_bound ha ht).2 hb hb' (by assumption) (by assumption)
  · exact h _ _ a _ _ _ _ _ _ (fmod_bound _ (by omega)).1 (fmod_bound _ (by omega)).2 ha (Int.le_refl _) (fmod_bound _ (by decide)).1 (fmod_bound _ (by decide)).2 (by assumption) (by assumption)

theorem take_U {a b top : Int} {ta tb tt : Tok} {c : Nat} {all : List (Addr × Obj)} {g : Obj → List (Addr × Obj)} (B : Below A₀ base outer h₀) (F : Fr h₀ L s.heap m) (X₀ : (hd.heap_39 w.params).In h₀) (T : Top hd.view_39 (looseW hd.view_39 []) mean mg mb h₀) (hke : cs.kind = .function)
    (N : News h₀ L s.heap all) (U : UpdF S (listOf [Value.int a ta, Value.int b tb].toArray c) all g) (ha : 0 ≤ a) (hb : 0 ≤ b) (hb' : b < 2147483647) (ht : 1 ≤ top) (ht' : top ≤ 1000) (hroom : dp + 1 < recursionLimit)
    (h : ∀ (r : Int) t (a' b' : Int) ta' tb' c' h' tk', 0 ≤ r → r < top → 0 ≤ a' → a' ≤ a → 0 ≤ b' → b' < 2147483647 → Fr h₀ L h' m → News h₀ L h' (g (listOf [Value.int a' ta', Value.int b' tb'].toArray c')) → Q (.int r t) { s with heap := h', toks := tk' }) :
    wpAny (model PySem.Challenge.rw_xm0795_01.row.prog w) (ktrTop dp un gd cn cs L a₀ ccd cl outer) (call (.ref 67) [.ref S, .int top tt]) Q E s := by
  obtain ⟨pre, post, rfl, hg, e1, e2⟩ := U.split
  refine take_K (ta := ta) (tb := tb) (c := c) (news := pre ++ post) B F X₀ T hke (fun p hp => N p ?_) ?_ ha hb hb' ht ht' hroom fun r t a' b' ta' tb' c' h' tk' x1 x2 x3 x4 x5 x6 F' N' => h r t a' b' ta' tb' c' h' tk' x1 x2 x3 x4 x5 x6 F' ?_
  · rcases List.mem_cons.mp hp with rfl | hp
    · simp
    · rcases List.mem_append.mp hp with hp | hp
      · exact List.mem_append_left _ hp
      · exact List.mem_append_right _ (.tail _ hp)
  · intro p hp b hb
    obtain rfl := List.mem_singleton.mp hb
    exact (List.mem_append.mp hp).elim (e1 p) (e2 p)
  · rw [hg]
    intro p hp
    refine N' p ?_
    rcases List.mem_append.mp hp with hp | hp
    · exact .tail _ (List.mem_append_left _ hp)
    · rcases List.mem_cons.mp hp with rfl | hp
      · exact .head _
      · exact .tail _ (List.mem_append_right _ hp)

theorem len_at {prog : Program} {A : Around} {l : Addr} {vs : List Value} (hl : s.heap.IsList l vs.toArray) (hz : vs.length ≤ 100000) (h : Q (.int (vs.length : Int) (s.toks + 1)) { s with toks := s.toks + 1 + 1 }) :
    wpAny (model prog w) A (call (.builtin "len") [.ref l]) Q E s := Calls.call_len_list hl (by rw [List.size_toArray]; omega) (by rw [List.size_toArray]; exact h)

theorem item_at {prog : Program} {A : Around} {value slice : PySem.Expr} {l : Addr} {vs : List Value} {k : Int} {u : Tok} (hl : s.heap.IsList l vs.toArray) (h0 : 0 ≤ k) (hk : k < (vs.length : Int)) (hz : vs.length ≤ 100000)
    (hs : subscripted slice false (.ref l) (.int k u) = operate [.ref l, .int k u] (getItem (.ref l) (.int k u))) (h : ∀ v, v ∈ vs → Q v s) :
    wpAny (model prog w) A (subscriptTail value slice (.ref l) (.int k u)) Q E s := by
  have hk' : k.toNat < vs.length := by omega
  exact tail_any hl.typeIs slot_list_getitem.lookup (wpAny_getItem_list hl h0 (by omega) (by simp [hk']) (h _ (List.getElem_mem hk'))) hs

local macro_rules | `(tactic| walk_at "call ref") => `(tactic| (k_here; (with_reducible show wpAny _ _ (call (Value.ref 67) [Value.ref _, Value.int _ _]) _ _ _); k_dflt (refine' take_U ?B ?F ?X ?T ?hk ?N ?U ?a ?b ?b2 ?t1 ?t2 ?hr ?_; (case B => k_asm); (case F => k_asm); (case X => k_asm); (case T => k_asm); (case hk => exact rfl); (case N => k_asm); (case U => k_updF); (case a => assumption); (case b => assumption); (case b2 => assumption); (case t1 => omega); (case t2 => omega); (case hr => ktr_room); k_whole; intro r' t' a' b' ta' tb' c' h' tk' x1' x2' x3' x4' x5' x6' F' N')))
local macro_rules | `(tactic| walk_at "call builtin:len") => `(tactic| (k_here; (with_reducible show wpAny _ _ (call (Value.builtin "len") [Value.ref _]) _ _ _); k_dflt (refine' len_at ?hl ?hz ?_; (case hl => is_list); (case hz => omega); k_whole)))
local macro_rules | `(tactic| walk_at "subscriptTail") => `(tactic| (k_here; (with_reducible show wpAny _ _ (subscriptTail _ _ (Value.ref _) (Value.int _ _)) _ _ _); k_dflt (refine' item_at ?hl ?h0 ?hk ?hz ?hs ?_; (case hl => is_list); (case h0 => assumption); (case hk => omega); (case hz => omega); (case hs => with_unfolding_all rfl); k_whole; intro v' hv')))

theorem one_K {a b : Int} {ta tb : Tok} {c n : Nat} {Th : Addr} {vs : List Value} (B : Below A₀ base outer h₀) (F : Fr h₀ L s.heap m) (X₀ : (hd.heap_39 w.params).In h₀) (T : Top hd.view_39 (looseW hd.view_39 []) mean mg mb h₀) (hke : cs.kind = .function)
    (N : News h₀ L s.heap ((S, listOf [Value.int a ta, Value.int b tb].toArray c) :: (Th, listOf vs.toArray n) :: news)) (hST : @Ne Nat Th S) (hoff : OwnOff news [S]) (ha : 0 ≤ a) (hb : 0 ≤ b) (hb' : b < 2147483647) (hv : 1 ≤ vs.length) (hv' : vs.length ≤ 1000) (hroom : dp + 2 < recursionLimit)
    (h : ∀ v (a' b' : Int) ta' tb' c' h' tk', v ∈ vs → 0 ≤ a' → a' ≤ a → 0 ≤ b' → b' < 2147483647 → Fr h₀ L h' m → News h₀ L h' ((S, listOf [Value.int a' ta', Value.int b' tb'].toArray c') :: (Th, listOf vs.toArray n) :: news) → Q v { s with heap := h', toks := tk' }) :
    wpAny (model PySem.Challenge.rw_xm0795_01.row.prog w) (ktrTop dp un gd cn cs L a₀ ccd cl outer) (call (.ref 74) [.ref S, .ref Th]) Q E s := by
  revert X₀
  k_fill
  intro X₀
  refine wpAny_call ?_
  k_dflt cell_enter
  w_top off
  k_steps
  refine' h _ ?aa ?bb ?ta ?tb ?cc _ _ ?v ?p1 ?p2 ?p3 ?p4 ?F ?N
  case N => assumption
  all_goals assumption
end
end Mine
end
section
open PySem PySem.W PyProof.Rows PySem.Calls
namespace Mine

structure Good (cs ss : List Int) (x : Str) : Prop where
  l1 : cs.length ≤ 100
  l2 : ss.length ≤ 400
  b : ∀ c ∈ cs, -1000 ≤ c ∧ c ≤ 1000
  is : told cs ss = x

theorem told_at {w : World} {H : Heap} {s : Shared} {L l1 l2 : Addr} {m : Str → Option Value} {env : Env} {news : List (Addr × Obj)} {mean : ExcName → Option Value} {mg mb : Str → Option Value} {Q E : Value → Shared → Prop} {v1 v2 : List Value} {cs ss : List Int} {x : Str}
    (B : Below callerA H [] H) (F : Fr H L s.heap m) (X₀ : (hd.heap_39 w.params).In H) (N : News H L s.heap news) (T : Top hd.view_39 (looseW hd.view_39 []) mean mg mb H) (hf : env.frame = some L) (hke : env.scope.kind = .function)
    (hl1 : s.heap.IsList l1 v1.toArray) (hl2 : s.heap.IsList l2 v2.toArray) (hi1 : IntsAre v1 cs) (hi2 : IntsAre v2 ss) (g : Good cs ss x)
    (h : ∀ t h' tk', Fr H L h' m → News H L h' news → Q (.str x t) { s with heap := h', toks := tk' }) :
    wpAny (model PySem.Challenge.rw_xm0795_01.row.prog w) (callerA.deeper env) (call (.ref 81) [.ref l1, .ref l2]) Q E s :=
  told_K B F X₀ N T hf hke hl1 hi1 hl2 hi2 g.l1 g.l2 g.b (by rw [g.is]; exact h)

theorem good_1 : Good ([2] ++ (List.replicate (Int.toNat 15) [0]).flatten) [7] unfitS where
  l1 := by decide
  l2 := by decide
  b := by decide
  is := by decide +kernel

local macro_rules | `(tactic| walk_at "call ref") => `(tactic| (k_here; (with_reducible show wpAny _ _ (call (Value.ref 81) [Value.ref _, Value.ref _]) _ _ _); k_dflt (refine' told_at ?B ?F ?X ?N ?T ?hf ?hk ?l1 ?l2 ?i1 ?i2 ?g ?_; (case B => k_asm); (case F => k_asm); (case X => k_asm); (case N => k_asm); (case T => k_asm); (case hf => exact rfl); (case hk => exact rfl); (case l1 => is_list); (case l2 => is_list); (case i1 => l_ints); (case i2 => l_ints); (case g => first | exact good_1); k_whole; intro t' h' tk' F' N')))


theorem great_pos (x : Int) (c : Prop) [Decidable c] : 0 ≤ (if -1 - x > x then -1 - x else x) * (if c then 1 else 0) := by
  split <;> split <;> omega

section
variable {w : World} {base h₀ : Heap} {s : Shared} {L l a₀ : Addr} {m : Str → Option Value} {news : List (Addr × Obj)} {mean : ExcName → Option Value} {mg mb : Str → Option Value} {Q E : Value → Shared → Prop}
  {dp un : Nat} {gd : Option (List Code)} {cn : Str} {cs : Scope} {ccd : Value} {cl : List (Str × Addr)} {outer : List Env} {A₀ : Around}

theorem pool_K {vs : List Value} {ns : List Int} (B : Below A₀ base outer h₀) (F : Fr h₀ L s.heap m) (X₀ : (hd.heap_39 w.params).In h₀) (T : Top hd.view_39 (looseW hd.view_39 []) mean mg mb h₀) (hke : cs.kind = .function)
    (hl : base.IsList l vs.toArray) (hi : IntsAre vs ns) (hz : ns.length ≤ 63) (hbits : PyData.layable0 (.list (ns.map .int)) = true)
    (N : News h₀ L s.heap news) (hroom : dp + 1 < recursionLimit)
    (h : ∀ S (a b : Int) ta tb c h' tk', 0 ≤ a → 0 ≤ b → b < 2147483647 → Fr h₀ L h' m → News h₀ L h' ((S, listOf [Value.int a ta, Value.int b tb].toArray c) :: news) → (∀ p ∈ news, p.1 < S) → Q (.ref S) { s with heap := h', toks := tk' }) :
    wpAny (model PySem.Challenge.rw_xm0795_01.row.prog w) (ktrTop dp un gd cn cs L a₀ ccd cl outer) (call (.ref 60) [.ref l]) Q E s := by
  revert X₀
  k_fill
  intro X₀
  refine wpAny_call ?_
  k_dflt cell_enter
  w_top off
  k_steps
  all_goals (
    refine' h _ _ _ _ _ _ _ _ ?p1 ?p2 ?p3 ?F ?N ?l
    case N => assumption
    case p1 => exact great_pos _ _
    case p2 => exact (fmod_bound _ (by decide)).1
    case p3 => exact (fmod_bound _ (by decide)).2
    case F => assumption
    case l => assumption)
end
end Mine
end
section
open PySem PySem.W PyProof.Rows PySem.Calls
namespace Mine

theorem ints_mem {vs : List Value} {ns : List Int} (h : IntsAre vs ns) {v : Value} (hv : v ∈ vs) : ∃ x t, v = .int x t ∧ x ∈ ns := by
  obtain ⟨i, hi, e⟩ := List.getElem_of_mem hv
  obtain ⟨x, t, e1, e2⟩ := IntsAre.at h i v (by rw [List.getElem?_eq_getElem hi, e])
  first
    | exact ⟨x, t, e1, List.mem_of_getElem? e2⟩
    | exact ⟨x, t, e2, List.mem_of_getElem? e1⟩

section
variable {w : World} {base h₀ : Heap} {s : Shared} {L l S a₀ Th : Addr} {m : Str → Option Value} {all : List (Addr × Obj)} {g : Obj → List (Addr × Obj)} {mean : ExcName → Option Value} {mg mb : Str → Option Value} {Q E : Value → Shared → Prop}
  {dp un : Nat} {gd : Option (List Code)} {cn : Str} {cs : Scope} {ccd : Value} {cl : List (Str × Addr)} {outer : List Env} {A₀ : Around} {a b : Int} {ta tb : Tok} {c n : Nat} {vs : List Value}

theorem one_U (B : Below A₀ base outer h₀) (F : Fr h₀ L s.heap m) (X₀ : (hd.heap_39 w.params).In h₀) (T : Top hd.view_39 (looseW hd.view_39 []) mean mg mb h₀) (hke : cs.kind = .function)
    (N : News h₀ L s.heap all) (U : UpdF S (listOf [Value.int a ta, Value.int b tb].toArray c) all g) (hT : (Th, listOf vs.toArray n) ∈ all) (hTS : @Ne Nat Th S) (ha : 0 ≤ a) (hb : 0 ≤ b) (hb' : b < 2147483647) (hv : 1 ≤ vs.length) (hv' : vs.length ≤ 1000) (hroom : dp + 2 < recursionLimit)
    (h : ∀ v (a' b' : Int) ta' tb' c' h' tk', v ∈ vs → 0 ≤ a' → a' ≤ a → 0 ≤ b' → b' < 2147483647 → Fr h₀ L h' m → News h₀ L h' (g (listOf [Value.int a' ta', Value.int b' tb'].toArray c')) → Q v { s with heap := h', toks := tk' }) :
    wpAny (model PySem.Challenge.rw_xm0795_01.row.prog w) (ktrTop dp un gd cn cs L a₀ ccd cl outer) (call (.ref 74) [.ref S, .ref Th]) Q E s := by
  obtain ⟨pre, post, rfl, hg, e1, e2⟩ := U.split
  have hT' : (Th, listOf vs.toArray n) ∈ pre ++ post := by
    rcases List.mem_append.mp hT with h | h
    · exact List.mem_append_left _ h
    · rcases List.mem_cons.mp h with h | h
      · exact absurd (congrArg Prod.fst h) hTS
      · exact List.mem_append_right _ h
  refine one_K (ta := ta) (tb := tb) (c := c) (n := n) (news := pre ++ post) B F X₀ T hke (fun p hp => N p ?_) hTS ?_ ha hb hb' hv hv' hroom fun v a' b' ta' tb' c' h' tk' x1 x2 x3 x4 x5 F' N' => h v a' b' ta' tb' c' h' tk' x1 x2 x3 x4 x5 F' ?_
  · rcases List.mem_cons.mp hp with rfl | hp
    · simp
    · rcases List.mem_cons.mp hp with rfl | hp
      · exact hT
      · rcases List.mem_append.mp hp with hp | hp
        · exact List.mem_append_left _ hp
        · exact List.mem_append_right _ (.tail _ hp)
  · intro p hp b hb
    obtain rfl := List.mem_singleton.mp hb
    exact (List.mem_append.mp hp).elim (e1 p) (e2 p)
  · rw [hg]
    intro p hp
    refine N' p ?_
    rcases List.mem_append.mp hp with hp | hp
    · exact .tail _ (.tail _ (List.mem_append_left _ hp))
    · rcases List.mem_cons.mp hp with rfl | hp
      · exact .head _
      · exact .tail _ (.tail _ (List.mem_append_right _ hp))

theorem one_ints {ns : List Int} (hi : IntsAre vs ns) (B : Below A₀ base outer h₀) (F : Fr h₀ L s.heap m) (X₀ : (hd.heap_39 w.params).In h₀) (T : Top hd.view_39 (looseW hd.view_39 []) mean mg mb h₀) (hke : cs.kind = .function)
    (N : News h₀ L s.heap all) (U : UpdF S (listOf [Value.int a ta, Value.int b tb].toArray c) all g) (hT : (Th, listOf vs.toArray n) ∈ all) (hTS : @Ne Nat Th S) (ha : 0 ≤ a) (hb : 0 ≤ b) (hb' : b < 2147483647) (hv : 1 ≤ ns.length) (hv' : ns.length ≤ 1000) (hroom : dp + 2 < recursionLimit)
    (h : ∀ x t (a' b' : Int) ta' tb' c' h' tk', x ∈ ns → 0 ≤ a' → a' ≤ a → 0 ≤ b' → b' < 2147483647 → Fr h₀ L h' m → News h₀ L h' (g (listOf [Value.int a' ta', Value.int b' tb'].toArray c')) → Q (.int x t) { s with heap := h', toks := tk' }) :
    wpAny (model PySem.Challenge.rw_xm0795_01.row.prog w) (ktrTop dp un gd cn cs L a₀ ccd cl outer) (call (.ref 74) [.ref S, .ref Th]) Q E s :=
  one_U B F X₀ T hke N U hT hTS ha hb hb' (by have := hi.length; omega) (by have := hi.length; omega) hroom fun v a' b' ta' tb' c' h' tk' hm x1 x2 x3 x4 F' N' => by
    obtain ⟨x, t, rfl, hx⟩ := ints_mem hi hm
    exact h x t a' b' ta' tb' c' h' tk' hx x1 x2 x3 x4 F' N'

/-- each thing is a list of ints of the ledger that has the property -/
def Menu (P : List Int → Prop) (S : Addr) (all : List (Addr × Obj)) (vs : List Value) : Prop :=
  ∀ v ∈ vs, ∃ l us k ns, v = .ref l ∧ (l, listOf us.toArray k) ∈ all ∧ @Ne Nat l S ∧ IntsAre us ns ∧ P ns

theorem upd_keeps {o o' : Obj} (U : UpdF S o all g) {q : Addr × Obj} (hq : q ∈ all) (hn : @Ne Nat q.1 S) : q ∈ g o' := by
  obtain ⟨pre, post, rfl, hg, -, -⟩ := U.split
  rw [hg]
  rcases List.mem_append.mp hq with h | h
  · exact List.mem_append_left _ h
  · rcases List.mem_cons.mp h with h | h
    · exact absurd (congrArg Prod.fst h) hn
    · exact List.mem_append_right _ (.tail _ h)

theorem one_list {P : List Int → Prop} (M : Menu P S all vs) (B : Below A₀ base outer h₀) (F : Fr h₀ L s.heap m) (X₀ : (hd.heap_39 w.params).In h₀) (T : Top hd.view_39 (looseW hd.view_39 []) mean mg mb h₀) (hke : cs.kind = .function)
    (N : News h₀ L s.heap all) (U : UpdF S (listOf [Value.int a ta, Value.int b tb].toArray c) all g) (hT : (Th, listOf vs.toArray n) ∈ all) (hTS : @Ne Nat Th S) (ha : 0 ≤ a) (hb : 0 ≤ b) (hb' : b < 2147483647) (hv : 1 ≤ vs.length) (hv' : vs.length ≤ 1000) (hroom : dp + 2 < recursionLimit)
    (h : ∀ l us k ns (a' b' : Int) ta' tb' c' h' tk', IntsAre us ns → P ns → @Ne Nat l S → 0 ≤ a' → a' ≤ a → 0 ≤ b' → b' < 2147483647 → Fr h₀ L h' m → News h₀ L h' ((l, listOf us.toArray k) :: g (listOf [Value.int a' ta', Value.int b' tb'].toArray c')) → Q (.ref l) { s with heap := h', toks := tk' }) :
    wpAny (model PySem.Challenge.rw_xm0795_01.row.prog w) (ktrTop dp un gd cn cs L a₀ ccd cl outer) (call (.ref 74) [.ref S, .ref Th]) Q E s :=
  one_U B F X₀ T hke N U hT hTS ha hb hb' hv hv' hroom fun v a' b' ta' tb' c' h' tk' hm x1 x2 x3 x4 F' N' => by
    obtain ⟨l, us, k, ns, rfl, hl, hlS, hi, hP⟩ := M v hm
    refine h l us k ns a' b' ta' tb' c' h' tk' hi hP hlS x1 x2 x3 x4 F' fun p hp => ?_
    rcases List.mem_cons.mp hp with rfl | hp
    · exact N' _ (upd_keeps U hl hlS)
    · exact N' p hp

abbrev tup2 (p q : Addr) (k : Nat) : Obj := { cls := .type "tuple", data := .seq #[.ref p, .ref q] k }
/-- each thing is a pair of such lists -/
def Menu2 (P : List Int → List Int → Prop) (S : Addr) (all : List (Addr × Obj)) (vs : List Value) : Prop :=
  ∀ v ∈ vs, ∃ t p q k us k1 ns us' k2 ns', v = .ref t ∧ (t, tup2 p q k) ∈ all ∧ @Ne Nat t S ∧ (p, listOf us.toArray k1) ∈ all ∧ @Ne Nat p S ∧ (q, listOf us'.toArray k2) ∈ all ∧ @Ne Nat q S ∧ IntsAre us ns ∧ IntsAre us' ns' ∧ P ns ns'

theorem one_pair {P : List Int → List Int → Prop} (M : Menu2 P S all vs) (B : Below A₀ base outer h₀) (F : Fr h₀ L s.heap m) (X₀ : (hd.heap_39 w.params).In h₀) (T : Top hd.view_39 (looseW hd.view_39 []) mean mg mb h₀) (hke : cs.kind = .function)
    (N : News h₀ L s.heap all) (U : UpdF S (listOf [Value.int a ta, Value.int b tb].toArray c) all g) (hT : (Th, listOf vs.toArray n) ∈ all) (hTS : @Ne Nat Th S) (ha : 0 ≤ a) (hb : 0 ≤ b) (hb' : b < 2147483647) (hv : 1 ≤ vs.length) (hv' : vs.length ≤ 1000) (hroom : dp + 2 < recursionLimit)
    (h : ∀ t p q k us k1 ns us' k2 ns' (a' b' : Int) ta' tb' c' h' tk', IntsAre us ns → IntsAre us' ns' → P ns ns' → @Ne Nat p S → @Ne Nat q S → 0 ≤ a' → a' ≤ a → 0 ≤ b' → b' < 2147483647 → Fr h₀ L h' m →
      News h₀ L h' ((t, tup2 p q k) :: (p, listOf us.toArray k1) :: (q, listOf us'.toArray k2) :: g (listOf [Value.int a' ta', Value.int b' tb'].toArray c')) → Q (.ref t) { s with heap := h', toks := tk' }) :
    wpAny (model PySem.Challenge.rw_xm0795_01.row.prog w) (ktrTop dp un gd cn cs L a₀ ccd cl outer) (call (.ref 74) [.ref S, .ref Th]) Q E s :=
  one_U B F X₀ T hke N U hT hTS ha hb hb' hv hv' hroom fun v a' b' ta' tb' c' h' tk' hm x1 x2 x3 x4 F' N' => by
    obtain ⟨t, p, q, k, us, k1, ns, us', k2, ns', rfl, ht, htS, hp, hpS, hq, hqS, hi, hi', hP⟩ := M v hm
    refine h t p q k us k1 ns us' k2 ns' a' b' ta' tb' c' h' tk' hi hi' hP hpS hqS x1 x2 x3 x4 F' fun z hz => ?_
    rcases List.mem_cons.mp hz with rfl | hz
    · exact N' _ (upd_keeps U ht htS)
    · rcases List.mem_cons.mp hz with rfl | hz
      · exact N' _ (upd_keeps U hp hpS)
      · rcases List.mem_cons.mp hz with rfl | hz
        · exact N' _ (upd_keeps U hq hqS)
        · exact N' z hz

theorem drop6 {h : Heap} {x1 x2 x3 x4 x5 x6 : Addr × Obj} {news : List (Addr × Obj)} (N : News h₀ L h (x1 :: x2 :: x3 :: x4 :: x5 :: x6 :: news)) : News h₀ L h news :=
  fun p hp => N p (.tail _ (.tail _ (.tail _ (.tail _ (.tail _ (.tail _ hp))))))
end

section
variable {prog : Program} {w : World} {A : Around} {h₀ : Heap} {L : Addr} {m : Str → Option Value} {env : Env} {elt : Expr} {x : Str} {scope : Scope} {cl : List (Str × Addr)} {s : Shared} {S : List (Addr × Obj) → Prop} {P : Nat → Value → Prop} {Fin : List Value → List (Addr × Obj) → Prop}
  {S' : Addr} {rest : List (Addr × Obj)}
/-- what a turn of the first comprehension leaves: the source with two ints, a count of nought to four -/
def CntEl (S' : Addr) (rest : List (Addr × Obj)) (y : Value) (news' : List (Addr × Obj)) : Prop :=
  ∃ (a b : Int) (ta tb : Tok) (c : Nat), news' = (S', listOf [Value.int a ta, Value.int b tb].toArray c) :: rest ∧ 0 ≤ a ∧ 0 ≤ b ∧ b < 2147483647 ∧ ∃ (k : Int) (t : Tok), y = .int k t ∧ 0 ≤ k ∧ k ≤ 4

theorem counts_rest {n : Nat} {a₁ b₁ : Int} {ta₁ tb₁ : Tok} {c₁ : Nat} (h1 : 0 ≤ a₁) (h2 : 0 ≤ b₁) (h3 : b₁ < 2147483647)
    (turn : ∀ I oI C oC D m₂ ys h tk (E' : Value → Shared → Prop) (a b : Int) ta tb c, 0 ≤ a → 0 ≤ b → b < 2147483647 → LCg.NsObj oC m₂ → Fr h₀ L h m →
      News h₀ L h ((I, oI) :: (C, oC) :: (D, LCg.lst ys) :: (S', listOf [Value.int a ta, Value.int b tb].toArray c) :: rest) → LCg.Off3 I C D ((S', listOf [Value.int a ta, Value.int b tb].toArray c) :: rest) → ((@Ne Nat I C) ∧ (@Ne Nat I D) ∧ (@Ne Nat C D)) →
      wpAny (model prog w) A (eval elt (compEnvC scope cl C env)) (LCg.CompEnd h₀ L m { s with heap := h, toks := tk } I oI C oC D (LCg.lst ys) S (fun y news' => CntEl S' rest y news')) E' { s with heap := h, toks := tk })
    (fin : ∀ ys ns (a b : Int) ta tb c, IntsAre ys ns → ns.length = n → (∀ k ∈ ns, 0 ≤ k ∧ k ≤ 4) → 0 ≤ a → 0 ≤ b → b < 2147483647 → Fin ys ((S', listOf [Value.int a ta, Value.int b tb].toArray c) :: rest)) :
    LCg.CompRest prog w A h₀ L m env elt x scope cl s S P Fin n 0 [] ((S', listOf [Value.int a₁ ta₁, Value.int b₁ tb₁].toArray c₁) :: rest) := by
  have key : ∀ (j i : Nat) (ys : List Value) (ns : List Int) (a b : Int) ta tb c, i + j = n → IntsAre ys ns → ns.length = i → (∀ k ∈ ns, 0 ≤ k ∧ k ≤ 4) → 0 ≤ a → 0 ≤ b → b < 2147483647 →
      LCg.CompRest prog w A h₀ L m env elt x scope cl s S P Fin j i ys ((S', listOf [Value.int a ta, Value.int b tb].toArray c) :: rest) := by
    intro j
    induction j with
    | zero =>
      intro i ys ns a b ta tb c hi hy hn hk ha hb hb'
      exact LCg.CompRest.zero (fin ys ns a b ta tb c hy (by omega) hk ha hb hb')
    | succ j ih =>
      intro i ys ns a b ta tb c hi hy hn hk ha hb hb'
      refine LCg.CompRest.succ ?_
      intro v I oI C oC D m₂ h tk E' _ hC _ F N off ne
      refine wpAny_mono (turn I oI C oC D m₂ ys h tk E' a b ta tb c ha hb hb' hC F N off ne) (fun y s₂ hq => ?_) fun _ _ e => e
      obtain ⟨h', tk', nw, e, F', N', off', hS, a', b', ta', tb', c', hn', ha', hb1, hb2, k, t, hy', hk0, hk4⟩ := hq
      refine ⟨h', tk', nw, e, F', N', off', hS, ?_⟩
      rw [hn', hy']
      refine ih (i + 1) _ (ns ++ [k]) a' b' ta' tb' c' (by omega) (IntsAre.append hy (.cons k t .nil)) (by simp [hn]) (fun z hz => ?_) ha' hb1 hb2
      rcases List.mem_append.mp hz with hz | hz
      · exact hk z hz
      · rw [List.mem_singleton.mp hz]; exact ⟨hk0, hk4⟩
  exact key n 0 [] [] a₁ b₁ ta₁ tb₁ c₁ (by omega) .nil rfl (fun _ h => nomatch h) h1 h2 h3
end
end Mine
end
section
open PySem PySem.W PyProof.Rows PySem.Calls
namespace Mine
local macro_rules | `(tactic| walk_at "subscriptTail Name Slice ref ref") => `(tactic| (k_here; (with_reducible show wpAny _ _ (subscriptTail _ (PySem.Expr.Slice _ _ none _) (Value.ref _) (Value.ref _)) _ _ _); (try dsimp only); k_dflt (refine' kmk_slice_ints (s := ⟨_, _, _, _, _⟩) ?F ?N ?l ?p ?q ?i ?m ?c ?_ ?s ?t ?z; (case F => k_asm); (case N => k_asm); (case l => kmk_list); (case p => kmk_part); (case q => kmk_part); (case i => l_ints); (case m => first | exact kmk_upto (by l_ints) (by omega) | exact kmk_from (by l_ints) (by omega)); (case c => kmk_len); (case s => with_unfolding_all rfl); (case t => kmk_pure); (case z => exact kmk_sz (by l_ints) (by rw [sizeLine_eq]; omega))); intro D' ws' h' F' N' l1 hI' hC' hL'; (try simp only [Int.reduceNeg, Int.neg_neg, Int.reduceToNat] at hI' hC' hL'); (try k_lt l1); (try k_sweep)))
local macro_rules | `(tactic| walk_at "eval Subscript") => `(tactic| dsimp only)
local macro_rules | `(tactic| walk_at "eval BinOp") => `(tactic| dsimp only)
section
variable {w : World} {base h₀ : Heap} {s : Shared} {L l a₀ Rw : Addr} {m : Str → Option Value} {news : List (Addr × Obj)} {mean : ExcName → Option Value} {mg mb : Str → Option Value} {Q E : Value → Shared → Prop}
  {dp un : Nat} {gd : Option (List Code)} {cn : Str} {cs : Scope} {ccd : Value} {cl : List (Str × Addr)} {outer : List Env} {A₀ : Around} {n : Nat} {vs : List Value} {ns : List Int}

theorem pick6 {h : Heap} {x1 x2 x3 x4 x5 x6 : Addr × Obj} (N : News h₀ L h (x1 :: x2 :: x3 :: x4 :: x5 :: x6 :: news)) : News h₀ L h (x1 :: x6 :: news) := fun p hp => by
  rcases List.mem_cons.mp hp with rfl | hp
  · exact N _ (.head _)
  · exact N p (.tail _ (.tail _ (.tail _ (.tail _ (.tail _ hp)))))
theorem lt6 {d a b c e r : Addr} {o : Obj} (h : d < a ∧ b < a ∧ c < a ∧ e < a ∧ r < a ∧ AllLt a news) : AllLt a ((r, o) :: news) := h.2.2.2.2

theorem with_K {p x : Int} {tp tx : Tok} (B : Below A₀ base outer h₀) (F : Fr h₀ L s.heap m) (X₀ : (hd.heap_39 w.params).In h₀) (T : Top hd.view_39 (looseW hd.view_39 []) mean mg mb h₀) (hke : cs.kind = .function)
    (N : News h₀ L s.heap ((Rw, listOf vs.toArray n) :: news)) (hi : IntsAre vs ns) (hn : ns.length = 16) (hp : 0 ≤ p) (hp' : p < 16) (hroom : dp + 1 < recursionLimit)
    (h : ∀ D us k h' tk', IntsAre us (ns.take p.toNat ++ [x] ++ ns.drop (p + 1).toNat) → Fr h₀ L h' m → News h₀ L h' ((D, listOf us.toArray k) :: (Rw, listOf vs.toArray n) :: news) → AllLt D ((Rw, listOf vs.toArray n) :: news) → Q (.ref D) { s with heap := h', toks := tk' }) :
    wpAny (model PySem.Challenge.rw_xm0795_01.row.prog w) (ktrTop dp un gd cn cs L a₀ ccd cl outer) (call (.ref 88) [.ref Rw, .int p tp, .int x tx]) Q E s := by
  revert X₀
  k_fill
  intro X₀
  refine wpAny_call ?_
  k_dflt cell_enter
  w_top off
  k_steps
  (rename News _ _ _ _ => kN9)
  exact h _ _ _ _ _ (by assumption) (by assumption) (pick6 kN9) (lt6 (by assumption))
end
end Mine
end
section
open PySem PySem.W PyProof.Rows PySem.Calls
namespace Mine

/-- the symbols that belong to the counts -/
structure Sym (cs ss : List Int) : Prop where
  len : (ss.length : Int) = cs.sum
  nd : ss.Nodup
  rng : ∀ x ∈ ss, 0 ≤ x ∧ x < 255

theorem Sym.rev {cs ss : List Int} (h : Sym cs ss) : Sym cs ss.reverse where
  len := by rw [List.length_reverse]; exact h.len
  nd := List.pairwise_reverse.mpr (h.nd.imp fun h e => h e.symm)
  rng := fun x hx => h.rng x (List.mem_reverse.mp hx)

abbrev upL (f r : Int) (cs : List Int) : List Int := List.map (fun k' => f + (1 + r) * k') (rangeKs 0 (cs.sum - 0).toNat)
theorem sym_up {cs : List Int} {f r : Int} (h0 : 0 ≤ cs.sum) (h1 : cs.sum ≤ 64) (hf : 0 ≤ f) (hf' : f < 60) (hr : 0 ≤ r) (hr' : r < 3) : Sym cs (upL f r cs) where
  len := by
    rw [List.length_map, rangeKs_length]
    omega
  nd := by
    have hr1 : r = 0 ∨ r = 1 ∨ r = 2 := by omega
    unfold upL rangeKs
    rw [List.map_map]
    refine List.Pairwise.map _ (R := fun i j : Nat => i ≠ j) (fun i j h e => h ?_) List.nodup_range
    simp only [Function.comp_apply] at e
    rcases hr1 with rfl | rfl | rfl <;> omega
  rng := by
    intro x hx
    obtain ⟨k, hk, rfl⟩ := List.mem_map.mp hx
    have h2 := mem_rangeKs hk
    have hr1 : r = 0 ∨ r = 1 ∨ r = 2 := by omega
    rcases hr1 with rfl | rfl | rfl <;> omega

theorem told_ok {cs ss : List Int} (hn : cs.length = 16) (hk : ∀ k ∈ cs, 0 ≤ k ∧ k ≤ 4) (h1 : cs.sum = ss.length) (h2 : ss.length ≤ 256) (h3 : ss.Nodup) : told cs ss = Str.ofString "" := by
  rw [ok_good (by omega) (fun c hc => (hk c hc).1), if_neg (by rintro (h | h) <;> omega), if_neg (by simpa using h3)]
theorem told_unfit {cs ss : List Int} (hn : cs.length = 16) (hk : ∀ k ∈ cs, 0 ≤ k) (h : cs.sum ≠ ss.length ∨ 256 < ss.length) : told cs ss = unfitS := by
  rw [ok_good (by omega) hk, if_pos h]
theorem told_again {cs ss : List Int} (hn : cs.length = 16) (hk : ∀ k ∈ cs, 0 ≤ k) (h1 : cs.sum = ss.length) (h2 : ss.length ≤ 256) (h3 : ¬ ss.Nodup) : told cs ss = againS := by
  rw [ok_good (by omega) hk, if_neg (by rintro (h | h) <;> omega), if_pos h3]

/-- a table told wrongly in its counts -/
structure Wrong (ws : List Int) : Prop where
  len : ws.length ≤ 20
  b : ∀ c ∈ ws, -1000 ≤ c ∧ c ≤ 1000
  bad : ws.length ≠ 16 ∨ ∃ c ∈ ws, c < 0
theorem Wrong.told {ws ss : List Int} (h : Wrong ws) : told ws ss = fewS := by
  unfold Mine.told
  rw [if_pos h.bad]

section
variable {cs ss : List Int} {p : Int}
abbrev withI (cs : List Int) (p x : Int) : List Int := cs.take p.toNat ++ [x] ++ cs.drop (p + 1).toNat
theorem with_len (hn : cs.length = 16) (h0 : 0 ≤ p) (h1 : p < 16) {x : Int} : (withI cs p x).length = 16 := by
  simp only [withI, List.length_append, List.length_take, List.length_drop, List.length_cons, List.length_nil]
  omega
theorem with_mem {x c : Int} (h : c ∈ withI cs p x) : c = x ∨ c ∈ cs := by
  simp only [withI, List.mem_append, List.mem_singleton] at h
  rcases h with (h | h) | h
  · exact .inr (List.mem_of_mem_take h)
  · exact .inl h
  · exact .inr (List.mem_of_mem_drop h)
theorem with_sum (hn : cs.length = 16) (h0 : 0 ≤ p) (h1 : p < 16) {x : Int} : (withI cs p x).sum = cs.sum + x - cs.getD p.toNat 0 := by
  have hp : p.toNat < cs.length := by omega
  have e : cs = cs.take p.toNat ++ cs[p.toNat] :: cs.drop (p.toNat + 1) := by rw [List.getElem_cons_drop, List.take_append_drop]
  have e2 : (p + 1).toNat = p.toNat + 1 := by omega
  have hs : cs.sum = (cs.take p.toNat).sum + (cs[p.toNat] + (cs.drop (p.toNat + 1)).sum) := by
    conv => lhs; rw [e]
    rw [List.sum_append, List.sum_cons]
  rw [List.getD_eq_getElem?_getD, List.getElem?_eq_getElem hp, Option.getD_some, hs]
  simp only [withI, List.sum_append, List.sum_cons, List.sum_nil, e2]
  omega

variable (hn : cs.length = 16) (hk : ∀ k ∈ cs, 0 ≤ k ∧ k ≤ 4)
include hn hk
theorem wrong_1 : Wrong (cs.drop 1) where
  len := by rw [List.length_drop]; omega
  b := fun c hc => by have := hk c (List.mem_of_mem_drop hc); omega
  bad := .inl (by rw [List.length_drop]; omega)
theorem wrong_2 : Wrong (cs ++ [0]) where
  len := by simp [hn]
  b := fun c hc => by
    rcases List.mem_append.mp hc with hc | hc
    · have := hk c hc; omega
    · rw [List.mem_singleton.mp hc]; omega
  bad := .inl (by simp [hn])
omit hn hk in
theorem wrong_3 : Wrong [] where
  len := by simp
  b := fun c hc => nomatch hc
  bad := .inl (by simp)
theorem wrong_4 (h0 : 0 ≤ p) (h1 : p < 16) : Wrong (withI cs p (-1)) where
  len := by rw [with_len hn h0 h1]; omega
  b := fun c hc => by
    rcases with_mem hc with rfl | hc
    · omega
    · have := hk c hc; omega
  bad := .inr ⟨-1, by simp [withI], by omega⟩
omit hn hk in
theorem wrong_5 : Wrong [0, 0, 0, 0, 0, 0, 0, 0, 0, 0, 0, 0, 0, 0, 0, 0, -1] where
  len := by decide
  b := by decide
  bad := .inl (by decide)

theorem good_2 (h : Sym cs ss) (hs : cs.sum ≤ 64) : Good cs ss (Str.ofString "") where
  l1 := by omega
  l2 := by have := h.len; omega
  b := fun c hc => by have := hk c hc; omega
  is := told_ok hn hk h.len.symm (by have := h.len; omega) h.nd
theorem good_u {rs : List Int} (h : cs.sum ≠ (rs.length : Int)) (hl : rs.length ≤ 400) : Good cs rs unfitS where
  l1 := by omega
  l2 := hl
  b := fun c hc => by have := hk c hc; omega
  is := told_unfit hn (fun c hc => (hk c hc).1) (.inl h)
theorem good_m (h : Sym cs ss) (hs : cs.sum ≤ 64) (h0 : 0 ≤ p) (h1 : p < 16) : Good (withI cs p (cs.getD p.toNat 0 + 1)) ss unfitS where
  l1 := by rw [with_len hn h0 h1]; omega
  l2 := by have := h.len; omega
  b := fun c hc => by
    rcases with_mem hc with rfl | hc
    · have hp : p.toNat < cs.length := by omega
      rw [List.getD_eq_getElem?_getD, List.getElem?_eq_getElem hp, Option.getD_some]
      have := hk _ (List.getElem_mem hp)
      omega
    · have := hk c hc; omega
  is := told_unfit (with_len hn h0 h1) (fun c hc => by
    rcases with_mem hc with rfl | hc
    · have hp : p.toNat < cs.length := by omega
      rw [List.getD_eq_getElem?_getD, List.getElem?_eq_getElem hp, Option.getD_some]
      have := hk _ (List.getElem_mem hp)
      omega
    · exact (hk c hc).1) (.inl (by rw [with_sum hn h0 h1, ← h.len]; omega))
theorem good_a {rs : List Int} (hr : (rs.length : Int) = cs.sum + 2) (hd : ¬ rs.Nodup) (hs : cs.sum ≤ 64) (h0 : 0 ≤ p) (h1 : p < 16) : Good (withI cs p (cs.getD p.toNat 0 + 2)) rs againS where
  l1 := by rw [with_len hn h0 h1]; omega
  l2 := by omega
  b := fun c hc => by
    rcases with_mem hc with rfl | hc
    · have hp : p.toNat < cs.length := by omega
      rw [List.getD_eq_getElem?_getD, List.getElem?_eq_getElem hp, Option.getD_some]
      have := hk _ (List.getElem_mem hp)
      omega
    · have := hk c hc; omega
  is := told_again (with_len hn h0 h1) (fun c hc => by
    rcases with_mem hc with rfl | hc
    · have hp : p.toNat < cs.length := by omega
      rw [List.getD_eq_getElem?_getD, List.getElem?_eq_getElem hp, Option.getD_some]
      have := hk _ (List.getElem_mem hp)
      omega
    · exact (hk c hc).1) (by rw [with_sum hn h0 h1]; omega) (by omega) hd
end
theorem good_w {ws rs : List Int} (h : Wrong ws) (hl : rs.length ≤ 400) : Good ws rs fewS where
  l1 := by have := h.len; omega
  l2 := hl
  b := h.b
  is := h.told
theorem good_t {rs : List Int} (h : rs.length = 257) : Good [257, 0, 0, 0, 0, 0, 0, 0, 0, 0, 0, 0, 0, 0, 0, 0] rs unfitS where
  l1 := by decide
  l2 := by omega
  b := by decide
  is := told_unfit (by decide) (by decide) (.inr (by omega))
theorem len257 : (List.map (fun a => a) (rangeInts 0 1 ((257 : Int) - 0).toNat)).length = 257 := by rw [List.length_map, rangeInts_length]; rfl
end Mine
end
section
open PySem PySem.W PyProof.Rows PySem.Calls
namespace Mine
section
variable {P : List Int → Prop} {P2 : List Int → List Int → Prop} {S p q t : Addr} {all : List (Addr × Obj)} {us us' vs : List Value} {k k1 k2 : Nat} {ns ns' : List Int}
theorem Menu.nil : Menu P S all [] := fun _ h => nomatch h
theorem Menu.cons (hp : (p, listOf us.toArray k) ∈ all) (hpS : @Ne Nat p S) (hi : IntsAre us ns) (h : P ns) (M : Menu P S all vs) : Menu P S all (.ref p :: vs) :=
  List.forall_mem_cons.mpr ⟨⟨p, us, k, ns, rfl, hp, hpS, hi, h⟩, M⟩
theorem Menu2.nil : Menu2 P2 S all [] := fun _ h => nomatch h
theorem Menu2.cons (ht : (t, tup2 p q k) ∈ all) (htS : @Ne Nat t S) (hp : (p, listOf us.toArray k1) ∈ all) (hpS : @Ne Nat p S) (hq : (q, listOf us'.toArray k2) ∈ all) (hqS : @Ne Nat q S) (hi : IntsAre us ns) (hi' : IntsAre us' ns') (h : P2 ns ns') (M : Menu2 P2 S all vs) :
    Menu2 P2 S all (.ref t :: vs) :=
  List.forall_mem_cons.mpr ⟨⟨t, p, q, k, us, k1, ns, us', k2, ns', rfl, ht, htS, hp, hpS, hq, hqS, hi, hi', h⟩, M⟩
theorem ne_tup {h₀ h : Heap} {L : Addr} {its : Array Value} (N : News h₀ L h all) (ht : (t, tup2 p q k) ∈ all) (hs : (S, listOf its k1) ∈ all) : @Ne Nat t S := fun e => by
  have h1 := (N _ ht).1
  have h2 := (N _ hs).1
  have e' : t = S := e
  subst e'
  dsimp only at h1 h2
  rw [h1] at h2
  have h3 := congrArg (fun o : Option Obj => o.map (·.cls)) h2
  simp at h3
theorem ne_len {h₀ h : Heap} {L : Addr} {x y : Value} (N : News h₀ L h all) (hp : (p, listOf us.toArray k) ∈ all) (hs : (S, listOf [x, y].toArray k1) ∈ all) (hi : IntsAre us ns) (hl : ns.length ≠ 2) : @Ne Nat p S := fun e => by
  have h1 := (N _ hp).1
  have h2 := (N _ hs).1
  have e' : p = S := e
  subst e'
  dsimp only at h1 h2
  rw [h1] at h2
  have h3 := congrArg (fun o : Option Obj => o.map (·.data)) h2
  simp only [Option.map_some, Option.some.injEq, Data.seq.injEq] at h3
  have h4 : us = [x, y] := by simpa using congrArg Array.toList h3.1
  have h5 := hi.length
  rw [h4] at h5
  simp at h5
  omega
end

section
variable {w : World} {base h₀ : Heap} {s : Shared} {L l a₀ Rw : Addr} {m : Str → Option Value} {all : List (Addr × Obj)} {mean : ExcName → Option Value} {mg mb : Str → Option Value} {Q E : Value → Shared → Prop}
  {dp un : Nat} {gd : Option (List Code)} {cn : Str} {cs : Scope} {ccd : Value} {cl : List (Str × Addr)} {outer : List Env} {A₀ : Around} {n : Nat} {vs : List Value} {ns : List Int}

theorem with_U {p x : Int} {tp tx : Tok} (B : Below A₀ base outer h₀) (F : Fr h₀ L s.heap m) (X₀ : (hd.heap_39 w.params).In h₀) (T : Top hd.view_39 (looseW hd.view_39 []) mean mg mb h₀) (hke : cs.kind = .function)
    (N : News h₀ L s.heap all) (hm : (Rw, listOf vs.toArray n) ∈ all) (hi : IntsAre vs ns) (hn : ns.length = 16) (hp : 0 ≤ p) (hp' : p < 16) (hroom : dp + 1 < recursionLimit)
    (h : ∀ D us k h' tk', IntsAre us (withI ns p x) → Fr h₀ L h' m → News h₀ L h' ((D, listOf us.toArray k) :: all) → AllLt D all → Q (.ref D) { s with heap := h', toks := tk' }) :
    wpAny (model PySem.Challenge.rw_xm0795_01.row.prog w) (ktrTop dp un gd cn cs L a₀ ccd cl outer) (call (.ref 88) [.ref Rw, .int p tp, .int x tx]) Q E s :=
  with_K (news := all) (n := n) B F X₀ T hke (fun z hz => by
    rcases List.mem_cons.mp hz with rfl | hz
    · exact N _ hm
    · exact N z hz) hi hn hp hp' hroom fun D us k h' tk' hi' F' N' l1 => h D us k h' tk' hi' F' (fun z hz => by
      rcases List.mem_cons.mp hz with rfl | hz
      · exact N' _ (.head _)
      · exact N' z (.tail _ (.tail _ hz))) l1.2
end
end Mine
end
section
open PySem PySem.W PyProof.Rows PySem.Calls
namespace Mine
theorem pick5 {x r : Int} (h : x ∈ [0, 0, 0, 1, r]) (h0 : 0 ≤ r) (h5 : r < 5) : 0 ≤ x ∧ x ≤ 4 := by
  simp only [List.mem_cons, List.not_mem_nil, or_false] at h
  omega
theorem sum_bound {ns : List Int} {n : Nat} (hn : ns.length = n) (hk : ∀ k ∈ ns, 0 ≤ k ∧ k ≤ 4) : 0 ≤ ns.sum ∧ ns.sum ≤ 4 * (n : Int) := by
  induction ns generalizing n with
  | nil => simp at hn; subst hn; simp
  | cons a r ih =>
    obtain ⟨m, rfl⟩ : ∃ m, n = m + 1 := ⟨n - 1, by simp at hn; omega⟩
    have h1 := ih (n := m) (by simpa using hn) (fun k h => hk k (.tail _ h))
    have h2 := hk a (.head _)
    simp only [List.sum_cons]
    omega
theorem trim_a {h₀ h : Heap} {L : Addr} {x1 x2 x3 x4 x5 x6 x7 x8 x9 x10 : Addr × Obj} (N : News h₀ L h [x1, x2, x3, x4, x5, x6, x7, x8, x9, x10]) : News h₀ L h [x1, x6, x7, x10] := fun p hp => by
  simp only [List.mem_cons, List.not_mem_nil, or_false] at hp
  rcases hp with rfl | rfl | rfl | rfl <;> exact N _ (by simp)
theorem trim_b {h₀ h : Heap} {L : Addr} {x1 x2 x3 x4 x5 x6 x7 x8 x9 x10 x11 x12 x13 x14 x15 : Addr × Obj} (N : News h₀ L h [x1, x2, x3, x4, x5, x6, x7, x8, x9, x10, x11, x12, x13, x14, x15]) : News h₀ L h [x1, x12, x13, x14, x15] := fun p hp => by
  simp only [List.mem_cons, List.not_mem_nil, or_false] at hp
  rcases hp with rfl | rfl | rfl | rfl | rfl <;> exact N _ (by simp)
theorem trim_c {h₀ h : Heap} {L : Addr} {x1 x2 x3 x4 x5 x6 x7 x8 x9 x10 x11 x12 x13 x14 x15 x16 x17 x18 x19 x20 : Addr × Obj} (N : News h₀ L h [x1, x2, x3, x4, x5, x6, x7, x8, x9, x10, x11, x12, x13, x14, x15, x16, x17, x18, x19, x20]) : News h₀ L h [x19, x1, x2, x3, x16, x17, x18, x20] := fun p hp => by
  simp only [List.mem_cons, List.not_mem_nil, or_false] at hp
  rcases hp with rfl | rfl | rfl | rfl | rfl | rfl | rfl | rfl <;> exact N _ (by simp)
theorem ne_a {h₀ h : Heap} {L : Addr} {x1 x2 x3 x4 x5 x6 x7 x8 x9 x10 : Addr × Obj} (_ : News h₀ L h [x1, x2, x3, x4, x5, x6, x7, x8, x9, x10]) (e1 : @Ne Nat x6.1 x7.1) (e2 : @Ne Nat x10.1 x7.1) : @Ne Nat x6.1 x7.1 ∧ @Ne Nat x10.1 x7.1 := ⟨e1, e2⟩
theorem nd1 (ss : List Int) : ¬ (ss ++ [255, 255]).Nodup := fun h => by
  have h2 := (List.nodup_append.mp h).2.1
  simp at h2
theorem nd2 {ss : List Int} (h0 : 0 < ss.length) : ¬ (ss ++ [255, ss.getD 0 0]).Nodup := fun h => by
  have h2 := (List.nodup_append.mp h).2.2
  obtain ⟨a, r, rfl⟩ : ∃ a r, ss = a :: r := by
    cases ss with
    | nil => simp at h0
    | cons a r => exact ⟨a, r, rfl⟩
  exact h2 a (.head _) a (by simp) rfl
section
variable {cs ss rs ws : List Int} {p : Int}
theorem gd_2 (hn : cs.length = 16) (hk : ∀ k ∈ cs, 0 ≤ k ∧ k ≤ 4) (h : Sym cs ss) (hs : cs.sum ≤ 64) : Good cs ss (Str.ofString "") := good_2 hn hk h hs
theorem gd_u (hn : cs.length = 16) (hk : ∀ k ∈ cs, 0 ≤ k ∧ k ≤ 4) (h : cs.sum ≠ (rs.length : Int)) (hl : rs.length ≤ 400) : Good cs rs (Str.ofString "a table has another number of symbols") := good_u hn hk h hl
theorem gd_m (hn : cs.length = 16) (hk : ∀ k ∈ cs, 0 ≤ k ∧ k ≤ 4) (h : Sym cs ss) (hs : cs.sum ≤ 64) (h0 : 0 ≤ p) (h1 : p < 16) : Good (withI cs p (cs.getD p.toNat 0 + 1)) ss (Str.ofString "a table has another number of symbols") := good_m hn hk h hs h0 h1
theorem gd_a (hn : cs.length = 16) (hk : ∀ k ∈ cs, 0 ≤ k ∧ k ≤ 4) (hr : (rs.length : Int) = cs.sum + 2) (hd : ¬ rs.Nodup) (hs : cs.sum ≤ 64) (h0 : 0 ≤ p) (h1 : p < 16) : Good (withI cs p (cs.getD p.toNat 0 + 2)) rs (Str.ofString "a symbol stands twice in a table") := good_a hn hk hr hd hs h0 h1
theorem gd_w (h : Wrong ws) (hl : rs.length ≤ 400) : Good ws rs (Str.ofString "a table tells sixteen numbers of codes") := good_w h hl
theorem gd_t (h : rs.length = 257) : Good [257, 0, 0, 0, 0, 0, 0, 0, 0, 0, 0, 0, 0, 0, 0, 0] rs (Str.ofString "a table has another number of symbols") := good_t h
end
/-- what the redoubled symbols keep -/
def RedJ (h₀ : Heap) (L : Addr) (m : Str → Option Value) (S : Addr) (rest : List (Addr × Obj)) (cs : List Int) (s : Shared) (v : Value) (s' : Shared) : Prop :=
  ∃ (D : Addr) (us : List Value) (k : Nat) (rs : List Int) (a b : Int) (ta tb : Tok) (c : Nat) (h' : Heap) (tk' : Nat), v = .ref D ∧ s' = { s with heap := h', toks := tk' } ∧ IntsAre us rs ∧ (rs.length : Int) = cs.sum + 2 ∧ ¬ rs.Nodup ∧ @Ne Nat D S ∧ 0 ≤ a ∧ 0 ≤ b ∧ b < 2147483647 ∧ Fr h₀ L h' m ∧
    News h₀ L h' ((D, listOf us.toArray k) :: (S, listOf [Value.int a ta, Value.int b tb].toArray c) :: rest)
theorem redJ {h₀ h' : Heap} {L S D : Addr} {m : Str → Option Value} {s : Shared} {all rest : List (Addr × Obj)} {cs rs : List Int} {us : List Value} {a b : Int} {ta tb : Tok} {c k tk : Nat}
    (F : Fr h₀ L h' m) (N : News h₀ L h' all) (hD : (D, listOf us.toArray k) ∈ all) (i : IntsAre us rs) (hr : (rs.length : Int) = cs.sum + 2) (hd : ¬ rs.Nodup) (hne : @Ne Nat D S)
    (hs : (S, listOf [Value.int a ta, Value.int b tb].toArray c) ∈ all) (hl : ∀ p ∈ rest, p ∈ all) (ha : 0 ≤ a) (hb : 0 ≤ b) (hb' : b < 2147483647) :
    RedJ h₀ L m S rest cs s (.ref D) { s with heap := h', toks := tk } := by
  refine ⟨D, us, k, rs, a, b, ta, tb, c, h', tk, rfl, rfl, i, hr, hd, hne, ha, hb, hb', F, fun p hp => ?_⟩
  rcases List.mem_cons.mp hp with rfl | hp
  · exact N _ hD
  · rcases List.mem_cons.mp hp with rfl | hp
    · exact N _ hs
    · exact N _ (hl p hp)
theorem red_cut {M : Model} {A : Around} {t : Sem Value} {E Q : Value → Shared → Prop} {h₀ : Heap} {L S : Addr} {m : Str → Option Value} {s : Shared} {rest : List (Addr × Obj)} {cs ss : List Int} {a b : Int} {ta tb : Tok} {c : Nat}
    (_ : Fr h₀ L s.heap m) (_ : Sym cs ss) (_ : News h₀ L s.heap ((S, listOf [Value.int a ta, Value.int b tb].toArray c) :: rest)) (j : wpAny M A t (RedJ h₀ L m S rest cs s) E s)
    (h : ∀ (D : Addr) (us : List Value) (k : Nat) (rs : List Int) (a b : Int) (ta tb : Tok) (c : Nat) (h' : Heap) (tk' : Nat), IntsAre us rs → (rs.length : Int) = cs.sum + 2 → ¬ rs.Nodup → @Ne Nat D S → 0 ≤ a → 0 ≤ b → b < 2147483647 → Fr h₀ L h' m →
      News h₀ L h' ((D, listOf us.toArray k) :: (S, listOf [Value.int a ta, Value.int b tb].toArray c) :: rest) → Q (.ref D) { s with heap := h', toks := tk' }) : wpAny M A t Q E s :=
  wpAny_mono j (fun v s' hv => by
    obtain ⟨D, us, k, rs, a, b, ta, tb, c, h', tk', rfl, rfl, i, hr, hd, hne, ha, hb, hb', F, N⟩ := hv
    exact h D us k rs a b ta tb c h' tk' i hr hd hne ha hb hb' F N) (fun _ _ h => h)
def Hold (P : Prop) : Prop := P
theorem hold {P : Prop} (h : Hold P) : P := h
theorem cnt_end {h₀ h' : Heap} {L S' I C D : Addr} {m : Str → Option Value} {s₁ : Shared} {oI oC oD o0 : Obj} {all rest : List (Addr × Obj)} {a b k : Int} {ta tb t : Tok} {c tk : Nat}
    (F : Fr h₀ L h' m) (N : News h₀ L h' all) (off : LCg.Off3 I C D ((S', o0) :: rest)) (hI : (I, oI) ∈ all) (hC : (C, oC) ∈ all) (hD : (D, oD) ∈ all)
    (hs : (S', listOf [Value.int a ta, Value.int b tb].toArray c) ∈ all) (hr : ∀ p ∈ rest, p ∈ all) (ha : 0 ≤ a) (hb : 0 ≤ b) (hb' : b < 2147483647) (hk : 0 ≤ k ∧ k ≤ 4) :
    LCg.CompEnd h₀ L m s₁ I oI C oC D oD (fun _ => True) (fun y news' => CntEl S' rest y news') (.int k t) { s₁ with heap := h', toks := tk } := by
  refine LCg.CompEnd.intro F N ((S', listOf [Value.int a ta, Value.int b tb].toArray c) :: rest) (fun p hp => ?_) off trivial ⟨a, b, ta, tb, c, rfl, ha, hb, hb', k, t, rfl, hk⟩
  rcases List.mem_cons.mp hp with rfl | hp
  · exact hI
  · rcases List.mem_cons.mp hp with rfl | hp
    · exact hC
    · rcases List.mem_cons.mp hp with rfl | hp
      · exact hD
      · rcases List.mem_cons.mp hp with rfl | hp
        · exact hs
        · exact hr p hp

theorem pos_of {ss : List Int} (h : decide (ss = []) = false) : 0 < ss.length := by
  cases ss with
  | nil => simp at h
  | cons a r => simp
theorem gd_d {cs ss : List Int} (hn : cs.length = 16) (hk : ∀ k ∈ cs, 0 ≤ k ∧ k ≤ 4) (h : Sym cs ss) (hs : cs.sum ≤ 64) (h0 : decide (ss = []) = false) : Good cs (ss.drop 1) (Str.ofString "a table has another number of symbols") :=
  gd_u hn hk (by have := pos_of h0; have := h.len; rw [List.length_drop]; omega) (by have := h.len; rw [List.length_drop]; omega)
theorem item_zero {prog : Program} {w : World} {A : Around} {E Q : Value → Shared → Prop} {s : Shared} {value slice : Expr} {l : Addr} {vs : List Value} {ns : List Int} {u : Tok} (hl : s.heap.IsList l vs.toArray) (hi : IntsAre vs ns) (h0 : decide (ns = []) = false) (hz : ns.length < 1000)
    (hs : subscripted slice false (.ref l) (.int 0 u) = operate [.ref l, .int 0 u] (getItem (.ref l) (.int 0 u))) (h : ∀ t, Q (.int (ns.getD 0 0) t) s) :
    wpAny (model prog w) A (subscriptTail value slice (.ref l) (.int 0 u)) Q E s := by
  cases hi with
  | nil => simp at h0
  | cons n t r =>
    refine tail_any hl.typeIs slot_list_getitem.lookup (wpAny_getItem_list (x := .int n t) hl (by decide) (by decide) (by simp) ?_) hs
    simpa using h t
end Mine
end
section
open PySem PySem.W PyProof.Rows PySem.Calls
namespace Mine

local macro_rules | `(tactic| k_ne) => `(tactic| (refine neN ?_; (try dsimp only); first | with_reducible assumption | (with_reducible omega) | omega))
local macro_rules | `(tactic| walk_at "eval IfExp") => `(tactic| (k_here; k_dflt (refine' red_cut ?F ?Sy ?N ?_ ?post; (case F => k_asm); (case Sy => assumption); (case N => k_asm); k_whole; (case' post => intro D' us' k' rs' a' b' ta' tb' c' h' tk' hi' hr' hd' hne' x1' x2' x3' F' N'; (try k_sweep)))))
local macro_rules | `(tactic| walk_at "subscriptTail") => `(tactic| (k_here; (with_reducible show wpAny _ _ (subscriptTail _ _ (Value.ref _) (Value.int 0 _)) _ _ _); k_dflt (refine' item_zero ?hl ?hi ?h0 ?hz ?hs ?_; (case hl => is_list); (case hi => with_reducible assumption); (case h0 => with_reducible assumption); (case hz => omega); (case hs => with_unfolding_all rfl); k_whole; intro t')))
local macro_rules | `(tactic| walk_at "RedJ") => `(tactic| (k_dflt (refine' redJ ?F ?N ?hD ?i ?hr ?hd ?hne ?hs ?hl ?ha ?hb ?hb2; (case F => k_asm); (case N => k_asm); (case hD => k_mem); (case i => l_ints); (case hd => first | exact nd1 _ | exact nd2 (pos_of (by assumption))); (case hr => ((try simp only [List.length_append, List.length_cons, List.length_nil]); omega)); (case hne => k_ne); (case hs => k_mem); (case hl => lcg_sub); (case ha => assumption); (case hb => assumption); (case hb2 => assumption))))

local macro_rules | `(tactic| walk_at "call ref") => `(tactic| ((first | (with_reducible show wpAny _ _ (call (Value.ref 67) _) _ _ _) | (with_reducible show wpAny _ _ (call (Value.ref 60) _) _ _ _) | (with_reducible show wpAny _ _ (call (Value.ref 74) _) _ _ _) | (with_reducible show wpAny _ _ (call (Value.ref 81) _) _ _ _) | (with_reducible show wpAny _ _ (call (Value.ref 88) _) _ _ _)); refine hold ?_))
local macro_rules | `(tactic| walk_at "call ref") => `(tactic| (k_here; (with_reducible show wpAny _ _ (call (Value.ref 67) [Value.ref _, Value.int _ _]) _ _ _); k_dflt (refine' take_U ?B ?F ?X ?T ?hk ?N ?U ?a ?b ?b2 ?t1 ?t2 ?hr ?_; (case B => k_asm); (case F => k_asm); (case X => k_asm); (case T => k_asm); (case hk => exact rfl); (case N => k_asm); (case U => k_updF); (case a => assumption); (case b => assumption); (case b2 => assumption); (case t1 => omega); (case t2 => omega); (case hr => ktr_room); k_whole; intro r' t' a' b' ta' tb' c' h' tk' x1' x2' x3' x4' x5' x6' F' N'; (try k_sweep))))
local macro_rules | `(tactic| walk_at "call ref") => `(tactic| (k_here; (with_reducible show wpAny _ _ (call (Value.ref 60) [Value.ref _]) _ _ _); k_dflt (refine' pool_K ?B ?F ?X ?T ?hk ?l ?i ?z ?bits ?N ?hr ?_; (case B => k_asm); (case F => k_asm); (case X => k_asm); (case T => k_asm); (case hk => exact rfl); (case l => assumption); (case i => assumption); (case z => omega); (case bits => assumption); (case N => exact drop6 (by k_asm)); (case hr => ktr_room); k_whole; intro S' a' b' ta' tb' c' h' tk' x1' x2' x3' F' N' l1; (try k_lt l1); (try k_sweep))))
local macro_rules | `(tactic| walk_at "call ref") => `(tactic| (k_here; (with_reducible show wpAny _ _ (call (Value.ref 81) [Value.ref _, Value.ref _]) _ _ _); k_dflt (refine' told_at ?B ?F ?X ?N ?T ?hf ?hk ?l1 ?l2 ?i1 ?i2 ?g ?_; (case B => k_asm); (case F => k_asm); (case X => k_asm); (case N => k_asm); (case T => k_asm); (case hf => exact rfl); (case hk => exact rfl); (case l1 => is_list); (case l2 => is_list); (case i1 => l_ints); (case i2 => l_ints); (case g => first | exact good_1 | assumption | exact gd_w (by assumption) (by omega) | exact gd_2 (by assumption) (by assumption) (by assumption) (by omega) | exact gd_a (by assumption) (by assumption) (by assumption) (by assumption) (by omega) (by assumption) (by assumption) | exact gd_d (by assumption) (by assumption) (by assumption) (by omega) (by assumption) | exact gd_u (by assumption) (by assumption) (by (try simp only [List.length_drop]); omega) (by (try simp only [List.length_drop]); omega)); k_whole; intro t' h' tk' F' N'; (try k_sweep))))
local macro_rules | `(tactic| walk_at "call ref") => `(tactic| (k_here; (with_reducible show wpAny _ _ (call (Value.ref 74) [Value.ref _, Value.ref _]) _ _ _); (fail_if_success (rename Sym _ _ => zs)); k_dflt (refine' one_ints ?i ?B ?F ?X ?T ?hk ?N ?U ?hT ?hTS ?a ?b ?b2 ?v1 ?v2 ?hr ?_; (case N => k_asm); (case hT => k_mem); (case i => l_ints); (case B => k_asm); (case F => k_asm); (case X => k_asm); (case T => k_asm); (case hk => exact rfl); (case U => k_updF); (case hTS => k_ne); (case a => assumption); (case b => assumption); (case b2 => assumption); (case v1 => (simp only [List.length_cons, List.length_nil]; omega)); (case v2 => (simp only [List.length_cons, List.length_nil]; omega)); (case hr => ktr_room); k_whole; intro x' t' a' b' ta' tb' c' h' tk' xm' x3' x4' x5' x6' F' N'; (try k_sweep))))
local macro_rules | `(tactic| walk_at "call ref") => `(tactic| (k_here; (with_reducible show wpAny _ _ (call (Value.ref 74) [Value.ref _, Value.ref _]) _ _ _); (rename Wrong _ => zw); (rename News _ _ _ _ => nN); (k_dflt (have qt1 := ne_tup nN (.tail _ (.head _)) (.tail _ (.tail _ (.tail _ (.tail _ (.tail _ (.tail _ (.tail _ (.tail _ (.tail _ (.tail _ (.tail _ (.tail _ (.tail _ (.tail _ (.tail _ (.head _)))))))))))))))))); (dsimp only at qt1); k_dflt (refine' one_pair (P := fun a b => Good a b (Str.ofString "a table has another number of symbols")) ?M ?B ?F ?X ?T ?hk ?N ?U ?hT ?hTS ?a ?b ?b2 ?v1 ?v2 ?hr ?_; (case N => k_asm); (case hT => k_mem); (case M => exact Menu2.cons (by k_mem) (by exact ne_tup (by k_asm) (by k_mem) (by k_mem)) (by k_mem) (by k_ne) (by k_mem) (by k_ne) (by first | assumption | l_ints) (by first | assumption | l_ints) (gd_u (by assumption) (by assumption) (by simp only [List.length_append, List.length_cons, List.length_nil]; omega) (by simp only [List.length_append, List.length_cons, List.length_nil]; omega)) (Menu2.cons (by k_mem) (by exact ne_tup (by k_asm) (by k_mem) (by k_mem)) (by k_mem) (by k_ne) (by k_mem) (by k_ne) (by first | assumption | l_ints) (by first | assumption | l_ints) (gd_m (by assumption) (by assumption) (by assumption) (by omega) (by assumption) (by assumption)) (Menu2.cons (by k_mem) (by exact ne_tup (by k_asm) (by k_mem) (by k_mem)) (by k_mem) (by k_ne) (by k_mem) (by exact ne_len (by k_asm) (by k_mem) (by k_mem) (by first | assumption | l_ints) (by rw [len257]; decide)) (by first | assumption | l_ints) (by first | assumption | l_ints) (gd_t len257) Menu2.nil))); (case B => k_asm); (case F => k_asm); (case X => k_asm); (case T => k_asm); (case hk => exact rfl); (case U => k_updF); (case hTS => k_ne); (case a => assumption); (case b => assumption); (case b2 => assumption); (case v1 => exact Nat.le_of_ble_eq_true rfl); (case v2 => exact Nat.le_of_ble_eq_true rfl); (case hr => ktr_room); k_whole; intro t' p' q' k' us' k1' ns' us2' k2' ns2' a' b' ta' tb' c' h' tk' hi' hi2' hP' hpS' hqS' x3' x4' x5' x6' F' N'; (try k_sweep); (have q9' := ne_tup N' (.head _) (.tail _ (.tail _ (.tail _ (.tail _ (.tail _ (.tail _ (.tail _ (.tail _ (.tail _ (.tail _ (.tail _ (.tail _ (.tail _ (.tail _ (.tail _ (.tail _ (.tail _ (.tail _ (.head _)))))))))))))))))))); (replace N' := trim_c N'); (repeat ((with_reducible rename (_ ∧ _) => zc); clear zc)))))
local macro_rules | `(tactic| walk_at "call ref") => `(tactic| (k_here; (with_reducible show wpAny _ _ (call (Value.ref 74) [Value.ref _, Value.ref _]) _ _ _); (rename Sym _ _ => zs); (fail_if_success (rename Wrong _ => zw)); k_dflt (refine' one_list (P := Wrong) ?M ?B ?F ?X ?T ?hk ?N ?U ?hT ?hTS ?a ?b ?b2 ?v1 ?v2 ?hr ?_; (case N => k_asm); (case hT => k_mem); (case M => exact Menu.cons (by k_mem) (by k_ne) (by first | assumption | l_ints) (wrong_1 (by assumption) (by assumption)) (Menu.cons (by k_mem) (by k_ne) (by first | assumption | l_ints) (wrong_2 (by assumption) (by assumption)) (Menu.cons (by k_mem) (by k_ne) (by first | assumption | l_ints) wrong_3 (Menu.cons (by k_mem) (by k_ne) (by first | assumption | l_ints) (wrong_4 (by assumption) (by assumption) (by assumption) (by assumption)) (Menu.cons (by k_mem) (by k_ne) (by first | assumption | l_ints) wrong_5 Menu.nil))))); (case B => k_asm); (case F => k_asm); (case X => k_asm); (case T => k_asm); (case hk => exact rfl); (case U => k_updF); (case hTS => k_ne); (case a => assumption); (case b => assumption); (case b2 => assumption); (case v1 => exact Nat.le_of_ble_eq_true rfl); (case v2 => exact Nat.le_of_ble_eq_true rfl); (case hr => ktr_room); k_whole; intro l' us' k' ns' a' b' ta' tb' c' h' tk' hi' hP' hlS' x3' x4' x5' x6' F' N'; (try k_sweep); (have hlen' := Wrong.len hP'); (replace N' := trim_b N'); (repeat ((with_reducible rename (_ ∧ _) => zc); clear zc)))))
local macro_rules | `(tactic| walk_at "call ref") => `(tactic| (k_here; (with_reducible show wpAny _ _ (call (Value.ref 74) [Value.ref _, Value.ref _]) _ _ _); (rename (List.length _ = 16) => zg); (fail_if_success (rename Sym _ _ => zs)); k_dflt (refine' one_list (P := Sym _) ?M ?B ?F ?X ?T ?hk ?N ?U ?hT ?hTS ?a ?b ?b2 ?v1 ?v2 ?hr ?_; (case N => k_asm); (case hT => k_mem); (case M => exact Menu.cons (by k_mem) (by k_ne) (by first | assumption | l_ints) (sym_up (by assumption) (by omega) (by assumption) (by assumption) (by assumption) (by assumption)) (Menu.cons (by k_mem) (by k_ne) (by first | assumption | l_ints) (Sym.rev (sym_up (by assumption) (by omega) (by assumption) (by assumption) (by assumption) (by assumption))) Menu.nil)); (case B => k_asm); (case F => k_asm); (case X => k_asm); (case T => k_asm); (case hk => exact rfl); (case U => k_updF); (case hTS => k_ne); (case a => assumption); (case b => assumption); (case b2 => assumption); (case v1 => exact Nat.le_of_ble_eq_true rfl); (case v2 => exact Nat.le_of_ble_eq_true rfl); (case hr => ktr_room); k_whole; intro l' us' k' ns' a' b' ta' tb' c' h' tk' hi' hP' hlS' x3' x4' x5' x6' F' N'; (try k_sweep); (have hlen' := Sym.len hP'); (obtain ⟨q1', q2'⟩ := ne_a N' (by k_ne) (by k_ne)); (dsimp only at q1' q2'); (replace N' := trim_a N'); (repeat ((with_reducible rename (_ ∧ _) => zc); clear zc)))))
local macro_rules | `(tactic| walk_at "call ref") => `(tactic| (k_here; (with_reducible show wpAny _ _ (call (Value.ref 88) [Value.ref _, Value.int _ _, Value.int _ _]) _ _ _); k_dflt (refine' with_U ?B ?F ?X ?T ?hk ?N ?hm ?hi ?hn ?hp ?hp2 ?hr ?_; (case B => k_asm); (case F => k_asm); (case X => k_asm); (case T => k_asm); (case hk => exact rfl); (case N => k_asm); (case hm => k_mem); (case hi => assumption); (case hn => assumption); (case hp => assumption); (case hp2 => assumption); (case hr => ktr_room); k_whole; intro D' us' k' h' tk' hi' F' N' l1; (try simp only [AllLt, and_true] at l1); (try k_sweep))))
local macro_rules | `(tactic| walk_at "subscriptTail Name Slice ref ref") => `(tactic| (k_here; (with_reducible show wpAny _ _ (subscriptTail _ (PySem.Expr.Slice _ _ none _) (Value.ref _) (Value.ref _)) _ _ _); (try dsimp only); k_dflt (refine' kmk_slice_ints (s := ⟨_, _, _, _, _⟩) ?F ?N ?l ?p ?q ?i ?m ?c ?_ ?s ?t ?z; (case F => k_asm); (case N => k_asm); (case l => kmk_list); (case p => kmk_part); (case q => kmk_part); (case i => l_ints); (case m => first | exact kmk_upto (by l_ints) (by omega) | exact kmk_from (by l_ints) (by omega)); (case c => kmk_len); (case s => with_unfolding_all rfl); (case t => kmk_pure); (case z => exact kmk_sz (by l_ints) (by rw [sizeLine_eq]; omega))); intro D' ws' h' F' N' l1 hI' hC' hL'; (try simp only [Int.reduceNeg, Int.neg_neg, Int.reduceToNat] at hI' hC' hL'); (try k_lt l1); (try k_sweep)))
local macro_rules | `(tactic| walk_at "CompSrc") => `(tactic| (k_here; k_dflt (refine' LCg.CompSrc.range (a := 0) (b := 16) (n := 16) (by rfl) ?F ?N ?r (by decide) (by rfl) (by rw [sizeLine_eq]; omega) (fun g' => counts_rest ?h1 ?h2 ?h3 (fun I' oI' C' oC' D' m' ys' h' tk' E' a' b' ta' tb' c' y1 y2 y3 hC' F' N' off' ne' => ?turn) (fun ys' ns' a' b' ta' tb' c' hi' hn' hk' y1 y2 y3 => ?fin)); (case F => k_asm); (case N => k_asm); (case r => assumption); (case h1 => assumption); (case h2 => assumption); (case h3 => assumption); (case' fin => (obtain ⟨hs8, hs9⟩ := sum_bound hn' hk'))); (all_goals (try (have off9 := off'))); (all_goals (try simp only [LCg.Off3, and_true] at off')); (all_goals (try k_fold))))
local macro_rules | `(tactic| walk_at "CompEnd") => `(tactic| (k_dflt (refine' cnt_end ?F ?N ?off ?hI ?hC ?hD ?hs ?hr ?ha ?hb ?hb2 ?hk; (case F => k_asm); (case N => k_asm); (case off => assumption); (case hI => k_mem); (case hC => k_mem); (case hD => k_mem); (case hs => k_mem); (case hr => lcg_sub); (case ha => assumption); (case hb => assumption); (case hb2 => assumption); (case hk => exact pick5 (by assumption) (by assumption) (by assumption)))))
theorem law_walk : PySem.Challenge.rw_xm0795_01.Holds := hd (by w_top off; k_go0; (all_goals try k_fold); k_steps)
end Mine
end
theorem PySem.Challenge.cw_xm0795_01_holds : PySem.Challenge.rw_xm0795_01.Holds := by
  exact Mine.law_walk
