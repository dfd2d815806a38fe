import PyProof.Rows.All
import Wide.All
import OpenK.AllK
import Wide.FinOn
import PySem.Challenge.RW_tk0091_01
set_option Elab.async false
set_option maxRecDepth 100000
set_option linter.unusedVariables false

section
open PySem PySem.W PySem.Calls PyProof.Rows
namespace Mine
/-- the statements that a row of marks keeps -/
def kept : List Bool → List Stmt → List Stmt
  | true :: bs, s :: r => s :: kept bs r
  | false :: bs, _ :: r => kept bs r
  | _, _ => []
set_option maxHeartbeats 4000000 in
/-- the view: the top without the four rows that name the files (the goal h finds the written value for b; f then hands on b alone) -/
noncomputable def hd.view_39 : Program := by
  refine (?f : ∀ b : Program, b = { PySem.Challenge.pw_tk0091_01 with main := { PySem.Challenge.pw_tk0091_01.main with body := kept [false, true, true, false, true, true, true, false, true, true, true, true, true, true, true, true, true, true, true, true, true, true, true, true, false, true, true, true, true, true, true] PySem.Challenge.pw_tk0091_01.main.body } } → Program) ?b ?h
  case h => (dsimp only [PySem.Challenge.pw_tk0091_01, kept]; exact rfl)
  case f => exact fun b _ => b

/-- the head behind the library's boot: what is left is the top's run from there -/
theorem left_of_boot {p q : Program} {loose : List Str} {Xt : Shared → Bool} {α : Type} {Yf : Shared → α} {Ya : World → α} {N : Nat}
    (e : opening p = plainProg p.main.scope.names) (hN : Nat.ble 600 N = true) (f : ∀ s, fenceModules? p s = some s)
    (h : ∀ (w : World) (os : OsState), (topFrom treeTable p w N ⟨boot_heap w.params, #[], boot_drawn, boot_toks, os⟩).map (fun s => (openSeen q loose (importedModules p.main.body) Xt true s, Yf s)) = some (openGood q loose, Ya w)) :
    LeftO p q loose Xt Yf Ya N := fun w => by
  obtain ⟨⟨h', gs, d, k, os⟩, e1, e2⟩ := Option.map_eq_some_iff.mp (boot_open e hN f w)
  obtain ⟨rfl, rfl, rfl, rfl⟩ : h' = boot_heap w.params ∧ gs = #[] ∧ d = boot_drawn ∧ k = boot_toks := by simpa using e2
  unfold openEnds
  rw [e1]
  exact h w os

-- o_head's own refine, with the view above; the head's run as ONE kernel check over the library's fast twins (of the tables, of topRun, of openSeen) in place of pieces: the pieces' twins of each heap took 13 MB of the compiled file
local macro_rules
  | `(tactic| o_head $H:term) => `(tactic| (
      refine holds_open (q := hd.view_39) (loose := []) (Xt := fun s => xlAt hd.view_39 [] s && recOk (RowW.records (OpenRow.toRowW (OpenLaw.row PySem.Challenge.rw_tk0091_01))) s) (XP := XL hd.view_39 []) (Yf := Hook.obs $H) (Ya := Hook.val $H) (YP := Hook.says $H) (N := 2760) ?hl (Hook.of $H) (Hook.keeps $H) (fun s e => xl_of s (Bool.and_eq_true_iff.mp e).1) XL.keeps (by rfl) (by rfl) (by rfl) (fun s e => recFacts_of (Bool.and_eq_true_iff.mp e).2) (by rfl) (by first | assumption | decide +kernel) (by decide +kernel) ⟨rfl, rfl, rfl, rfl, rfl, by decide +kernel⟩ ?hw ?hc
      case hl =>
        refine left_of_boot (by rfl) (by rfl) (fun s => by rfl) ?_
        intro w os
        unfold topFrom
        rw [Fast.te14364793385576792824, Fast.te14082659384304107361, Fast.te4187177175401517315]
        kernel_rfl))
set_option maxHeartbeats 8000000 in
open_top hd for PySem.Challenge.rw_tk0091_01
end Mine
end

section
open PySem PySem.W PySem.Calls PyProof.Rows
namespace Mine
noncomputable abbrev PG : Program := PySem.Challenge.rw_tk0091_01.row.prog



/-- what a call finds: the frames below, the written part, the top, room for n more frames -/
structure Cx (w : World) (base : Heap) (mean : ExcName → Option Value) (mg mb : Str → Option Value) (A : Around) (l : List Env) (n : Nat) (h : Heap) : Prop where
  below : Below A base l h
  kin : (hd.heap_39 w.params).In base
  top : Top hd.view_39 (looseW hd.view_39 []) mean mg mb base
  room : A.depth + n < recursionLimit
  units : A.units + 16 * n < cLine

def adrs (l : List Env) : List Addr := l.filterMap (·.frame)

/-- own objects that a callee may change: they stand, they are no frames, they are not the ground's -/
def Own (base : Heap) (l : List Env) (h : Heap) (news : List (Addr × Obj)) : Prop :=
  ∀ p ∈ news, h.get? p.1 = some p.2 ∧ base.get? p.1 = none ∧ p.1 ∉ adrs l

section
variable {w : World} {base : Heap} {mean : ExcName → Option Value} {mg mb : Str → Option Value} {A : Around} {l : List Env} {n : Nat} {s : Shared} {news : List (Addr × Obj)}
  {R : Result → Shared → Prop} {name qual : Str} {params : Arguments} {body : List Stmt} {scope : Scope} {dV kV doc pm cdv ct oc : Value} {an od : Option Addr} {osl : Array (Option Value)} {f : Addr} {args : Args} {binds : List (Str × Value)}

theorem enter (C : Cx w base mean mg mb A l n s.heap) (N : Own base l s.heap news)
    (ho : (hd.heap_39 w.params).lookup f = some ⟨oc, od, .func (fnOf name qual params body scope dV kV doc pm an cdv ct), osl⟩) (hcd : codeIn (hd.heap_39 w.params) cdv qual = true)
    (hbind : BindsTo s (fnOf name qual params body scope dV kV doc pm an cdv ct) args binds) (hloc : ∀ y ∈ binds, scope.names.lookup y.1 = some .local)
    (h : ∀ g L h₁, (∀ b o, s.heap.get? b = some o → b ∉ news.map (·.1) → g.get? b = some o) → (∀ b o, g.get? b = some o → s.heap.get? b = some o) → g.objs.size = s.heap.objs.size → L = s.heap.objs.size →
      Fr g L h₁ (fun y => binds.reverse.lookup y) → News g L h₁ news → Below A base l g → (hd.heap_39 w.params).In g → Top hd.view_39 (looseW hd.view_39 []) mean mg mb g →
      wpAny (model PG w) (A.deeper (envOf qual scope L f cdv)) (execs body (envOf qual scope L f cdv))
        (fun fl s' => R (.ok (.ret (match fl with | .ret v => v | _ => .none))) s')
        (fun e s' => wpAny (model PG w) (A.deeper (envOf qual scope L f cdv)) (leaving (envOf qual scope L f cdv) e) (fun _ s'' => R (.error e) s'') (fun e' s'' => R (.error e') s'') s')
        { s with heap := h₁, toks := s.toks + binds.length })
    (hcell : ∀ x ∈ scope.names, x.2 ≠ .cell) (hco : scope.isCoroutine = false := by rfl) (hgen : scope.isGenerator = false := by rfl) (hk : scope.kind = .function := by rfl) :
    codeAny (model PG w) A (.call (.ref f) args) R s := by
  have st : base.StaysIn (hideAll s.heap (news.map (·.1))) := fun b o e => hideAll_get _ (C.below.stays b o e) fun q => by
    obtain ⟨p, hp, rfl⟩ := List.mem_map.mp q
    rw [(N p hp).2.1] at e; cases e
  have X := C.kin.keeps C.below.stays
  have T := C.top.keeps C.below.stays
  refine codeAny_call_def (fd := fnOf name qual params body scope dV kV doc pm an cdv ct) (body := body) (binds := binds) (by have := C.room; omega) (X _ _ ho) rfl T.nolimit (codeRec_of X hcd) rfl hbind hcell hloc (fun h₁ hns hk₁ => ?_) hco hgen hk
  refine h (hideAll s.heap (news.map (·.1))) s.heap.objs.size h₁ (fun b o e q => hideAll_get _ e q) (fun b o e => of_hideAll _ e) (hideAll_size _ _) rfl
    ⟨hns, fun b o e => hk₁ b o (of_hideAll _ e), Nat.le_of_eq (hideAll_size _ _)⟩
    (fun p hp => ⟨hk₁ _ _ (N p hp).1, Nat.ne_of_lt (Heap.lt_size (N p hp).1), hideAll_none _ (List.mem_map_of_mem hp)⟩)
    ⟨C.below.stack, st, funFrames_hideAll C.below.frames fun env he b hb hf => ?_⟩ (C.kin.keeps fun b o e => st b o e) (C.top.keeps fun b o e => st b o e)
  obtain ⟨p, hp, rfl⟩ := List.mem_map.mp hb
  exact (N p hp).2.2 (List.mem_filterMap.mpr ⟨env, he, hf⟩)
end

/-- all that stood stands, but for some -/
def Stay (ch : List Addr) (h h' : Heap) : Prop := ∀ b o, h.get? b = some o → b ∉ ch → h'.get? b = some o
end Mine
end

section
open PySem PySem.W PySem.Calls PyProof.Rows PySem.Spec
namespace Mine
/-- what stood still stands: the frames `fs` may have other slots, the objects `ch` may be others -/
def Keep (fs ch : List Addr) (h h' : Heap) : Prop :=
  ∀ b o, h.get? b = some o → ∃ o', h'.get? b = some o' ∧ (b ∉ ch → (b ∉ fs → o' = o) ∧ ∃ sl, o' = { o with slots := sl })

section
variable {fs fs₁ fs₂ ch ch₁ ch₂ : List Addr} {h h₁ h₂ : Heap} {b : Addr} {o : Obj}
theorem Keep.refl : Keep fs ch h h := fun b o e => ⟨o, e, fun _ => ⟨fun _ => rfl, o.slots, rfl⟩⟩
theorem Keep.trans (x : Keep fs₁ ch₁ h h₁) (y : Keep fs₂ ch₂ h₁ h₂)
    (hf : ∀ b o, h.get? b = some o → b ∈ fs₁ ∨ b ∈ fs₂ → b ∈ fs) (hc : ∀ b o, h.get? b = some o → b ∈ ch₁ ∨ b ∈ ch₂ → b ∈ ch) : Keep fs ch h h₂ := by
  intro b o e
  obtain ⟨o₁, e₁, k₁⟩ := x b o e
  obtain ⟨o₂, e₂, k₂⟩ := y b o₁ e₁
  refine ⟨o₂, e₂, fun nc => ?_⟩
  obtain ⟨a₁, sl₁, q₁⟩ := k₁ fun m => nc (hc b o e (.inl m))
  obtain ⟨a₂, sl₂, q₂⟩ := k₂ fun m => nc (hc b o e (.inr m))
  refine ⟨fun nf => ?_, sl₂, by rw [q₂, q₁]⟩
  rw [a₂ fun m => nf (hf b o e (.inr m)), a₁ fun m => nf (hf b o e (.inl m))]
theorem Keep.then (x : Keep fs ch h h₁) (y : Keep fs ch h₁ h₂) : Keep fs ch h h₂ := x.trans y (fun _ _ _ m => m.elim id id) fun _ _ _ m => m.elim id id
theorem Keep.mono (x : Keep fs₁ ch₁ h h₁) (hf : ∀ b ∈ fs₁, b ∈ fs) (hc : ∀ b ∈ ch₁, b ∈ ch) : Keep fs ch h h₁ :=
  x.trans (Keep.refl (fs := []) (ch := [])) (fun b _ _ m => m.elim (hf b) fun q => nomatch q) fun b _ _ m => m.elim (hc b) fun q => nomatch q
theorem Keep.get (x : Keep fs ch h h₁) (e : h.get? b = some o) (nf : b ∉ fs) (nc : b ∉ ch) : h₁.get? b = some o := by
  obtain ⟨o', e', k⟩ := x b o e
  rw [e', (k nc).1 nf]
theorem Keep.up (x : Keep fs ch h h₁) (e : h.get? b = some o) (nc : b ∉ ch) : ∃ sl, h₁.get? b = some { o with slots := sl } := by
  obtain ⟨o', e', k⟩ := x b o e
  obtain ⟨_, sl, q⟩ := k nc
  exact ⟨sl, by rw [e', q]⟩
theorem Keep.old (x : Keep fs ch h h₁) (e : h₁.get? b = none) : h.get? b = none := by
  cases q : h.get? b with
  | none => rfl
  | some o => obtain ⟨o', e', _⟩ := x b o q; rw [e] at e'; cases e'
theorem Keep.of_all (x : ∀ b o, h.get? b = some o → h₁.get? b = some o) : Keep fs ch h h₁ := fun b o e => ⟨o, x b o e, fun _ => ⟨fun _ => rfl, o.slots, rfl⟩⟩
theorem Keep.of_slots (x : Heap.SlotsOnly fs h h₁) : Keep fs ch h h₁ := fun b o e => by
  obtain ⟨sl, q⟩ := x.2.2 b o e
  refine ⟨_, q, fun _ => ⟨fun nf => ?_, sl, rfl⟩⟩
  have := x.2.1 b nf
  rw [e, q] at this
  exact Option.some.inj this
theorem Keep.of_update {f : Obj → Obj} (e : h.get? b = some o) (hf : (f o).isFreed = false) : Keep fs [b] h (h.update b f) := fun c oc ec => by
  by_cases q : c = b
  · subst q
    rw [e] at ec; cases ec
    exact ⟨_, Heap.get?_update_self _ e hf, fun nc => absurd (List.mem_singleton.mpr rfl) nc⟩
  · exact ⟨oc, (Heap.get?_update_other _ _ (Ne.symm q)).trans ec, fun _ => ⟨fun _ => rfl, oc.slots, rfl⟩⟩
theorem Keep.of_push (o : Obj) : Keep fs ch h (h.push o) := .of_all fun _ _ e => Heap.get?_push_of_some _ e
theorem Keep.ns {m : Str → Option Value} (x : Keep fs ch h h₁) (n : h.Ns b m) (nc : b ∉ ch) : h₁.Ns b m := by
  obtain ⟨o, es, ep, e, hd, r⟩ := n
  obtain ⟨sl, q⟩ := x.up e nc
  exact ⟨_, es, ep, q, hd, r⟩
theorem Keep.ns1 {m : Str → Option Value} (x : Keep fs ch h h₁) (n : h.Ns1 b m) (nc : b ∉ ch) : h₁.Ns1 b m := by
  obtain ⟨o, es, ep, e, hd, r⟩ := n
  obtain ⟨sl, q⟩ := x.up e nc
  exact ⟨_, es, ep, q, hd, r⟩
theorem Keep.frames {base : Heap} {l : List Env} (x : Keep fs ch h h₁) (k : h.FunFrames base l) (nc : ∀ b ∈ adrs l, b ∉ ch) : h₁.FunFrames base l := by
  induction l with
  | nil => trivial
  | cons env l ih =>
    obtain ⟨hk, ⟨L, o, hf, hn, ho, hd⟩, hr⟩ := k
    have hm : L ∈ adrs (env :: l) := List.mem_filterMap.mpr ⟨env, .head _, hf⟩
    obtain ⟨sl, q⟩ := x.up ho (nc L hm)
    exact ⟨hk, ⟨L, _, hf, hn, q, hd⟩, ih hr fun b hb => nc b (by
      obtain ⟨e, he, hf'⟩ := List.mem_filterMap.mp hb
      exact List.mem_filterMap.mpr ⟨e, .tail _ he, hf'⟩)⟩
theorem Keep.stays {base : Heap} (x : Keep fs ch h h₁) (k : base.StaysIn h) (nf : ∀ b o, base.get? b = some o → b ∉ fs ∧ b ∉ ch) : base.StaysIn h₁ := fun b o e =>
  x.get (k b o e) (nf b o e).1 (nf b o e).2
end

/-- an exception's members: six at least; a Short has no context -/
def Well (C : Addr) (vs : Array Value) : Prop := 5 < vs.size ∧ (C = 51 → vs[2]? = some .none)
theorem Well.set {C : Addr} {vs : Array Value} (h : Well C vs) (x : Value) : Well C (vs.setIfInBounds 1 x) :=
  ⟨by simpa using h.1, fun q => by rw [Array.getElem?_setIfInBounds_ne (by decide)]; exact h.2 q⟩

/-- an exception with a traceback, `fl` its flight's mark; its own attributes are mA -/
structure Fly (h : Heap) (e C T : Addr) (mA : Str → Option Value) (fl : Value) : Prop where
  exc : ∃ oe vs d, h.get? e = some oe ∧ oe.cls = .ref C ∧ oe.dict = some d ∧ oe.data = .fields vs ∧ vs[1]? = some (.ref T) ∧ Well C vs ∧ h.Ns1 d mA
  tb : ∃ oT ts, h.get? T = some oT ∧ oT.data = .fields ts ∧ ts[3]? = some fl
  ne : T ≠ e

/-- an exception just made: no traceback yet -/
def Fresh (h : Heap) (e C : Addr) (mA : Str → Option Value) : Prop :=
  ∃ oe vs d, h.get? e = some oe ∧ oe.cls = .ref C ∧ oe.dict = some d ∧ oe.data = .fields vs ∧ vs[1]? = some .none ∧ Well C vs ∧ h.Ns1 d mA

section
variable {M : Model} {A : Around} {E : Value → Shared → Prop} {s : Shared} {base : Heap} {env : Env} {outer : List Env} {L e C T : Addr} {mA : Str → Option Value} {fl : Value} {Q : Unit → Shared → Prop}

theorem frame_notFields {h : Heap} {l : List Env} (k : h.FunFrames base l) {b : Addr} {o : Obj} {vs : Array Value} (e : h.get? b = some o) (hd : o.data = .fields vs) : b ∉ adrs l := fun hm => by
  obtain ⟨_, o', ho', hn⟩ := k.mem hm
  rw [e] at ho'; cases ho'
  exact hn vs hd
theorem ns1_ne {h : Heap} {d b : Addr} {m : Str → Option Value} {o : Obj} {vs : Array Value} (n : h.Ns1 d m) (e : h.get? b = some o) (hd : o.data = .fields vs) : d ≠ b := fun q => by
  obtain ⟨o', es, ep, e', hd', _⟩ := n
  subst q
  rw [e] at e'; cases e'
  rw [hd] at hd'; cases hd'

/-- a new entry of the traceback, laid at the exception -/
theorem entry_new {oe : Obj} {vs : Array Value} {d : Addr} {head : Value} {hadNext : Bool} (hfr : A.frames = some (env :: outer)) (hl : s.heap.FunFrames base (env :: outer)) (hf : env.frame = some L)
    (he : s.heap.get? e = some oe) (hc : oe.cls = .ref C) (hdi : oe.dict = some d) (hd : oe.data = .fields vs) (hsz : Well C vs) (hns : s.heap.Ns1 d mA)
    (h : ∀ h' T', Keep (adrs (env :: outer)) [e] s.heap h' → s.heap.get? T' = none → Fly h' e C T' mA (rawInt L) → Q () { s with heap := h' }) :
    wpAny M A (do let a ← frameOf env; let pl ← entryPlaceOf L hadNext; let b ← EntryCells.newEntry head a .none (rawInt L) .none pl; setField (.ref e) 1 b) Q E s := by
  refine wpAny_bind (wpAny_frameOf_fun hfr hl hf fun h₁ hs₁ => ?_)
  refine wpAny_bind (wpAny_entryPlaceOf fun pl hpl => ?_)
  unfold EntryCells.newEntry newFields
  refine wpAny_bind (wpAny_newObj_type ?_ (hpl.sizeOk5 _ _ _ _ _))
  have K₁ : Keep (adrs (env :: outer)) [e] s.heap h₁ := .of_slots hs₁
  have he₁ : h₁.get? e = some oe := (hs₁.2.1 e (frame_notFields hl he hd)).trans he
  generalize ht : ({ cls := .type "traceback", dict := none, data := .fields ([head, .ref L, .none, rawInt L, .none] ++ (if pl.isEmpty then List.replicate 6 Value.none else pl)).toArray } : Obj) = ot
  have hTe : h₁.objs.size ≠ e := Nat.ne_of_gt (Heap.lt_size he₁)
  have he₂ := Heap.get?_push_of_some (h := h₁) ot he₁
  have hd₃ := Obj.data_mapFields hd (·.setIfInBounds 1 (Value.ref h₁.objs.size))
  refine wpAny_setField he₂ hd (by have := hsz.1; omega) (h _ h₁.objs.size ((K₁.then (.of_push ot)).then (.of_update he₂ (Obj.isFreed_of_fields hd₃))) ?_ ⟨⟨_, _, d, Heap.get?_update_self _ he₂ (Obj.isFreed_of_fields hd₃), by rw [Obj.cls_mapFields]; exact hc, ?_, hd₃, ?_, ?_, ?_⟩, ⟨ot, _, ?_, by rw [← ht], ?_⟩, hTe⟩)
  · exact K₁.old (Heap.get?_none_of_le (Nat.le_refl _))
  · obtain ⟨c0, d0, dt0, sl0⟩ := oe
    cases dt0 <;> first | exact hdi | cases hd
  · rw [Array.getElem?_setIfInBounds_self_of_lt (by have := hsz.1; omega)]
  · exact hsz.set _
  · have n₁ := K₁.ns1 hns fun m => ns1_ne hns he hd (List.mem_singleton.mp m)
    have n₂ := (Keep.of_push (fs := []) (ch := []) ot).ns1 n₁ (fun m => nomatch m)
    exact (Keep.of_update (fs := []) he₂ (Obj.isFreed_of_fields hd₃)).ns1 n₂ fun m => ns1_ne hns he hd (List.mem_singleton.mp m)
  · exact (Heap.get?_update_other _ _ (Ne.symm hTe)).trans (Heap.get?_push_size h₁ (by rw [← ht]; rfl))
  · first | (simp; done) | (rcases hpl with rfl | ⟨_, _, _, _, _, _, _, rfl⟩ <;> simp)

theorem note_first (hfr : A.frames = some (env :: outer)) (hl : s.heap.FunFrames base (env :: outer)) (hf : env.frame = some L) (X : Fresh s.heap e C mA)
    (h : ∀ h' T', Keep (adrs (env :: outer)) [e] s.heap h' → s.heap.get? T' = none → Fly h' e C T' mA (rawInt L) → Q () { s with heap := h' }) :
    wpAny M A (noteFrame (.ref e) env) Q E s := by
  obtain ⟨oe, vs, d, he, hc, hdi, hd, h1, hsz, hns⟩ := X
  unfold noteFrame
  simp only [hf]
  refine wpAny_bind (wpAny_field he hd h1 ?_)
  rw [if_neg (by decide)]
  exact entry_new hfr hl hf he hc hdi hd hsz hns h

theorem field3 (X : Fly s.heap e C T mA fl) {x : Value} (h : ∀ h', Keep [] [T] s.heap h' → Fly h' e C T mA x → Q () { s with heap := h' }) : wpAny M A (setField (.ref T) 3 x) Q E s := by
  obtain ⟨⟨oe, vs, d, he, hc, hdi, hd, h1, hsz, hns⟩, ⟨oT, ts, hT, hdT, h3⟩, hne⟩ := X
  have hsz3 := (Array.getElem?_eq_some_iff.mp h3).1
  have hd₃ := Obj.data_mapFields hdT (·.setIfInBounds 3 x)
  have K : Keep [] [T] s.heap (s.heap.update T (Obj.mapFields (·.setIfInBounds 3 x))) := .of_update hT (Obj.isFreed_of_fields hd₃)
  exact wpAny_setField hT hdT hsz3 (h _ K ⟨⟨oe, vs, d, K.get he (fun m => nomatch m) (fun m => hne (List.mem_singleton.mp m).symm), hc, hdi, hd, h1, hsz, K.ns1 hns fun m => ns1_ne hns hT hdT (List.mem_singleton.mp m)⟩,
    ⟨_, _, Heap.get?_update_self _ hT (Obj.isFreed_of_fields hd₃), hd₃, by simp [hsz3]⟩, hne⟩)

theorem note_next (hfr : A.frames = some (env :: outer)) (hl : s.heap.FunFrames base (env :: outer)) (hf : env.frame = some L) (X : Fly s.heap e C T mA .none)
    (h : ∀ h' T', Keep (adrs (env :: outer)) [e, T] s.heap h' → s.heap.get? T' = none → Fly h' e C T' mA (rawInt L) → Q () { s with heap := h' }) :
    wpAny M A (noteFrame (.ref e) env) Q E s := by
  have X' := X
  obtain ⟨⟨oe, vs, d, he, hc, hdi, hd, h1, hsz, hns⟩, ⟨oT, ts, hT, hdT, h3⟩, hne⟩ := X
  unfold noteFrame
  simp only [hf]
  refine wpAny_bind (wpAny_field he hd h1 ?_)
  rw [if_pos (show (Value.ref T != Value.none) = true from by simp)]
  refine wpAny_bind (wpAny_field hT hdT h3 ?_)
  rw [if_neg (show ¬ ((Value.none == rawInt L) = true) from by simp [rawInt])]
  refine wpAny_bind (field3 X' fun h₁ K₁ F₁ => ?_)
  obtain ⟨⟨oe₁, vs₁, d₁, he₁, hc₁, hdi₁, hd₁, h1₁, hsz₁, hns₁⟩, -, -⟩ := F₁
  refine entry_new (s := { s with heap := h₁ }) hfr (K₁.frames hl fun b hb m => ?_) hf he₁ hc₁ hdi₁ hd₁ hsz₁ hns₁ fun h' T' K₂ n₂ F₂ =>
    h h' T' (K₁.trans K₂ (fun b _ _ m => m.elim (fun q => nomatch q) id) fun b _ _ m => m.elim (fun q => .tail _ q) fun q => List.mem_cons.mpr (.inl (List.mem_singleton.mp q))) (K₁.old n₂) F₂
  rw [List.mem_singleton.mp m] at hb
  exact frame_notFields hl hT hdT hb

theorem note_again (hf : env.frame = some L) (X : Fly s.heap e C T mA (rawInt L)) (h : Q () s) : wpAny M A (noteFrame (.ref e) env) Q E s := by
  obtain ⟨⟨oe, vs, d, he, hc, hdi, hd, h1, hsz, hns⟩, ⟨oT, ts, hT, hdT, h3⟩, hne⟩ := X
  unfold noteFrame
  simp only [hf]
  refine wpAny_bind (wpAny_field he hd h1 ?_)
  rw [if_pos (show (Value.ref T != Value.none) = true from by simp)]
  refine wpAny_bind (wpAny_field hT hdT h3 ?_)
  rw [if_pos (show (rawInt L == rawInt L) = true from by simp)]
  exact wpAny_pure h

theorem flight (X : Fly s.heap e C T mA fl) {f : Option Addr} (h : ∀ h', Keep [] [T] s.heap h' → Fly h' e C T mA (f.elim .none fun f => rawInt f) → Q () { s with heap := h' }) : wpAny M A (setFlight (.ref e) f) Q E s := by
  have X' := X
  obtain ⟨⟨oe, vs, d, he, hc, hdi, hd, h1, hsz, hns⟩, ⟨oT, ts, hT, hdT, h3⟩, hne⟩ := X
  unfold setFlight
  refine wpAny_bind (wpAny_field he hd h1 ?_)
  rw [if_pos (show (Value.ref T != Value.none) = true from by simp)]
  exact field3 X' h

theorem flight_fresh (X : Fresh s.heap e C mA) {f : Option Addr} (h : Q () s) : wpAny M A (setFlight (.ref e) f) Q E s := by
  obtain ⟨oe, vs, d, he, hc, hdi, hd, h1, hsz, hns⟩ := X
  unfold setFlight
  refine wpAny_bind (wpAny_field he hd h1 ?_)
  rw [if_neg (by decide)]
  exact wpAny_pure h
end
end Mine
end

section
open PySem PySem.W PySem.Calls PyProof.Rows PySem.Spec Builtin Builtin.ObjectAttr
namespace Mine
theorem fill : PySem.Challenge.rw_tk0091_01 = PySem.Challenge.rw_tk0091_01 ∧ hd.heap_39 = hd.heap_39 := by k_fill; exact ⟨rfl, rfl⟩

abbrev excMro : List Value := [.type "Exception", .type "BaseException", .type "object"]
abbrev clsObj (nm : String) (C N ad : Addr) (t1 t2 : Tok) : Obj :=
  excClassObj (Str.ofString nm) (Str.ofString nm) C N [.type "Exception"] excMro true [] [] false none none (some (.ref ad)) none (some (.str (Str.ofString nm) t1)) (some (.str (Str.ofString nm) t2)) (some (.bool true)) "Exception.__new__"

/-- an own exception class as it stands in the written part -/
structure ExcCls (h : Heap) (C N fI : Addr) : Prop where
  obj : ∃ nm ad t1 t2, h.get? C = some (clsObj nm C N ad t1 t2)
  ns : ∃ mN, h.Ns N mN ∧ mN "__init__" = some (.ref fI) ∧ ∀ n ∈ (["__setattr__", "__getattribute__", "__getattr__", "code", "text"] : List Str), mN n = none
  fn : ∃ o, h.get? fI = some o ∧ o.cls = .type "function"

theorem dictKeys_of {es : List DictEntry} (h : es.all (fun e => match e.key with | .str .. => true | _ => false) = true) : StrKeys es.toArray := by
  intro e he
  have := List.all_eq_true.mp h e (by simpa using he)
  revert this
  cases e.key <;> intro q <;> first | exact ⟨_, _, rfl⟩ | exact absurd q (by decide) | simp at q

theorem ns_lit {h : Heap} {N : Addr} {oc : Value} {es : List DictEntry} {ep : Nat} {sl : Array (Option Value)} (e : h.get? N = some ⟨oc, none, .dict es.toArray ep, sl⟩)
    (k : es.all (fun e => match e.key with | .str .. => true | _ => false) = true) : h.Ns N (fun x => nsFind es.toArray x) := ⟨_, _, ep, e, rfl, dictKeys_of k, fun _ => rfl⟩

set_option maxHeartbeats 2000000 in

theorem short_cls {w : World} {h : Heap} (X : (hd.heap_39 w.params).In h) : ExcCls h 51 50 48 := by
  have eC : h.get? 51 = some _ := X 51 _ (by k_is)
  have eN : h.get? 50 = some _ := X 50 _ (by k_is)
  have eI : h.get? 48 = some _ := X 48 _ (by k_is)
  refine ⟨⟨"Short", _, _, _, eC⟩, ⟨_, ns_lit eN rfl, ?_, ?_⟩, ⟨_, eI, rfl⟩⟩
  · rfl
  · intro n hn
    simp only [List.mem_cons, List.not_mem_nil, or_false] at hn
    rcases hn with rfl | rfl | rfl | rfl | rfl <;> rfl
set_option maxHeartbeats 2000000 in

theorem h3_cls {w : World} {h : Heap} (X : (hd.heap_39 w.params).In h) : ExcCls h 31 30 28 := by
  have eC : h.get? 31 = some _ := X 31 _ (by k_is)
  have eN : h.get? 30 = some _ := X 30 _ (by k_is)
  have eI : h.get? 28 = some _ := X 28 _ (by k_is)
  refine ⟨⟨"H3Error", _, _, _, eC⟩, ⟨_, ns_lit eN rfl, ?_, ?_⟩, ⟨_, eI, rfl⟩⟩
  · rfl
  · intro n hn
    simp only [List.mem_cons, List.not_mem_nil, or_false] at hn
    rcases hn with rfl | rfl | rfl | rfl | rfl <;> rfl

section
variable {prog : Program} {w : World} {A : Around} {E : Value → Shared → Prop} {h : Heap} {g : Array GenState} {d : Drawn} {t : Nat} {os : OsState} {C N fI x : Addr} {name : Str} {v : Value} {mA : Str → Option Value}

theorem exc_none (n : Str) (hn : n ∈ (["code", "text"] : List Str)) : typeLookup (.type "Exception") n = pure none := by
  simp only [List.mem_cons, List.not_mem_nil, or_false] at hn
  rcases hn with rfl | rfl <;> (rw [typeLookup_type, builtinLookup_eq_fast]; kernel_rfl)


set_option maxHeartbeats 1000000 in
theorem set_entry0 {nm : String} {ad : Addr} {t1 t2 : Tok} {mN : Str → Option Value} {o : Obj} {tk : Tok} {Q : Fin → Shared → Prop} (hC : h.get? C = some (clsObj nm C N ad t1 t2)) (hN : h.Ns N mN) (hna : mN name = none)
    (hB : typeLookup (.type "Exception") name = pure none) (hx : h.get? x = some o) (hc : o.cls = .ref C) (hdn : o.dict = none) (hnc : ∀ c, o.data ≠ .cls c)
    (hq : ∀ h' d' tk', h.get? d' = none → Keep [] [x] h h' → h'.get? x = some { o with dict := some d' } → h'.Ns1 d' (fun y => if y = name then some v else none) → Q (.done (.ret .none)) ⟨h', g, d, tk', os⟩) :
    wpAny (model prog w) A (Builtin.«object.__setattr__» ⟨[.ref x, .str name tk, v], []⟩) Q E ⟨h, g, d, t, os⟩ := by
  have SF := PySem.F.store_Exception
  have hpass := SF.passes (.ref x)
  unfold Builtin.«object.__setattr__»
  repeat (first | rw [refuse_eq] | (rw [refuseLoop_ref, hpass]) | (with_reducible refine wpAny_loadPart_at hx ?_; rw [hc]) | with_reducible refine wpAny_mroOf_exc hC ?_ | (with_reducible refine wpAny_typeLookup_exc hC hN SF.mro hB ?_; rw [hna]) | wp_step)
  rw [hdn, if_neg (by simp [typeHasDict])]
  split
  · rename_i hcd
    cases hcd
  split
  · rename_i c hcd
    exact absurd hcd (hnc c)
  have hd0 : h.get? h.objs.size = none := Heap.get?_none_of_le (Nat.le_refl _)
  have hx₁ : (h.push { cls := .type "dict", data := .dict #[] }).get? x = some o := Heap.get?_push_of_some _ hx
  have hxs : x ≠ h.objs.size := Nat.ne_of_lt (Heap.lt_size hx)
  refine wpAny_bind (wpAny_alloc' ?_)
  refine wpAny_bind (wpAny_update' hx₁ ?_)
  refine wpAny_pure ?_
  have hfr : ({ o with dict := some h.objs.size } : Obj).isFreed = false := by
    have hf := (Heap.get?_some_iff.mp hx).2
    obtain ⟨oc, od, odt, osl⟩ := o
    cases odt <;> first | rfl | exact hf
  have hgd : ((h.push { cls := .type "dict", data := .dict #[] }).update x fun o => { cls := o.cls, dict := some h.objs.size, data := o.data, slots := o.slots }).get? h.objs.size
      = some { cls := .type "dict", data := .dict #[] } :=
    (Heap.get?_update_ne _ _ _ _ hxs.symm).trans (Heap.get?_push_at rfl rfl)
  have hnd : ((h.push { cls := .type "dict", data := .dict #[] }).update x fun o => { cls := o.cls, dict := some h.objs.size, data := o.data, slots := o.slots }).Ns h.objs.size (fun _ => none) :=
    ⟨_, #[], _, hgd, rfl, fun e he => absurd he (by simp), fun _ => rfl⟩
  show wpAny _ _ (storeInDict h.objs.size (.str name tk) name v) _ _ _
  unfold storeInDict newKeyGuard
  refine wpAny_bind (wpAny_pure (wpAny_bind (wpAny_nsSet1 (Heap.Ns1.of_empty hnd) fun h' hn' hs => ?_)))
  obtain ⟨oD, esD, epD, hoD, hdD, hcD⟩ := hn'.count (Within.cons name v Within.nil)
  refine wpAny_bind (wpAny_lookBehind hoD (by rw [hdD]; exact pastItsLine_dict (Nat.le_trans hcD (by rw [List.length_cons, List.length_nil, sizeLine_eq]; omega))) ?_)
  wp_walk
  have K₁ : Keep [] [x] h ((h.push { cls := .type "dict", data := .dict #[] }).update x fun o => { cls := o.cls, dict := some h.objs.size, data := o.data, slots := o.slots }) :=
    (Keep.of_push _).trans (Keep.of_update hx₁ hfr) (fun _ _ _ m => m.elim id id) fun _ _ _ m => m.elim (fun q => q) id
  refine hq h' h.objs.size _ hd0 (fun b ob hb => ?_) ((hs.2 x hxs).trans (Heap.get?_update_self _ hx₁ hfr)) hn'
  obtain ⟨o', e', k'⟩ := K₁ b ob hb
  exact ⟨o', (hs.2 b (Nat.ne_of_lt (Heap.lt_size hb))).trans e', k'⟩

set_option maxHeartbeats 1000000 in
theorem set_attr0 {nm sa owner : String} {ad : Addr} {t1 t2 : Tok} {mN : Str → Option Value} {o : Obj} {Q : Unit → Shared → Prop} (SF : StoreFacts "Exception" excMro sa owner) (hC : h.get? C = some (clsObj nm C N ad t1 t2)) (hN : h.Ns N mN) (hna : mN name = none) (hns : mN "__setattr__" = none)
    (hB : typeLookup (.type "Exception") name = pure none) (hx : h.get? x = some o) (hc : o.cls = .ref C) (hdn : o.dict = none) (hnc : ∀ c, o.data ≠ .cls c)
    (hq : ∀ h' d' tk', h.get? d' = none → Keep [] [x] h h' → h'.get? x = some { o with dict := some d' } → h'.Ns1 d' (fun y => if y = name then some v else none) → Q () ⟨h', g, d, tk', os⟩) :
    wpAny (model prog w) A (setAttr (.ref x) name v) Q E ⟨h, g, d, t, os⟩ := by
  have f3 := SF.slot.bind (.ref x)
  unfold setAttr callSpecial? specialOf
  repeat (any_goals (first | assumption | (with_reducible refine wpAny_loadPart_at hx ?_; rw [hc]) | (with_reducible refine wpAny_typeLookup_exc hC hN SF.mro SF.slot.lookup ?_; rw [hns]) | wp_step))
  refine codeAny_call_builtin SF.slot.plain SF.entry (wpAny_check_sa SF hC hx hc (set_entry0 hC hN hna hB hx hc hdn hnc fun h' d' tk' a1 a2 a3 a4 => ?_))
  repeat (any_goals (first | assumption | wp_step))
  exact hq h' d' tk' a1 a2 a3 a4

/-- the first attribute of an exception: its dict is made -/
theorem set_exc0 {o : Obj} {Q : Unit → Shared → Prop} (K : ExcCls h C N fI) (hn : name ∈ (["code", "text"] : List Str)) (hx : h.get? x = some o) (hc : o.cls = .ref C) (hdn : o.dict = none) (hnc : ∀ c, o.data ≠ .cls c)
    (hq : ∀ h' d' tk', h.get? d' = none → Keep [] [x] h h' → h'.get? x = some { o with dict := some d' } → h'.Ns1 d' (fun y => if y = name then some v else none) → Q () ⟨h', g, d, tk', os⟩) :
    wpAny (model prog w) A (setAttr (.ref x) name v) Q E ⟨h, g, d, t, os⟩ := by
  obtain ⟨⟨nm, ad, t1, t2, hC⟩, ⟨mN, hN, -, hno⟩, -⟩ := K
  have hna : mN name = none := hno name (by simp only [List.mem_cons, List.not_mem_nil, or_false] at hn ⊢; rcases hn with rfl | rfl <;> simp)
  exact set_attr0 PySem.F.store_Exception hC hN hna (hno _ (by simp)) (exc_none name hn) hx hc hdn hnc hq

/-- a further attribute -/
theorem set_exc1 {o : Obj} {D : Addr} {ns : List Str} {Q : Unit → Shared → Prop} (K : ExcCls h C N fI) (hn : name ∈ (["code", "text"] : List Str)) (hx : h.get? x = some o) (hc : o.cls = .ref C) (hdi : o.dict = some D) (hnc : ∀ c, o.data ≠ .cls c) (hxC : x ≠ C) (hD : D ≠ x)
    (hns : h.Ns1 D mA) (hw : Within mA ns) (hsz : ns.length ≤ sizeLine)
    (hq : ∀ h' tk', Keep [] [D] h h' → h'.Ns1 D (fun y => if y = name then some v else mA y) → Q () ⟨h', g, d, tk', os⟩) :
    wpAny (model prog w) A (setAttr (.ref x) name v) Q E ⟨h, g, d, t, os⟩ := by
  obtain ⟨⟨nm, ad, t1, t2, hC⟩, ⟨mN, hN, -, hno⟩, -⟩ := K
  have SF := PySem.F.store_Exception
  have hB := exc_none name hn
  have hna : mN name = none := hno name (by simp only [List.mem_cons, List.not_mem_nil, or_false] at hn ⊢; rcases hn with rfl | rfl <;> simp)
  have hnsa : mN "__setattr__" = none := hno _ (by simp)
  refine store_attr SF hC hN hnsa hna hB hxC ⟨o, hx, hc, hnc, .inr ⟨D, hdi, hD, hns⟩⟩ (fun h' tk' I' hk hsame => ?_) hw hsz
  obtain ⟨o₁, hx₁, c1, c2, c3, c4⟩ := hsame o hx
  have e₁ : o₁ = o := by
    have := c4 D hdi
    obtain ⟨q1, q2, q3, q4⟩ := o₁
    obtain ⟨p1, p2, p3, p4⟩ := o
    simp_all
  subst e₁
  obtain ⟨o', hx', -, -, k⟩ := I'
  rw [hx₁] at hx'; cases hx'
  rcases k with ⟨k, -⟩ | ⟨D', k, -, n'⟩
  · rw [hdi] at k; cases k
  · rw [hdi] at k; cases k
    refine hq h' tk' (fun b ob hb => ?_) n'
    by_cases hbx : b = x
    · subst hbx
      rw [hx] at hb; cases hb
      exact ⟨_, hx₁, fun _ => ⟨fun _ => rfl, _, rfl⟩⟩
    · by_cases hbD : b = D
      · subst hbD
        obtain ⟨o2, _, _, e2, _⟩ := n'
        exact ⟨o2, e2, fun nc => absurd (List.mem_singleton.mpr rfl) nc⟩
      · exact ⟨ob, hk b ob hbx (fun o₀ dx q1 q2 => by rw [hx] at q1; cases q1; rw [hdi] at q2; cases q2; exact hbD) hb, fun _ => ⟨fun _ => rfl, _, rfl⟩⟩
end
end Mine
end

section
open PySem PySem.W PySem.Calls PyProof.Rows PySem.Spec
namespace Mine

theorem look_excInit {w : World} : findCls (hd.heap_39 w.params) (.type "Exception") (.type "type") (Str.ofString "__init__") = some (.val (.builtin "Exception.__init__")) := by k_is

section
variable {prog : Program} {w : World} {A : Around} {E : Value → Shared → Prop} {s : Shared}
theorem excInit_method {pl : Sem Bool} {Q : Value × List Value → Shared → Prop} (X : (hd.heap_39 w.params).In s.heap) (h : Q (.builtin "Exception.__init__", []) { s with toks := s.toks + 1 }) :
    wpAny (model prog w) A (getMethod (.type "Exception") (Str.ofString "__init__") pl) Q E s := by
  have hstub : opaqueClassAbove (.type "Exception") = pure none := by unfold opaqueClassAbove; dsimp only; rw [show Manifest.isStub "Exception" = false by decide +kernel]; rfl
  have ht : typeOf (.type "Exception") = pure (.type "type") := by first | rfl | kernel_rfl
  have L0 : Looks (model prog w) s.heap (typeOf (.type "Exception")) (.type "type") := Looks.of_pure ht
  have hg : findIn (hd.heap_39 w.params) (.type "type") "__getattribute__" = some (some (.builtin "type.__getattribute__")) := type_tga
  unfold getMethod specialOf
  refine wpAny_bind (wpAny_bind (L0.here ((looks_findIn X hg).here ?_)))
  dsimp only
  rw [if_pos canon_tga]
  refine wpAny_bind (wpAny_mono (Q := fun v => Q (v, [])) (E := E) ?_ (fun _ _ z => wpAny_pure z) fun _ _ z => z)
  have LO : Looks (model prog w) s.heap (opaqueClassAbove (.type "Exception")) none := Looks.of_pure hstub
  refine cls_open X LO L0 hg (looks_hook X (r := none) (by rfl)) (by show subIn _ _ _ = _; rfl) look_excInit ?_
  exact wpAny_pure (handed_on (by decide +kernel) h)

/-- Exception.__init__(self, x) -/
theorem excInit_call {h₀ : Heap} {L e C N fI : Addr} {m : Str → Option Value} {t : Addr} {v : Value} {Q : Value → Shared → Prop} (K : ExcCls s.heap C N fI) (F : Fr h₀ L s.heap m)
    (Ns : News h₀ L s.heap [(e, ⟨.ref C, none, .fields #[.ref t, .none, .none, .none, .bool false, .none], #[]⟩)])
    (h : ∀ h' t', Fr h₀ L h' m → News h₀ L h' [(e, ⟨.ref C, none, .fields #[.ref t', .none, .none, .none, .bool false, .none], #[]⟩)] → Keep [] [e] s.heap h' → Q .none { s with heap := h' }) :
    wpAny (model prog w) A (call (.builtin "Exception.__init__") [.ref e, v]) Q E s := by
  obtain ⟨⟨nm, ad, t1, t2, hC⟩, -, -⟩ := K
  have FB := PySem.F.excBase_Exception
  obtain ⟨hp, g, d, tk, os⟩ := s
  dsimp only at F Ns hC
  have he := (Ns _ (.head _)).1
  refine wpAny_call (codeAny_call_builtin FB.init.plain FB.initEntry (wpAny_check_init_sub FB hC he rfl ?_))
  have F₁ := F.push { cls := .type "tuple", data := .seq [v].toArray }
  have N₁ := Ns.push F { cls := .type "tuple", data := .seq [v].toArray }
  have he₁ := (N₁ _ (.tail _ (.head _))).1
  unfold Builtin.«BaseException.__init__»
  wp_walk
  have nee : hp.objs.size ≠ e := Nat.ne_of_gt (Heap.lt_size he)
  obtain ⟨U1, U2⟩ := news_upd (pre := [(hp.objs.size, { cls := .type "tuple", data := .seq [v].toArray })]) (post := []) (f := Obj.mapFields fun x => x.setIfInBounds 0 (Value.ref hp.objs.size)) F₁ N₁
    (fun p hp' => by rw [List.mem_singleton.mp hp']; exact nee) (fun p hp' => nomatch hp') rfl rfl
  exact h _ hp.objs.size U1 (fun p hp' => U2 p (List.mem_append_right _ hp')) (((Keep.of_push _).trans (Keep.of_update he₁ rfl) (fun _ _ _ m => m.elim id id) fun _ _ _ m => m.elim (fun q => q) id))
end
theorem fr_keep {g h h' : Heap} {L : Addr} {m : Str → Option Value} {ch : List Addr} (F : Fr g L h m) (K : Keep [] ch h h') (hL : L ∉ ch) (hg : ∀ b o, g.get? b = some o → b ∉ ch) : Fr g L h' m :=
  ⟨K.ns F.ns hL, fun b o e => K.get (F.keep b o e) (fun q => nomatch q) (hg b o e), F.above⟩
theorem not_ground {g h : Heap} {L e : Addr} {o : Obj} {news : List (Addr × Obj)} (N : News g L h ((e, o) :: news)) : ∀ b o', g.get? b = some o' → b ∉ [e] := fun b o' q m => by
  rw [List.mem_singleton.mp m] at q
  rw [(N _ (.head _)).2.2] at q
  cases q
theorem not_frame {g h : Heap} {L e : Addr} {o : Obj} {news : List (Addr × Obj)} (N : News g L h ((e, o) :: news)) : L ∉ [e] := fun m => (N _ (.head _)).2.1 (List.mem_singleton.mp m).symm

theorem keep_fr {g h h' : Heap} {L : Addr} {m : Str → Option Value} {fs ch : List Addr} (hg : ∀ b o, h.get? b = some o → b ∉ ch → g.get? b = some o) (F : Fr g L h' m) (hch : ∀ b ∈ ch, ∃ o, h'.get? b = some o) : Keep fs ch h h' := fun b o e => by
  by_cases q : b ∈ ch
  · obtain ⟨o', e'⟩ := hch b q
    exact ⟨o', e', fun nc => absurd q nc⟩
  · exact ⟨o, F.keep b o (hg b o e q), fun _ => ⟨fun _ => rfl, o.slots, rfl⟩⟩

set_option maxHeartbeats 4000000 in
theorem short_init {w : World} {base : Heap} {mean : ExcName → Option Value} {mg mb : Str → Option Value} {A : Around} {l : List Env} {n : Nat} {s : Shared} {R : Result → Shared → Prop}
    {e tt : Addr} {x : Str} {t : Tok}
    (C : Cx w base mean mg mb A l (n + 1) s.heap) (he : Own base l s.heap [(e, ⟨.ref 51, none, .fields #[.ref tt, .none, .none, .none, .bool false, .none], #[]⟩)])
    (hret : ∀ h' tk' mA, Keep [] [e] s.heap h' → Fresh h' e 51 mA → R (.ok (.ret .none)) { s with heap := h', toks := tk' }) :
    codeAny (model PG w) A (.call (.ref 48) ⟨[.ref e, .str x t], []⟩) R s := by
  refine enter C he (by k_is) (by k_is) (binds := [(Str.ofString "self", Value.ref e), (Str.ofString "text", Value.str x t)]) (BindsTo.of_eq rfl) (locs rfl) (fun g L h₁ hg hg' hsz hL F N B X T => ?_) (by decide)
  k_steps
  refine excInit_method (X.keeps F.keep) ?_
  k_steps
  refine excInit_call (short_cls (X.keeps F.keep)) F N (fun h' t' F' N' K' => ?_)
  k_steps
  refine set_exc0 (short_cls (X.keeps F'.keep)) (by simp) (N' _ (.head _)).1 rfl rfl (fun c q => nomatch q) (fun h'' d' tk' a1 a2 a3 a4 => ?_)
  have F'' := fr_keep F' a2 (not_frame N') (not_ground N')
  k_steps
  exact hret _ _ _ (keep_fr hg F'' fun b hb => by rw [List.mem_singleton.mp hb]; exact ⟨_, a3⟩) ⟨_, _, d', a3, rfl, rfl, rfl, rfl, ⟨by simp, fun _ => rfl⟩, a4⟩

set_option maxHeartbeats 4000000 in
theorem h3_init {w : World} {base : Heap} {mean : ExcName → Option Value} {mg mb : Str → Option Value} {A : Around} {l : List Env} {n : Nat} {s : Shared} {R : Result → Shared → Prop}
    {e tt : Addr} {c : Int} {x : Str} {t tc : Tok}
    (C : Cx w base mean mg mb A l (n + 1) s.heap) (he : Own base l s.heap [(e, ⟨.ref 31, none, .fields #[.ref tt, .none, .none, .none, .bool false, .none], #[]⟩)])
    (hc : 0 ≤ c) (hc2 : c < 1000) (hx : x.length ≤ 1000)
    (hret : ∀ h' tk' mA, Keep [] [e] s.heap h' → Fresh h' e 31 mA → mA (Str.ofString "code") = some (.int c tc) → R (.ok (.ret .none)) { s with heap := h', toks := tk' }) :
    codeAny (model PG w) A (.call (.ref 28) ⟨[.ref e, .int c tc, .str x t], []⟩) R s := by
  refine enter C he (by k_is) (by k_is) (binds := [(Str.ofString "self", Value.ref e), (Str.ofString "code", Value.int c tc), (Str.ofString "text", Value.str x t)]) (BindsTo.of_eq rfl) (locs rfl) (fun g L h₁ hg hg' hsz hL F N B X T => ?_) (by decide)
  k_steps
  refine excInit_method (X.keeps F.keep) ?_
  k_steps
  refine excInit_call (h3_cls (X.keeps F.keep)) F N (fun h' t' F' N' K' => ?_)
  k_steps
  refine set_exc0 (h3_cls (X.keeps F'.keep)) (by simp) (N' _ (.head _)).1 rfl rfl (fun c q => nomatch q) (fun h'' d' tk' a1 a2 a3 a4 => ?_)
  have F'' := fr_keep F' a2 (not_frame N') (not_ground N')
  k_steps
  have gd : ∀ b o, g.get? b = some o → b ∉ [d'] := fun b o q m => by
    rw [List.mem_singleton.mp m] at q
    rw [F'.keep _ _ q] at a1; cases a1
  have ld : L ∉ [d'] := fun m => by
    obtain ⟨oL, _, _, eL, _⟩ := F'.ns
    rw [← List.mem_singleton.mp m, eL] at a1; cases a1
  have e31 : e ≠ 31 := fun q => by
    have := (N' _ (.head _)).2.2
    rw [q] at this
    obtain ⟨⟨_, _, _, _, hC⟩, _, _⟩ := h3_cls X
    rw [hC] at this; cases this
  refine set_exc1 (h3_cls (X.keeps F''.keep)) (by simp) a3 rfl rfl (fun c q => nomatch q) e31 (fun q => by rw [q, (N' _ (.head _)).1] at a1; cases a1) a4 (Within.cons _ _ Within.nil) (by decide) (fun h3 tk3 b2 b4 => ?_)
  have F3 := fr_keep F'' b2 ld gd
  k_steps
  have e3 := b2.get a3 (fun q => nomatch q) (fun m => by rw [← List.mem_singleton.mp m, (N' _ (.head _)).1] at a1; cases a1)
  exact hret _ _ _ (keep_fr hg F3 fun b hb => by rw [List.mem_singleton.mp hb]; exact ⟨_, e3⟩) ⟨_, _, d', e3, rfl, rfl, rfl, rfl, ⟨by simp, fun _ => rfl⟩, b4⟩ (by simp; decide)
end Mine
end

section
open PySem PySem.W PySem.Calls PyProof.Rows PySem.Spec
namespace Mine

section
variable {w : World} {base : Heap} {mean : ExcName → Option Value} {mg mb : Str → Option Value} {A : Around} {l : List Env} {n : Nat} {s : Shared} {E : Value → Shared → Prop}

theorem Cx.under_make (C : Cx w base mean mg mb A l (n + 1) s.heap) {h' : Heap} (k : ∀ b o, s.heap.get? b = some o → h'.get? b = some o) {c : Addr} {vals : List Value} :
    Cx w base mean mg mb (A.under (.builtin "type.__call__" ⟨.ref c :: vals, []⟩)) l n h' where
  below := ⟨(show (A.under (.builtin "type.__call__" ⟨.ref c :: vals, []⟩)).frames = A.frames by
      simp only [Around.under, show Code.envs (.builtin "type.__call__" ⟨.ref c :: vals, []⟩) = [] from rfl, pushEnvs]).trans C.below.stack, fun b o e => k b o (C.below.stays b o e), C.below.frames.of_keeps fun b o e _ => ⟨o, k b o e, rfl⟩⟩
  kin := C.kin
  top := C.top
  room := by have := C.room; rw [depth_under_make]; omega
  units := by have := C.units; rw [units_under_make]; omega

theorem own_new {h h' : Heap} {e c : Addr} {v : Value} {rest : List Value} {base : Heap} {l : List Env} {t : Addr} (hm : Heap.MadeExcOf h h' e (.ref c) rest) (hb : base.StaysIn h) (hf : h.FunFrames base l)
    (he : h'.get? e = some ⟨.ref c, none, .fields #[.ref t, .none, .none, .none, .bool false, .none], #[]⟩) :
    Own base l h' [(e, ⟨.ref c, none, .fields #[.ref t, .none, .none, .none, .bool false, .none], #[]⟩)] := fun p hp => by
  rw [List.mem_singleton.mp hp]
  refine ⟨he, ?_, fun m => ?_⟩
  · cases q : base.get? e with
    | none => rfl
    | some o => have := hb e o q; rw [hm.new] at this; cases this
  · obtain ⟨_, o, ho, _⟩ := hf.mem m
    rw [hm.new] at ho; cases ho

theorem short_new {x : Str} {t : Tok} {Q : Value → Shared → Prop} (C : Cx w base mean mg mb A l (n + 2) s.heap)
    (hret : ∀ e h' tk' mA, s.heap.get? e = none → Keep [] [] s.heap h' → Fresh h' e 51 mA → Q (.ref e) { s with heap := h', toks := tk' }) :
    wpAny (model PG w) A (call (.ref 51) [.str x t]) Q E s := by
  obtain ⟨⟨nm, ad, t1, t2, hC⟩, ⟨mN, hN, hi, -⟩, ⟨oI, hfI, hfc⟩⟩ := short_cls (C.kin.keeps C.below.stays)
  obtain ⟨h, g, d, tk, os⟩ := s
  refine wpAny_call_exc_init PySem.F.excBase_Exception hC hN hi hfI hfc fun h' e hm => wpAny_call ?_
  obtain ⟨t0, he, -, -⟩ := hm.there
  refine short_init (s := ⟨h', g, d, tk, os⟩) (n := n) (C.under_make hm.keeps) (own_new (v := .none) hm C.below.stays C.below.frames he) fun h2 tk2 mA K Fx => ⟨rfl, ?_⟩
  refine hret e h2 tk2 mA hm.new ((Keep.of_all (fs := []) (ch := []) hm.keeps).trans K (fun _ _ _ m => m.elim id id) fun b o q m => m.elim id fun z => ?_) Fx
  rw [List.mem_singleton.mp z, hm.new] at q; cases q

theorem h3_new {c : Int} {x : Str} {t tc : Tok} {Q : Value → Shared → Prop} (C : Cx w base mean mg mb A l (n + 2) s.heap) (hc : 0 ≤ c) (hc2 : c < 1000) (hx : x.length ≤ 1000)
    (hret : ∀ e h' tk' mA, s.heap.get? e = none → Keep [] [] s.heap h' → Fresh h' e 31 mA → mA (Str.ofString "code") = some (.int c tc) → Q (.ref e) { s with heap := h', toks := tk' }) :
    wpAny (model PG w) A (call (.ref 31) [.int c tc, .str x t]) Q E s := by
  obtain ⟨⟨nm, ad, t1, t2, hC⟩, ⟨mN, hN, hi, -⟩, ⟨oI, hfI, hfc⟩⟩ := h3_cls (C.kin.keeps C.below.stays)
  obtain ⟨h, g, d, tk, os⟩ := s
  refine wpAny_call_exc_init PySem.F.excBase_Exception hC hN hi hfI hfc fun h' e hm => wpAny_call ?_
  obtain ⟨t0, he, -, -⟩ := hm.there
  refine h3_init (s := ⟨h', g, d, tk, os⟩) (n := n) (C.under_make hm.keeps) (own_new (v := .none) hm C.below.stays C.below.frames he) hc hc2 hx fun h2 tk2 mA K Fx hA => ⟨rfl, ?_⟩
  refine hret e h2 tk2 mA hm.new ((Keep.of_all (fs := []) (ch := []) hm.keeps).trans K (fun _ _ _ m => m.elim id id) fun b o q m => m.elim id fun z => ?_) Fx hA
  rw [List.mem_singleton.mp z, hm.new] at q; cases q
end

/-- what an exception is, seen from the heap `h₀` that it was raised from -/
def Raised (fs ch : List Addr) (h₀ h : Heap) (e C : Addr) (mA : Str → Option Value) : Prop :=
  Keep fs ch h₀ h ∧ h₀.get? e = none ∧ (Fresh h e C mA ∨ ∃ T, h₀.get? T = none ∧ Fly h e C T mA .none)

section
variable {M : Model} {A : Around} {E : Value → Shared → Prop} {s : Shared} {base h₀ : Heap} {env : Env} {outer : List Env} {fs ch : List Addr} {L e C T : Addr} {mA : Str → Option Value} {fl : Value} {Q : Unit → Shared → Prop}

theorem noted (hfr : A.frames = some (env :: outer)) (hl : s.heap.FunFrames base (env :: outer)) (hf : env.frame = some L) (X : Raised (adrs (env :: outer)) ch h₀ s.heap e C mA)
    (h : ∀ h' T, Keep (adrs (env :: outer)) ch h₀ h' → h₀.get? T = none → Fly h' e C T mA (rawInt L) → h'.FunFrames base (env :: outer) → Keep (adrs (env :: outer)) [] h₀ h' ∨ True → Q () { s with heap := h' }) :
    wpAny M A (noteFrame (.ref e) env) Q E s := by
  obtain ⟨K, hn, X | ⟨T, hT, X⟩⟩ := X
  · refine note_first hfr hl hf X fun h' T' K' n' F' => h h' T' (K.trans K' (fun _ _ _ m => m.elim id id) fun b o q m => m.elim id fun z => ?_) (K.old n') F' (K'.frames hl fun b hb m => ?_) (.inr trivial)
    · rw [List.mem_singleton.mp z, hn] at q; cases q
    · obtain ⟨oe, vs, _, he, _, _, hd, _⟩ := X
      rw [List.mem_singleton.mp m] at hb
      exact frame_notFields hl he hd hb
  · refine note_next hfr hl hf X fun h' T' K' n' F' => h h' T' (K.trans K' (fun _ _ _ m => m.elim id id) fun b o q m => m.elim id fun z => ?_) (K.old n') F' (K'.frames hl fun b hb m => ?_) (.inr trivial)
    · rcases List.mem_cons.mp z with z | z
      · rw [z, hn] at q; cases q
      · rw [List.mem_singleton.mp z, hT] at q; cases q
    · obtain ⟨⟨oe, vs, _, he, _, _, hd, _⟩, ⟨oT, ts, hT', hdT, _⟩, _⟩ := X
      rcases List.mem_cons.mp m with z | z
      · rw [z] at hb; exact frame_notFields hl he hd hb
      · rw [List.mem_singleton.mp z] at hb; exact frame_notFields hl hT' hdT hb

/-- an exception leaves a frame -/
theorem leaves (hfr : A.frames = some (env :: outer)) (hl : s.heap.FunFrames base (env :: outer)) (hf : env.frame = some L) (hL : h₀.get? L = none) (X : Raised (adrs (env :: outer)) ch h₀ s.heap e C mA)
    (h : ∀ h', Raised (adrs outer) ch h₀ h' e C mA → Q () { s with heap := h' }) :
    wpAny M A (leaving env (.ref e)) Q E s := by
  unfold leaving
  have hn := X.2.1
  refine wpAny_bind (noted hfr hl hf X fun h₁ T K₁ nT F₁ L₁ _ => ?_)
  refine flight F₁ fun h₂ K₂ F₂ => h h₂ ⟨K₁.trans K₂ (fun b o q m => m.elim (fun z => ?_) fun z => nomatch z) (fun b o q m => m.elim id fun z => ?_), hn, .inr ⟨T, nT, F₂⟩⟩
  · have z' : b ∈ (env :: outer).filterMap (·.frame) := z
    rw [List.filterMap_cons, hf] at z'
    rcases List.mem_cons.mp z' with z' | z'
    · rw [z', hL] at q; cases q
    · exact z'
  · rw [List.mem_singleton.mp z, nT] at q; cases q
end
end Mine
end

section
open PySem PySem.W PySem.Calls PyProof.Rows PySem.Spec
namespace Mine

section
variable {M : Model} {A : Around} {E : Value → Shared → Prop} {s : Shared} {env : Env}
theorem raise_made {x : Sem Value} {Q : Flow → Shared → Prop} (hh : A.handled = none)
    (h : wpAny M A x (fun v s₁ => ∃ e C N fI mA, v = .ref e ∧ ExcCls s₁.heap C N fI ∧ Fresh s₁.heap e C mA ∧ E (.ref e) s₁) E s) :
    wpAny M A (raiseStmt env (some x) none) Q E s := by
  unfold raiseStmt
  refine wpAny_bind (wpAny_mono h (fun v s₁ h₁ => ?_) fun _ _ x => x)
  obtain ⟨e, C, N, fI, mA, rfl, ⟨⟨nm, ad, t1, t2, hC⟩, -, -⟩, ⟨⟨c0, d0, dt0, sl0⟩, vs, d, he, hc, hdi, hd, h1, -, -⟩, hE⟩ := h₁
  dsimp only at hc hdi hd
  subst hc hdi hd
  obtain ⟨hp, g, dr, tk, os⟩ := s₁
  dsimp only at hC he
  have hcB : (Value.ref C :: excMro).contains (.type "BaseException") = true := by simp
  have hfl : ∀ {Q : Unit → Shared → Prop}, Q () ⟨hp, g, dr, tk, os⟩ → wpAny M A (setFlight (.ref e) none) Q E ⟨hp, g, dr, tk, os⟩ := fun q => by
    unfold setFlight
    refine wpAny_bind (wpAny_field he rfl h1 ?_)
    rw [if_neg (by decide)]
    exact wpAny_pure q
  repeat (first | with_reducible refine hfl ?_ | with_reducible refine wpAny_loadPart_at he ?_ | with_reducible refine wpAny_loadPart_at hC ?_ | (with_reducible refine wpAny_isSubtype_exc hC ?_; rw [hcB]) | wp_step)
  exact wpAny_raiseNew_none hh hE

theorem entry_unchain : entryFor table "proto.unchain" = some Builtin.«proto.unchain» := entryFor_of_tree (by kernel_rfl)

theorem raiseNew_in {prog : Program} {w : World} {e e0 : Addr} {mA mA0 : Str → Option Value} {T0 : Addr} {fl : Value} {Q : Flow → Shared → Prop} (hh : A.handled = some (.ref e0)) (X : Fresh s.heap e 31 mA) (X0 : Fly s.heap e0 51 T0 mA0 fl) (hne : e0 ≠ e)
    (h : ∀ h', Keep [] [e] s.heap h' → Fresh h' e 31 mA → E (.ref e) { s with heap := h' }) : wpAny (model prog w) A (raiseNew (.ref e)) Q E s := by
  obtain ⟨oe, vs, d, he, hc, hdi, hd, h1, hw, hns⟩ := X
  obtain ⟨⟨oe0, vs0, d0, he0, -, -, hd0, -, hw0, -⟩, -, -⟩ := X0
  unfold raiseNew
  refine wpAny_bind (wpAny_handled ?_)
  rw [hh]
  dsimp only
  rw [if_pos (by simp [hne])]
  refine wpAny_bind (wpAny_holding (wpAny_runValue (codeAny_builtin entry_unchain ?_)))
  unfold Builtin.«proto.unchain»
  refine wpAny_bind (wpAny_field he0 hd0 (hw0.2 rfl) ?_)
  rw [if_pos (by decide)]
  refine wpAny_bind (wpAny_pure (wpAny_pure ?_))
  have hsz := hw.1
  have hd₃ := Obj.data_mapFields hd (·.setIfInBounds 2 (Value.ref e0))
  refine wpAny_bind (m := setField (.ref e) 2 (.ref e0)) (wpAny_setField (i := 2) (x := .ref e0) he hd (by omega) (wpAny_throw (h _ (Keep.of_update he (Obj.isFreed_of_fields hd₃)) ⟨_, _, d, Heap.get?_update_self _ he (Obj.isFreed_of_fields hd₃), by rw [Obj.cls_mapFields]; exact hc, ?_, hd₃, ?_, ⟨by simpa using hsz, fun q => by cases q⟩, ?_⟩)))
  · obtain ⟨c0, d0, dt0, sl0⟩ := oe
    cases dt0 <;> first | exact hdi | cases hd
  · rw [Array.getElem?_setIfInBounds_ne (by decide)]; exact h1
  · exact (Keep.of_update (fs := []) he (Obj.isFreed_of_fields hd₃)).ns1 hns fun m => ns1_ne hns he hd (List.mem_singleton.mp m)

theorem raise_in {prog : Program} {w : World} {x : Sem Value} {e0 : Addr} {Q : Flow → Shared → Prop} (hh : A.handled = some (.ref e0))
    (h : wpAny (model prog w) A x (fun v s₁ => ∃ e N fI mA mA0 T0 fl, v = .ref e ∧ ExcCls s₁.heap 31 N fI ∧ Fresh s₁.heap e 31 mA ∧ Fly s₁.heap e0 51 T0 mA0 fl ∧ e0 ≠ e ∧ ∀ h', Keep [] [e] s₁.heap h' → Fresh h' e 31 mA → E (.ref e) { s₁ with heap := h' }) E s) :
    wpAny (model prog w) A (raiseStmt env (some x) none) Q E s := by
  unfold raiseStmt
  refine wpAny_bind (wpAny_mono h (fun v s₁ h₁ => ?_) fun _ _ x => x)
  obtain ⟨e, N, fI, mA, mA0, T0, fl, rfl, ⟨⟨nm, ad, t1, t2, hC⟩, -, -⟩, X, X0, hne, hE⟩ := h₁
  have X' := X
  obtain ⟨⟨c0, d0, dt0, sl0⟩, vs, d, he, hc, hdi, hd, h1, -, -⟩ := X
  dsimp only at hc hdi hd
  subst hc hdi hd
  obtain ⟨hp, g, dr, tk, os⟩ := s₁
  dsimp only at hC he
  have hcB : (Value.ref 31 :: excMro).contains (.type "BaseException") = true := by simp
  have hfl : ∀ {Q : Unit → Shared → Prop}, Q () ⟨hp, g, dr, tk, os⟩ → wpAny (model prog w) A (setFlight (.ref e) none) Q E ⟨hp, g, dr, tk, os⟩ := fun q => by
    unfold setFlight
    refine wpAny_bind (wpAny_field he rfl h1 ?_)
    rw [if_neg (by decide)]
    exact wpAny_pure q
  repeat (first | with_reducible refine hfl ?_ | with_reducible refine wpAny_loadPart_at he ?_ | with_reducible refine wpAny_loadPart_at hC ?_ | (with_reducible refine wpAny_isSubtype_exc hC ?_; rw [hcB]) | wp_step)
  exact raiseNew_in hh X' X0 hne hE

theorem Raise_made {x : Expr} {pos : Pos} {Q : Flow → Shared → Prop} (hh : A.handled = none)
    (h : wpAny M A (eval x env) (fun v s₁ => ∃ e C N fI mA, v = .ref e ∧ ExcCls s₁.heap C N fI ∧ Fresh s₁.heap e C mA ∧ E (.ref e) s₁) E s) :
    wpAny M A (exec (.Raise (some x) none pos) env) Q E s := by
  rw [arm_exec_Raise]
  exact wpAny_bind (wpAny_standAt (raise_made hh (wpAny_bind (wpAny_mono h (fun v s₁ h₁ => wpAny_bind (wpAny_standAt (wpAny_pure h₁))) fun _ _ x => x))))
theorem Raise_in {prog : Program} {w : World} {x : Expr} {pos : Pos} {e0 : Addr} {Q : Flow → Shared → Prop} (hh : A.handled = some (.ref e0))
    (h : wpAny (model prog w) A (eval x env) (fun v s₁ => ∃ e N fI mA mA0 T0 fl, v = .ref e ∧ ExcCls s₁.heap 31 N fI ∧ Fresh s₁.heap e 31 mA ∧ Fly s₁.heap e0 51 T0 mA0 fl ∧ e0 ≠ e ∧ ∀ h', Keep [] [e] s₁.heap h' → Fresh h' e 31 mA → E (.ref e) { s₁ with heap := h' }) E s) :
    wpAny (model prog w) A (exec (.Raise (some x) none pos) env) Q E s := by
  rw [arm_exec_Raise]
  exact wpAny_bind (wpAny_standAt (raise_in hh (wpAny_bind (wpAny_mono h (fun v s₁ h₁ => wpAny_bind (wpAny_standAt (wpAny_pure h₁))) fun _ _ x => x))))
end
end Mine
end

section
open PySem PySem.W PySem.Calls PyProof.Rows PySem.Spec
namespace Mine

/-- the walk stops here -/
def Halt (P : Prop) : Prop := P
theorem Halt.mk {P : Prop} (h : Halt P) : P := h

/-- the ground `g` holds what stood in `h`, but for `ch`; the frames `fs` may have other slots -/
def Gro (fs ch : List Addr) (h g : Heap) : Prop :=
  ∀ b o, h.get? b = some o → b ∉ ch → (b ∉ fs → g.get? b = some o) ∧ ∃ sl, g.get? b = some { o with slots := sl }
theorem Gro.of_all {fs ch : List Addr} {h g : Heap} (x : ∀ b o, h.get? b = some o → b ∉ ch → g.get? b = some o) : Gro fs ch h g := fun b o e nc => ⟨fun _ => x b o e nc, o.slots, x b o e nc⟩
theorem Gro.turn {fs ch : List Addr} {h g g' : Heap} (x : Gro fs ch h g) (T : KtsTurn fs g g') : Gro fs ch h g' := fun b o e nc => by
  obtain ⟨a, sl, q⟩ := x b o e nc
  obtain ⟨sl', q'⟩ := T.up q
  exact ⟨fun nf => T.other b o (a nf) nf, sl', q'⟩
theorem Gro.keep {fs ch : List Addr} {h g h' : Heap} {L : Addr} {m : Str → Option Value} (x : Gro fs ch h g) (F : Fr g L h' m) (hch : ∀ b ∈ ch, ∃ o, h'.get? b = some o) : Keep fs ch h h' := fun b o e => by
  by_cases q : b ∈ ch
  · obtain ⟨o', e'⟩ := hch b q
    exact ⟨o', e', fun nc => absurd q nc⟩
  · obtain ⟨a, sl, q'⟩ := x b o e q
    refine ⟨_, F.keep _ _ q', fun _ => ⟨fun nf => ?_, sl, rfl⟩⟩
    have := a nf
    rw [q'] at this
    exact Option.some.inj this

section
variable {w : World} {A : Around} {base g h h' : Heap} {env : Env} {outer : List Env} {L : Addr} {m : Str → Option Value} {news : List (Addr × Obj)} {ch : List Addr} {mean : ExcName → Option Value} {mg mb : Str → Option Value}
theorem fr_none (F : Fr g L h m) : g.get? L = none := by
  cases q : g.get? L with
  | none => rfl
  | some o => exact absurd (Nat.lt_of_lt_of_le (Heap.lt_size q) F.above) (Nat.lt_irrefl _)
/-- behind a call that has raised within itself: a new ground -/
theorem reground (F : Fr g L h m) (B : Below A base outer g) (X : (hd.heap_39 w.params).In base) (T : Top hd.view_39 (looseW hd.view_39 []) mean mg mb base) (K : Keep (L :: adrs outer) ch h h') (hch : ∀ b ∈ ch, g.get? b = none ∧ b ≠ L) :
    ∃ g', KtsTurn (adrs outer) g g' ∧ Fr g' L h' m ∧ Below A base outer g' ∧ (hd.heap_39 w.params).In g' ∧ Top hd.view_39 (looseW hd.view_39 []) mean mg mb g' := by
  have gL := fr_none F
  have nch : ∀ b o, g.get? b = some o → b ∉ ch := fun b o e m => by rw [(hch b m).1] at e; cases e
  obtain ⟨T', S⟩ := kts_turn_at (h := h') (fs := adrs outer) (g := g)
    (fun b hb => by obtain ⟨_, o, ho, _⟩ := B.frames.mem hb; exact ⟨o, ho⟩)
    (fun b o e nm => K.get (F.keep b o e) (fun q => by
      rcases List.mem_cons.mp q with z | z
      · rw [z, gL] at e; cases e
      · exact nm z) (nch b o e))
    (fun b o e _ => K.up (F.keep b o e) (nch b o e))
  have B' : Below A base outer (ktsHeap h' (adrs outer) g) := ⟨B.stack, fun b o e => T'.other b o (B.stays b o e) (fun hm => by
    rw [(B.frames.mem hm).1] at e; cases e), B.frames.of_keeps fun b o e _ => by
      obtain ⟨sl, q⟩ := T'.up e
      exact ⟨_, q, rfl⟩⟩
  exact ⟨_, T', ⟨K.ns F.ns fun q => (hch L q).2 rfl, S, by rw [T'.size]; exact F.above⟩, B', X.keeps B'.stays, T.keeps B'.stays⟩
theorem news_turn {g' : Heap} {fs : List Addr} (N : News g L h news) (T : KtsTurn fs g g') (e : ∀ p ∈ news, h'.get? p.1 = some p.2) : News g' L h' news := fun p hp =>
  ⟨e p hp, (N p hp).2.1, T.none_ _ (N p hp).2.2⟩
end

section
variable {prog : Program} {w : World} {A : Around} {E : Value → Shared → Prop} {s : Shared} {base h₀ : Heap} {env : Env} {outer : List Env} {ch : List Addr} {L e C N fI : Addr} {mA : Str → Option Value}
  {t : Expr} {b₀ : Stmt} {suite : List Stmt} {pos : Pos} {rest : List ExceptHandler} {Q : Flow → Shared → Prop}
/-- an own exception, caught by its very class (no name) -/
theorem caught0 (hfr : A.frames = some (env :: outer)) (hl : s.heap.FunFrames base (env :: outer)) (hf : env.frame = some L) (X : Raised (adrs (env :: outer)) ch h₀ s.heap e C mA)
    (k : ∀ h' T, Keep (adrs (env :: outer)) ch h₀ h' → h₀.get? e = none → h₀.get? T = none → Fly h' e C T mA .none →
      wpAny (model prog w) (A.mark (some (.ref e))) (eval t env) (fun c s₁ => Halt (c = .ref C ∧ s₁.heap = h' ∧ ExcCls h' C N fI ∧ ∀ h₂, Keep (adrs (env :: outer)) ch h₀ h₂ → Fly h₂ e C T mA .none →
        wpAny (model prog w) (A.mark (some (.ref e))) (execs (b₀ :: suite) env) Q E { s₁ with heap := h₂ })) E { s with heap := h' })
    (hE : PassesOwnAt (model prog w) (A.mark (some (.ref e))) A env E) :
    wpAny (model prog w) A (noteFrame (.ref e) env) (fun _ s₂ => wpAny (model prog w) A (setFlight (.ref e) none) (fun _ s₃ =>
      wpAny (model prog w) A (handleBy (.ref e) env (.ExceptHandler (some t) none (b₀ :: suite) pos :: rest)) Q E s₃) E s₂) E s := by
  have hn := X.2.1
  refine noted hfr hl hf X fun h₁ T K₁ nT F₁ L₁ _ => ?_
  refine flight F₁ fun h₂ K₂ F₂ => ?_
  have nT' : ∀ {b o}, h₀.get? b = some o → b ∈ ch ∨ b ∈ [T] → b ∈ ch := fun q m => m.elim id fun z => by rw [List.mem_singleton.mp z, nT] at q; cases q
  have K₂' : Keep (adrs (env :: outer)) ch h₀ h₂ := K₁.trans K₂ (fun b o q m => m.elim id fun z => nomatch z) (fun b o q m => nT' q m)
  refine wpAny_handleBy_cons (codeAny_handlers_test (wpAny_mono (wpAny_passesOwnAt hE (k h₂ T K₂' hn nT F₂)) (fun c s₁ h₁ => ?_) fun _ _ y => y)) (by intro q; cases q)
  obtain ⟨rfl, hs, ⟨⟨nm, ad, t1, t2, hC⟩, -, -⟩, hk⟩ := h₁
  obtain ⟨⟨oe, vs, d, he, hcls, -⟩, -, -⟩ := id F₂
  obtain ⟨hh, g, dr, tk, os⟩ := s₁
  dsimp only at hs
  subst hs
  refine wpAny_excMatches_sub_self hC he hcls (by simp) (codeAny_handlers_suite (wpAny_passesOwnAt hE ?_))
  refine flight F₂ fun h₃ K₃ F₃ => wpAny_passesOwnAt hE (hk h₃ (K₂'.trans K₃ (fun b o q m => m.elim id fun z => nomatch z) (fun b o q m => nT' q m)) F₃)
end
end Mine
end

section
open PySem PySem.W PySem.Calls PyProof.Rows PySem.Spec
namespace Mine
section
variable {w : World} {base g h h₀ h₁ : Heap} {mean : ExcName → Option Value} {mg mb : Str → Option Value} {A : Around} {l : List Env} {n : Nat} {L a : Addr} {m : Str → Option Value} {name : Str} {scope : Scope} {cd : Value} {ch : List Addr}

theorem Cx.deeper {h' : Heap} (C : Cx w base mean mg mb A l (n + 1) h) (B : Below A base l g) (F : Fr g L h' m) (hk : scope.kind = .function) :
    Cx w base mean mg mb (A.deeper (envOf name scope L a cd)) (envOf name scope L a cd :: l) n h' where
  below := B.push F hk
  kin := C.kin
  top := C.top
  room := by have := C.room; show A.depth + 1 + n < _; omega
  units := by have := C.units; show A.units + 3 + 16 * n < _; omega
theorem Cx.marked {v : Option Value} (C : Cx w base mean mg mb A l n h) : Cx w base mean mg mb (A.mark v) l n h where
  below := ⟨C.below.stack, C.below.stays, C.below.frames⟩
  kin := C.kin
  top := C.top
  room := C.room
  units := C.units

theorem raised_of {e C : Addr} {mA : Str → Option Value} {fs : List Addr} (G : Gro (adrs l) ch h₀ g) (F : Fr g L h₁ m) (hex : ∀ b ∈ ch, ∃ o, h₁.get? b = some o) (hfs : ∀ b ∈ adrs l, b ∈ fs) (X : Raised fs ch h₁ h e C mA) : Raised fs ch h₀ h e C mA := by
  obtain ⟨K, hn, X⟩ := X
  have K₁ := G.keep F hex
  refine ⟨K₁.trans K (fun b o q m => m.elim (hfs b) id) (fun b o q m => m.elim id id), K₁.old hn, ?_⟩
  rcases X with X | ⟨T, hT, X⟩
  · exact .inl X
  · exact .inr ⟨T, K₁.old hT, X⟩

theorem raised_new {e C : Addr} {mA : Str → Option Value} {fs ch : List Addr} (K : Keep [] [] h₁ h) (hn : h₁.get? e = none) (X : Fresh h e C mA) : Raised fs ch h₁ h e C mA :=
  ⟨K.mono (fun _ q => nomatch q) (fun _ q => nomatch q), hn, .inl X⟩

/-- an exception leaves a def's frame -/
theorem leaves_out {M : Model} {E : Value → Shared → Prop} {s' : Shared} {e C : Addr} {mA : Str → Option Value} {Q : Unit → Shared → Prop} (G : Gro (adrs l) ch h₀ g) (F : Fr g L h₁ m) (B : Below A base l g) (hL : h₀.get? L = none)
    (hex : ∀ b ∈ ch, ∃ o, h₁.get? b = some o) (hfr : ∀ b ∈ ch, b ≠ L ∧ g.get? b = none) (X : Raised (adrs (envOf name scope L a cd :: l)) ch h₁ s'.heap e C mA) (h : ∀ h', Raised (adrs l) ch h₀ h' e C mA → Q () { s' with heap := h' }) (hk : scope.kind = .function := by rfl) :
    wpAny M (A.deeper (envOf name scope L a cd)) (leaving (envOf name scope L a cd) (.ref e)) Q E s' := by
  have B' := B.push (name := name) (scope := scope) (a := a) (cd := cd) F hk
  refine leaves (h₀ := h₀) B'.stack (X.1.frames B'.frames fun b hb m => ?_) rfl hL (raised_of G F hex (fun b hb => ?_) X) h
  · have hb' : b ∈ (envOf name scope L a cd :: l).filterMap (·.frame) := hb
    rcases kts_mem hb' with z | z
    · exact (hfr b m).1 z
    · obtain ⟨_, o, ho, _⟩ := B.frames.mem z
      rw [(hfr b m).2] at ho; cases ho
  · show b ∈ (envOf name scope L a cd :: l).filterMap (·.frame)
    rw [List.filterMap_cons]
    exact List.mem_cons_of_mem _ hb
end
end Mine
end

section
open PySem PySem.W PySem.Calls PyProof.Rows PySem.Spec
namespace Mine

abbrev ar (dp un : Nat) (gd : Option (List Code)) (l : List Env) : Around := { handled := none, depth := dp, frames := some l, guards := gd, units := un }

def fold256 (l : List Int) : Int := l.foldl (fun a o => a * 256 + o) 0
/-- get_whole, read plainly -/
def wholeOf (ks : List Int) (i z : Nat) : Option Int := if ks.length < i + z then none else some (fold256 ((ks.drop i).take z))

theorem clip_nat {n : Nat} {i : Int} (h0 : 0 ≤ i) (h1 : i ≤ n) : clipAt n i = i.toNat := by
  unfold clipAt
  rw [if_neg (by omega)]
  congr 1
  omega

local macro_rules | `(tactic| walk_at "exec Raise some none") => `(tactic| (refine Raise_made rfl ?_))
local macro_rules | `(tactic| walk_at "exec For Name Subscript cons nil") => `(tactic| (kstb_has; k_here; (rename Fr _ _ _ _ => lF'); (with_unfolding_all refine' For_invVF lF' ?k1 ?k2 ?_; (case k1 => exact rfl); (case k2 => exact rfl); k_whole)))

set_option maxHeartbeats 4000000 in
theorem whole_spec {w : World} {base : Heap} {mean : ExcName → Option Value} {mg mb : Str → Option Value} {dp un : Nat} {gd : Option (List Code)} {l : List Env} {n : Nat} {s : Shared} {R : Result → Shared → Prop}
    {b : Array UInt8} {ks : List Int} {i z : Int} {t1 t2 t3 : Tok}
    (C : Cx w base mean mg mb (ar dp un gd l) l (n + 4) s.heap) (hB : KBw.bInts b = ks) (hks : ks.length < 1000) (hi : 0 ≤ i) (hi2 : i < 1000) (hz : 0 ≤ z) (hz2 : z ≤ 8)
    (hret : ∀ v t h' tk', wholeOf ks i.toNat z.toNat = some v → Keep [] [] s.heap h' → R (.ok (.ret (.int v t))) { s with heap := h', toks := tk' })
    (hexc : ∀ e h' tk' mA, wholeOf ks i.toNat z.toNat = none → Raised (adrs l) [] s.heap h' e 51 mA → R (.error (.ref e)) { s with heap := h', toks := tk' }) :
    codeAny (model PG w) (ar dp un gd l) (.call (.ref 62) ⟨[.bytes b t1, .int i t2, .int z t3], []⟩) R s := by
  refine enter (news := []) C (fun _ q => nomatch q) (by k_is) (by k_is) (binds := [(Str.ofString "data", Value.bytes b t1), (Str.ofString "at", Value.int i t2), (Str.ofString "size", Value.int z t3)]) (BindsTo.of_eq rfl) (locs rfl) (fun g L h₁ hg hg' hsz hL F N B X T => ?_) (by decide)
  have hL0 : s.heap.get? L = none := by rw [hL]; exact Heap.get?_none_of_le (Nat.le_refl _)
  k_with "pyIter bytes" => k_state (fun pre n => n = fold256 pre) "found"
  k_steps
  · refine short_new (n := n + 1) (C.deeper B F ?hk) fun e h' tk' mA hn K Fx => ⟨e, 51, 50, 48, mA, rfl, short_cls ((X.keeps F.keep).keeps fun b o q => K.get q (fun z => nomatch z) fun z => nomatch z), Fx, ?_⟩
    case hk => rfl
    refine leaves_out (ch := []) (Gro.of_all hg) F B hL0 (fun _ q => nomatch q) (fun _ q => nomatch q) (raised_new K hn Fx) fun h'' X'' => ?_
    refine hexc e h'' _ mA ?_ X''
    unfold wholeOf
    rw [if_pos (by omega)]
  · (with_reducible rename Fr _ _ _ _ => F')
    dsimp only
    refine hret _ _ _ _ ?_ (keep_fr hg F' fun _ q => nomatch q)
    unfold wholeOf
    rw [if_neg (by omega), clip_nat (by omega) (by omega), clip_nat hi (by omega)]
    unfold fold256
    congr 3
    omega
end Mine
end

section
open PySem PySem.W PySem.Calls PyProof.Rows PySem.Spec
namespace Mine

def sizeOf (o : Int) : Nat := if o < 64 then 1 else if o < 128 then 2 else if o < 192 then 4 else 8
/-- get_varint, read plainly -/
def varintOf (ks : List Int) (i : Nat) : Option (Int × Nat) := if ks.length ≤ i then none else
  (wholeOf ks i (sizeOf (ks.getD i 0))).map fun v => (v % 2 ^ (8 * sizeOf (ks.getD i 0) - 2), i + sizeOf (ks.getD i 0))

theorem sizes_item {prog : Program} {w : World} {A : Around} {E : Value → Shared → Prop} {s : Shared} {h₀ : Heap} {L : Addr} {m : Str → Option Value} {value slice : PySem.Expr} {q : Int} {u : Tok} {Q : Value → Shared → Prop} (F : Fr h₀ L s.heap m) (X : (hd.heap_39 w.params).In h₀)
    (h0 : 0 ≤ q) (h1 : q < 256) (k1 : sizeOf q = 1 → Q (.int 1 251) s) (k2 : sizeOf q = 2 → Q (.int 2 252) s) (k4 : sizeOf q = 4 → Q (.int 4 253) s) (k8 : sizeOf q = 8 → Q (.int 8 254) s)
    (hs : ∀ k, subscripted slice false (.ref 55) (.int k u) = operate [.ref 55, .int k u] (getItem (.ref 55) (.int k u)) := by intro _; with_unfolding_all rfl) :
    wpAny (model prog w) A (subscriptTail value slice (.ref 55) (.int (q.fdiv (2 ^ Int.toNat 6)) u)) Q E s := by
  have e : q.fdiv (2 ^ Int.toNat 6) = q / 64 := by
    rw [Int.fdiv_eq_ediv_of_nonneg _ (by decide)]
    rfl
  rw [e]
  have lk : (hd.heap_39 w.params).lookup 55 = some ⟨.type "tuple", none, .seq [Value.int 1 251, .int 2 252, .int 4 253, .int 8 254].toArray 0, #[]⟩ := by k_is
  unfold sizeOf at k1 k2 k4 k8
  by_cases a : q < 64
  · have : q / 64 = 0 := by omega
    rw [this]
    exact topTup_K (j := 0) F X lk (by decide) (by decide) (by decide) rfl (k1 (by rw [if_pos a])) (hs _)
  by_cases b : q < 128
  · have : q / 64 = 1 := by omega
    rw [this]
    exact topTup_K (j := 1) F X lk (by decide) (by decide) (by decide) rfl (k2 (by rw [if_neg a, if_pos b])) (hs _)
  by_cases c : q < 192
  · have : q / 64 = 2 := by omega
    rw [this]
    exact topTup_K (j := 2) F X lk (by decide) (by decide) (by decide) rfl (k4 (by rw [if_neg a, if_neg b, if_pos c])) (hs _)
  · have : q / 64 = 3 := by omega
    rw [this]
    exact topTup_K (j := 3) F X lk (by decide) (by decide) (by decide) rfl (k8 (by rw [if_neg a, if_neg b, if_neg c])) (hs _)

theorem and_mask (k : Nat) (v : Int) {M : Int} (e : M = 2 ^ k - 1) : Builtin.bitAnd v M = v % 2 ^ k := by
  subst e
  exact kbt_mask v k

theorem varint_ret {s : Shared} {R : Result → Shared → Prop} {ks : List Int} {i : Int} {g h' : Heap} {L D : Addr} {m : Str → Option Value} {Z : Nat} {v x j : Int} {t t' : Tok} {tk : Nat} (hi : 0 ≤ i)
    (hret : ∀ v z a t t' h' tk', varintOf ks i.toNat = some (v, z) → Keep [] [] s.heap h' → s.heap.get? a = none → h'.get? a = some { cls := .type "tuple", data := .seq [Value.int v t, Value.int (z : Int) t'].toArray } → R (.ok (.ret (.ref a))) { s with heap := h', toks := tk' })
    (F : Fr g L h' m) (N : News g L h' [(D, { cls := .type "tuple", data := .seq [Value.int x t, Value.int j t'].toArray })]) (hg : ∀ b o, s.heap.get? b = some o → b ∉ ([] : List (Addr × Obj)).map (·.1) → g.get? b = some o)
    (hlt : ¬ ks.length ≤ i.toNat) (hz : sizeOf (ks.getD i.toNat 0) = Z) (hv : wholeOf ks i.toNat Z = some v) (hx : x = v % 2 ^ (8 * Z - 2)) (hj : j = i + Z) : R (.ok (.ret (.ref D))) { s with heap := h', toks := tk } := by
  have e : varintOf ks i.toNat = some (x, i.toNat + Z) := by
    unfold varintOf
    rw [if_neg hlt, hz, hv, hx]
    rfl
  refine hret x (i.toNat + Z) D t t' h' tk e (keep_fr hg F fun _ q => nomatch q) ?_ ?_
  · cases q : s.heap.get? D with
    | none => rfl
    | some o => have := (N _ (.head _)).2.2; rw [hg D o q (fun z => nomatch z)] at this; cases this
  · have : ((i.toNat + Z : Nat) : Int) = j := by omega
    rw [this]
    exact (N _ (.head _)).1

section
local macro_rules | `(tactic| walk_at "pad") => `(tactic| skip)
local macro_rules | `(tactic| walk_at "exec Raise some none") => `(tactic| (refine Raise_made rfl ?_))
local macro_rules | `(tactic| walk_at "call ref") => `(tactic| ((with_reducible show wpAny _ _ (call (Value.ref 62) _) _ _ _); (refine Halt.mk ?_)))
set_option maxHeartbeats 4000000 in
theorem varint_spec {w : World} {base : Heap} {mean : ExcName → Option Value} {mg mb : Str → Option Value} {dp un : Nat} {gd : Option (List Code)} {l : List Env} {n : Nat} {s : Shared} {R : Result → Shared → Prop}
    {b : Array UInt8} {ks : List Int} {i : Int} {t1 t2 : Tok}
    (C : Cx w base mean mg mb (ar dp un gd l) l (n + 6) s.heap) (hB : KBw.bInts b = ks) (hks : ks.length < 1000) (hi : 0 ≤ i) (hi2 : i < 1000)
    (hret : ∀ v z a t t' h' tk', varintOf ks i.toNat = some (v, z) → Keep [] [] s.heap h' → s.heap.get? a = none → h'.get? a = some { cls := .type "tuple", data := .seq [Value.int v t, Value.int (z : Int) t'].toArray } → R (.ok (.ret (.ref a))) { s with heap := h', toks := tk' })
    (hexc : ∀ e h' tk' mA, varintOf ks i.toNat = none → Raised (adrs l) [] s.heap h' e 51 mA → R (.error (.ref e)) { s with heap := h', toks := tk' }) :
    codeAny (model PG w) (ar dp un gd l) (.call (.ref 69) ⟨[.bytes b t1, .int i t2], []⟩) R s := by
  refine enter (news := []) C (fun _ q => nomatch q) (by k_is) (by k_is) (binds := [(Str.ofString "data", Value.bytes b t1), (Str.ofString "at", Value.int i t2)]) (BindsTo.of_eq rfl) (locs rfl) (fun g L h₁ hg hg' hsz hL F N B X T => ?_) (by decide)
  have hL0 : s.heap.get? L = none := by rw [hL]; exact Heap.get?_none_of_le (Nat.le_refl _)
  k_steps
  · refine short_new (n := n + 3) (C.deeper B F ?hk) fun e h' tk' mA hn K Fx => ⟨e, 51, 50, 48, mA, rfl, short_cls ((X.keeps F.keep).keeps fun b o q => K.get q (fun z => nomatch z) fun z => nomatch z), Fx, ?_⟩
    case hk => rfl
    refine leaves_out (ch := []) (Gro.of_all hg) F B hL0 (fun _ q => nomatch q) (fun _ q => nomatch q) (raised_new K hn Fx) fun h'' X'' => ?_
    refine hexc e h'' _ mA ?_ X''
    unfold varintOf
    rw [if_pos (by omega)]
  · (rename 0 ≤ ks.getD i.toNat 0 => q0); (rename ks.getD i.toNat 0 < 256 => q1)
    refine sizes_item F X q0 q1 (fun hz => ?_) (fun hz => ?_) (fun hz => ?_) (fun hz => ?_)
    · k_steps
      (with_reducible rename Fr _ _ _ _ => F')
      refine wpAny_call (whole_spec (n := n + 1) (C.deeper B F' ?hk) hB hks hi hi2 (by decide) (by decide) (fun v t h' tk' hv K => ?_) (fun e h' tk' mA hv X' => ?_))
      case hk => rfl
      · have F2 := fr_keep F' K (fun q => nomatch q) (fun _ _ _ q => nomatch q)
        have N2 : News g L h' [] := fun _ q => nomatch q
        k_steps
        (with_reducible rename Fr _ _ _ _ => F3)
        (with_reducible rename News _ _ _ _ => N3)
        exact varint_ret (s := s) hi hret F3 N3 hg (by omega) hz hv (and_mask 6 _ rfl) rfl
      · refine leaves_out (ch := []) (Gro.of_all hg) F' B hL0 (fun _ q => nomatch q) (fun _ q => nomatch q) X' fun h'' X'' => ?_
        refine hexc e h'' _ mA ?_ X''
        unfold varintOf
        rw [if_neg (by omega), hz]
        exact congrArg (Option.map _) hv
    · k_steps
      (with_reducible rename Fr _ _ _ _ => F')
      refine wpAny_call (whole_spec (n := n + 1) (C.deeper B F' ?hk) hB hks hi hi2 (by decide) (by decide) (fun v t h' tk' hv K => ?_) (fun e h' tk' mA hv X' => ?_))
      case hk => rfl
      · have F2 := fr_keep F' K (fun q => nomatch q) (fun _ _ _ q => nomatch q)
        have N2 : News g L h' [] := fun _ q => nomatch q
        k_steps
        (with_reducible rename Fr _ _ _ _ => F3)
        (with_reducible rename News _ _ _ _ => N3)
        exact varint_ret (s := s) hi hret F3 N3 hg (by omega) hz hv (and_mask 14 _ rfl) rfl
      · refine leaves_out (ch := []) (Gro.of_all hg) F' B hL0 (fun _ q => nomatch q) (fun _ q => nomatch q) X' fun h'' X'' => ?_
        refine hexc e h'' _ mA ?_ X''
        unfold varintOf
        rw [if_neg (by omega), hz]
        exact congrArg (Option.map _) hv
    · k_steps
      (with_reducible rename Fr _ _ _ _ => F')
      refine wpAny_call (whole_spec (n := n + 1) (C.deeper B F' ?hk) hB hks hi hi2 (by decide) (by decide) (fun v t h' tk' hv K => ?_) (fun e h' tk' mA hv X' => ?_))
      case hk => rfl
      · have F2 := fr_keep F' K (fun q => nomatch q) (fun _ _ _ q => nomatch q)
        have N2 : News g L h' [] := fun _ q => nomatch q
        k_steps
        (with_reducible rename Fr _ _ _ _ => F3)
        (with_reducible rename News _ _ _ _ => N3)
        exact varint_ret (s := s) hi hret F3 N3 hg (by omega) hz hv (and_mask 30 _ rfl) rfl
      · refine leaves_out (ch := []) (Gro.of_all hg) F' B hL0 (fun _ q => nomatch q) (fun _ q => nomatch q) X' fun h'' X'' => ?_
        refine hexc e h'' _ mA ?_ X''
        unfold varintOf
        rw [if_neg (by omega), hz]
        exact congrArg (Option.map _) hv
    · k_steps
      (with_reducible rename Fr _ _ _ _ => F')
      refine wpAny_call (whole_spec (n := n + 1) (C.deeper B F' ?hk) hB hks hi hi2 (by decide) (by decide) (fun v t h' tk' hv K => ?_) (fun e h' tk' mA hv X' => ?_))
      case hk => rfl
      · have F2 := fr_keep F' K (fun q => nomatch q) (fun _ _ _ q => nomatch q)
        have N2 : News g L h' [] := fun _ q => nomatch q
        k_steps
        (with_reducible rename Fr _ _ _ _ => F3)
        (with_reducible rename News _ _ _ _ => N3)
        exact varint_ret (s := s) hi hret F3 N3 hg (by omega) hz hv (and_mask 62 _ rfl) rfl
      · refine leaves_out (ch := []) (Gro.of_all hg) F' B hL0 (fun _ q => nomatch q) (fun _ q => nomatch q) X' fun h'' X'' => ?_
        refine hexc e h'' _ mA ?_ X''
        unfold varintOf
        rw [if_neg (by omega), hz]
        exact congrArg (Option.map _) hv
end
end Mine
end

section
open PySem PySem.W PySem.Calls PyProof.Rows PySem.Spec
namespace Mine

theorem Fly.keep {h h' : Heap} {e C T : Addr} {mA : Str → Option Value} {fl : Value} (X : Fly h e C T mA fl) (K : Keep [] [] h h') : Fly h' e C T mA fl := by
  obtain ⟨⟨oe, vs, d, he, hc, hdi, hd, h1, hw, hns⟩, ⟨oT, ts, hT, hdT, h3⟩, hne⟩ := X
  have g : ∀ b o, h.get? b = some o → h'.get? b = some o := fun b o q => K.get q (fun z => nomatch z) fun z => nomatch z
  exact ⟨⟨oe, vs, d, g _ _ he, hc, hdi, hd, h1, hw, K.ns1 hns fun z => nomatch z⟩, ⟨oT, ts, g _ _ hT, hdT, h3⟩, hne⟩

section
local macro_rules | `(tactic| walk_at "exec Raise some none") => `(tactic| (first | refine Raise_made rfl ?_ | refine Raise_in rfl ?_))
local macro_rules | `(tactic| walk_at "call ref") => `(tactic| ((with_reducible show wpAny _ _ (call (Value.ref 69) _) _ _ _); (refine Halt.mk ?_)))
set_option maxHeartbeats 4000000 in
theorem wholeV_spec {w : World} {base : Heap} {mean : ExcName → Option Value} {mg mb : Str → Option Value} {dp un : Nat} {gd : Option (List Code)} {l : List Env} {n : Nat} {s : Shared} {R : Result → Shared → Prop}
    {b : Array UInt8} {ks : List Int} {i : Int} {t1 t2 : Tok}
    (C : Cx w base mean mg mb (ar dp un gd l) l (n + 8) s.heap) (hB : KBw.bInts b = ks) (hks : ks.length < 1000) (hi : 0 ≤ i) (hi2 : i < 1000)
    (hret : ∀ v z a t t' h' tk', varintOf ks i.toNat = some (v, z) → Keep [] [] s.heap h' → s.heap.get? a = none → h'.get? a = some { cls := .type "tuple", data := .seq [Value.int v t, Value.int (z : Int) t'].toArray } → R (.ok (.ret (.ref a))) { s with heap := h', toks := tk' })
    (hexc : ∀ e h' tk' mA tc, varintOf ks i.toNat = none → Raised (adrs l) [] s.heap h' e 31 mA → mA (Str.ofString "code") = some (.int 262 tc) → R (.error (.ref e)) { s with heap := h', toks := tk' }) :
    codeAny (model PG w) (ar dp un gd l) (.call (.ref 82) ⟨[.bytes b t1, .int i t2], []⟩) R s := by
  refine enter (news := []) C (fun _ q => nomatch q) (by k_is) (by k_is) (binds := [(Str.ofString "payload", Value.bytes b t1), (Str.ofString "at", Value.int i t2)]) (BindsTo.of_eq rfl) (locs rfl) (fun g L h₁ hg hg' hsz hL F N B X T => ?_) (by decide)
  have hL0 : s.heap.get? L = none := by rw [hL]; exact Heap.get?_none_of_le (Nat.le_refl _)
  k_steps
  refine wpAny_call (varint_spec (n := n + 1) (C.deeper B F ?hk) hB hks hi hi2 (fun v z a t t' h' tk' hv K ha hA => ?_) (fun e h' tk' mA hv X' => ?_))
  case hk => rfl
  · exact hret v z a t t' h' tk' hv ((keep_fr hg F fun _ q => nomatch q).then K) (by
      cases q : s.heap.get? a with
      | none => rfl
      | some o => rw [F.keep _ _ (hg _ _ q fun z => nomatch z)] at ha; cases ha) hA
  · refine caught0 (N := 50) (fI := 48) (ch := []) (B.push F ?hk).stack (X'.1.frames (B.push F ?hk).frames fun _ _ q => nomatch q) rfl X' (fun h2 T2 K2 n1 n2 F2 => ?_) ?hE
    case hk => rfl
    case hE => passes_own
    obtain ⟨g2, T2', Fg2, Bg2, Xg2, Tg2⟩ := reground F B C.kin C.top K2 (fun _ q => nomatch q)
    have Ng2 : News g2 L h2 [] := fun _ q => nomatch q
    k_steps
    refine ⟨rfl, rfl, short_cls (Xg2.keeps Fg2.keep), fun h3 K3 F3 => ?_⟩
    obtain ⟨g3, T3', Fg3, Bg3, Xg3, Tg3⟩ := reground F B C.kin C.top K3 (fun _ q => nomatch q)
    have Ng3 : News g3 L h3 [] := fun _ q => nomatch q
    k_steps
    refine h3_new (n := n + 5) ((C.deeper Bg3 Fg3 ?hk).marked) (by decide) (by decide) (by decide) fun e3 h4 tk4 mA4 hn4 K4 Fx4 hcode => ⟨e3, 30, 28, mA4, mA, T2, .none, rfl, ?_, Fx4, F3.keep K4, ?_, fun h5 K5 Fx5 => ?_⟩
    case hk => rfl
    · exact h3_cls ((Xg3.keeps Fg3.keep).keeps fun b o q => K4.get q (fun z => nomatch z) fun z => nomatch z)
    · intro q
      obtain ⟨⟨oe, vs, d, he, -⟩, -, -⟩ := F3
      rw [q, hn4] at he; cases he
    · have K35 := (K3.then (K4.mono (fun _ q => nomatch q) fun _ q => nomatch q)).trans K5 (fs := _) (ch := []) (fun b o q m => m.elim id fun z => nomatch z) (fun b o q m => m.elim id fun z => by
        rw [List.mem_singleton.mp z, K3.old hn4] at q; cases q)
      refine leaves_out (ch := []) (Gro.of_all hg) F B hL0 (fun _ q => nomatch q) (fun _ q => nomatch q) ⟨K35, K3.old hn4, .inl Fx5⟩ fun h6 X6 => ?_
      exact hexc e3 h6 _ mA4 _ hv X6 hcode
end
end Mine
end

section
open PySem PySem.W PySem.Calls PyProof.Rows PySem.Spec
namespace Mine

def tupObj (vs : List Value) : Obj := { cls := .type "tuple", data := .seq vs.toArray }
/-- read_only_id, read plainly -/
def onlyOf (ks : List Int) : Option Int := match varintOf ks 0 with
  | some (v, z) => if z = ks.length then some v else none
  | none => none

theorem news_add {g h h' : Heap} {L a : Addr} {m : Str → Option Value} {o : Obj} {news : List (Addr × Obj)} (F : Fr g L h m) (N : News g L h' news) (ha : h.get? a = none) (hA : h'.get? a = some o) : News g L h' ((a, o) :: news) := fun p hp => by
  rcases List.mem_cons.mp hp with rfl | hp
  · refine ⟨hA, ?_, ?_⟩
    · intro q
      obtain ⟨_, _, _, eL, _⟩ := F.ns
      dsimp only at q
      rw [q, eL] at ha; cases ha
    · cases q : g.get? a with
      | none => rfl
      | some o => rw [F.keep _ _ q] at ha; cases ha
  · exact N p hp
theorem news_keep {g h h' : Heap} {L : Addr} {ch : List Addr} {news : List (Addr × Obj)} (N : News g L h news) (K : Keep [] ch h h') (nc : ∀ p ∈ news, p.1 ∉ ch) : News g L h' news := fun p hp =>
  ⟨K.get (N p hp).1 (fun q => nomatch q) (nc p hp), (N p hp).2.1, (N p hp).2.2⟩
theorem fresh_in {h g h' : Heap} {L a : Addr} {m : Str → Option Value} {ch : List Addr} (hg : ∀ b o, h.get? b = some o → b ∉ ch → g.get? b = some o) (F : Fr g L h' m) (ha : h'.get? a = none) (nc : a ∉ ch) : h.get? a = none := by
  cases q : h.get? a with
  | none => rfl
  | some o => rw [F.keep _ _ (hg _ _ q nc)] at ha; cases ha
theorem fresh_news {h g h' : Heap} {L a : Addr} {o : Obj} {news : List (Addr × Obj)} {ch : List Addr} (hg : ∀ b o, h.get? b = some o → b ∉ ch → g.get? b = some o) (N : News g L h' news) (hm : (a, o) ∈ news) (nc : a ∉ ch) : h.get? a = none := by
  cases q : h.get? a with
  | none => rfl
  | some o => have := (N _ hm).2.2; rw [hg _ _ q nc] at this; cases this

section
local macro_rules | `(tactic| walk_at "pad") => `(tactic| skip)
local macro_rules | `(tactic| walk_at "exec Raise some none") => `(tactic| (refine Raise_made rfl ?_))
local macro_rules | `(tactic| walk_at "call ref") => `(tactic| ((with_reducible show wpAny _ _ (call (Value.ref 82) _) _ _ _); (refine Halt.mk ?_)))
set_option maxHeartbeats 4000000 in
theorem only_spec {w : World} {base : Heap} {mean : ExcName → Option Value} {mg mb : Str → Option Value} {dp un : Nat} {gd : Option (List Code)} {l : List Env} {n : Nat} {s : Shared} {R : Result → Shared → Prop}
    {b : Array UInt8} {ks : List Int} {x : Str} {t1 t2 : Tok}
    (C : Cx w base mean mg mb (ar dp un gd l) l (n + 10) s.heap) (hB : KBw.bInts b = ks) (hks : ks.length < 1000)
    (hret : ∀ v a t t' h' tk', onlyOf ks = some v → Keep [] [] s.heap h' → s.heap.get? a = none → h'.get? a = some (tupObj [Value.str x t, Value.int v t']) → R (.ok (.ret (.ref a))) { s with heap := h', toks := tk' })
    (hexc : ∀ e h' tk' mA tc, onlyOf ks = none → Raised (adrs l) [] s.heap h' e 31 mA → mA (Str.ofString "code") = some (.int 262 tc) → R (.error (.ref e)) { s with heap := h', toks := tk' }) :
    codeAny (model PG w) (ar dp un gd l) (.call (.ref 94) ⟨[.str x t1, .bytes b t2], []⟩) R s := by
  refine enter (news := []) C (fun _ q => nomatch q) (by k_is) (by k_is) (binds := [(Str.ofString "name", Value.str x t1), (Str.ofString "payload", Value.bytes b t2)]) (BindsTo.of_eq rfl) (locs rfl) (fun g L h₁ hg hg' hsz hL F N B X T => ?_) (by decide)
  have hL0 : s.heap.get? L = none := by rw [hL]; exact Heap.get?_none_of_le (Nat.le_refl _)
  k_steps
  refine wpAny_call (wholeV_spec (n := n + 1) (C.deeper B F ?hk) hB hks (by decide) (by decide) (fun v z a t t' h' tk' hv K ha hA => ?_) (fun e h' tk' mA tc hv X' hc => ?_))
  case hk => rfl
  · have F2 := fr_keep F K (fun q => nomatch q) (fun _ _ _ q => nomatch q)
    have N2 := news_add F (news_keep N K fun _ q => nomatch q) ha hA
    have hv0 : varintOf ks 0 = some (v, z) := hv
    k_steps
    · (with_reducible rename Fr _ _ _ _ => F3)
      (with_reducible rename ¬ _ = _ => hne)
      refine h3_new (n := n + 7) (C.deeper B F3 ?hk) (by decide) (by decide) (by decide) fun e h4 tk4 mA hn K4 Fx hc => ⟨e, 31, 30, 28, mA, rfl, h3_cls ((X.keeps F3.keep).keeps fun b o q => K4.get q (fun z => nomatch z) fun z => nomatch z), Fx, ?_⟩
      case hk => rfl
      refine leaves_out (ch := []) (Gro.of_all hg) F3 B hL0 (fun _ q => nomatch q) (fun _ q => nomatch q) (raised_new K4 hn Fx) fun h'' X'' => ?_
      refine hexc e h'' _ mA _ ?_ X'' hc
      unfold onlyOf
      rw [hv0]
      exact if_neg (by omega)
    · (with_reducible rename Fr _ _ _ _ => F3)
      (with_reducible rename News _ _ _ _ => N3)
      refine hret v _ _ _ _ _ ?_ (keep_fr hg F3 fun _ q => nomatch q) (fresh_news hg N3 (.head _) fun q => nomatch q) (N3 _ (.head _)).1
      unfold onlyOf
      rw [hv0]
      exact if_pos (by omega)
  · refine leaves_out (ch := []) (Gro.of_all hg) F B hL0 (fun _ q => nomatch q) (fun _ q => nomatch q) X' fun h'' X'' => ?_
    refine hexc e h'' _ mA tc ?_ X'' hc
    have hv0 : varintOf ks 0 = none := hv
    unfold onlyOf
    rw [hv0]
end
end Mine
end

section
open PySem PySem.W PySem.Calls PyProof.Rows PySem.Spec
namespace Mine

theorem varint_one {ks : List Int} {i : Nat} {a : Int} (h : ks[i]? = some a) (h0 : 0 ≤ a) (h1 : a < 64) : varintOf ks i = some (a, i + 1) := by
  obtain ⟨hi, e⟩ := List.getElem?_eq_some_iff.mp h
  have hd : ks.getD i 0 = a := by rw [List.getD_eq_getElem?_getD, h]; rfl
  have hs : sizeOf a = 1 := by unfold sizeOf; rw [if_pos h1]
  unfold varintOf wholeOf
  rw [if_neg (by omega), hd, hs, if_neg (by omega)]
  have : (ks.drop i).take 1 = [a] := by
    rw [List.drop_eq_getElem_cons hi, e]; rfl
  rw [this]
  show some ((fold256 [a]) % 2 ^ (8 * 1 - 2), i + 1) = _
  have : fold256 [a] = a := by simp [fold256]
  rw [this, Int.emod_eq_of_lt h0 (by omega)]

theorem old_set {prog : Program} {w : World} {A : Around} {E : Value → Shared → Prop} {s : Shared} {x : Int} {u : Tok} {Q : Value → Shared → Prop} (X : (hd.heap_39 w.params).In s.heap)
    (hin : x ∈ ([0, 2, 3, 4, 5] : List Int) → Q (.bool true) s) (hout : x ∉ ([0, 2, 3, 4, 5] : List Int) → Q (.bool false) s) : wpAny (model prog w) A (compareOp .In (.int x u) (.ref 75)) Q E s := by
  have lk : (hd.heap_39 w.params).lookup 75 = some ⟨.type "tuple", none, .seq [Value.int 0 306, .int 2 307, .int 3 308, .int 4 309, .int 5 310].toArray 0, #[]⟩ := by k_is
  refine in_tuple_ints (ns := [0, 2, 3, 4, 5]) (tupK X lk) (.cons _ _ (.cons _ _ (.cons _ _ (.cons _ _ (.cons _ _ .nil))))) ?_
  by_cases h : x ∈ ([0, 2, 3, 4, 5] : List Int)
  · rw [show ([0, 2, 3, 4, 5] : List Int).any (· == x) = true from List.any_eq_true.mpr ⟨x, h, by simp⟩]; exact hin h
  · rw [show ([0, 2, 3, 4, 5] : List Int).any (· == x) = false from List.any_eq_false.mpr fun y hy q => h (by rw [← beq_iff_eq.mp q]; exact hy)]; exact hout h
theorem old_typ {prog : Program} {w : World} {A : Around} {E : Value → Shared → Prop} {s : Shared} {x : Int} {u : Tok} {Q : Value → Shared → Prop} (X : (hd.heap_39 w.params).In s.heap)
    (hin : x ∈ ([2, 6, 8, 9] : List Int) → Q (.bool true) s) (hout : x ∉ ([2, 6, 8, 9] : List Int) → Q (.bool false) s) : wpAny (model prog w) A (compareOp .In (.int x u) (.ref 74)) Q E s := by
  have lk : (hd.heap_39 w.params).lookup 74 = some ⟨.type "tuple", none, .seq [Value.int 2 301, .int 6 302, .int 8 303, .int 9 304].toArray 0, #[]⟩ := by k_is
  refine in_tuple_ints (ns := [2, 6, 8, 9]) (tupK X lk) (.cons _ _ (.cons _ _ (.cons _ _ (.cons _ _ .nil)))) ?_
  by_cases h : x ∈ ([2, 6, 8, 9] : List Int)
  · rw [show ([2, 6, 8, 9] : List Int).any (· == x) = true from List.any_eq_true.mpr ⟨x, h, by simp⟩]; exact hin h
  · rw [show ([2, 6, 8, 9] : List Int).any (· == x) = false from List.any_eq_false.mpr fun y hy q => h (by rw [← beq_iff_eq.mp q]; exact hy)]; exact hout h

/-- an address apart from some, as omega reads it -/
def Apart (D : Nat) : List Nat → Prop
  | [] => True
  | a :: r => @Ne Nat a D ∧ Apart D r
theorem apart_of {D : Nat} : ∀ {l : List Nat}, (∀ a ∈ l, a ≠ D) → Apart D l
  | [], _ => trivial
  | _ :: _, h => ⟨h _ (.head _), apart_of fun a m => h a (.tail _ m)⟩
theorem apart_news {g h : Heap} {L D : Addr} {news : List (Addr × Obj)} (N : News g L h news) (hD : h.get? D = none) : Apart D (news.map (·.1)) := apart_of fun a m q => by
  obtain ⟨p, hp, rfl⟩ := List.mem_map.mp m
  rw [← q, (N p hp).1] at hD; cases hD

/-- whole_varint where one octet is the number -/
theorem call82_one {w : World} {base g : Heap} {mean : ExcName → Option Value} {mg mb : Str → Option Value} {dp un : Nat} {gd : Option (List Code)} {l : List Env} {n : Nat} {h0 : Heap} {s : Shared} {Q E : Value → Shared → Prop}
    {L f : Addr} {m : Str → Option Value} {name : Str} {scope : Scope} {cd : Value} {news : List (Addr × Obj)} {b : Array UInt8} {ks : List Int} {i a : Int} (j : Int) {t1 t2 : Tok}
    (C : Cx w base mean mg mb (ar dp un gd l) l (n + 9) h0) (B : Below (ar dp un gd l) base l g) (F : Fr g L s.heap m) (N : News g L s.heap news) (hB : KBw.bInts b = ks) (hks : ks.length < 1000)
    (hi : 0 ≤ i) (hi2 : i < 1000) (ha : ks[i.toNat]? = some a) (a0 : 0 ≤ a) (a1 : a < 64) (hj : j = i + 1) (hk : scope.kind = .function)
    (k : ∀ D t t' h' tk', Fr g L h' m → News g L h' ((D, { cls := .type "tuple", data := .seq [Value.int a t, Value.int j t'].toArray }) :: news) → Apart D (news.map (·.1)) → Q (.ref D) { s with heap := h', toks := tk' }) :
    wpAny (model PG w) ((ar dp un gd l).deeper (envOf name scope L f cd)) (call (.ref 82) [.bytes b t1, .int i t2]) Q E s := by
  have hv := varint_one ha a0 a1
  refine wpAny_call (wholeV_spec (n := n) (C.deeper B F hk) hB hks hi hi2 (fun v z D t t' h' tk' hv' K hD hA => ?_) (fun e h' tk' mA tc hv' X' hc => ?_))
  · rw [hv] at hv'
    cases hv'
    have e : ((i.toNat + 1 : Nat) : Int) = j := by omega
    rw [e] at hA
    exact k D t t' h' tk' (fr_keep F K (fun q => nomatch q) fun _ _ _ q => nomatch q) (news_add F (news_keep N K fun _ _ q => nomatch q) hD hA) (apart_news N hD)
  · rw [hv] at hv'; cases hv'

section
local macro_rules | `(tactic| walk_at "exec Raise some none") => `(tactic| (refine Raise_made rfl ?_))
local macro_rules | `(tactic| walk_at "call ref") => `(tactic| ((with_reducible show wpAny _ _ (call (Value.ref 82) _) _ _ _); (refine Halt.mk ?_)))
set_option maxHeartbeats 4000000 in
theorem settings2_spec {w : World} {base : Heap} {mean : ExcName → Option Value} {mg mb : Str → Option Value} {dp un : Nat} {gd : Option (List Code)} {l : List Env} {n : Nat} {s : Shared} {R : Result → Shared → Prop}
    {b : Array UInt8} {x y : Int} {t1 : Tok}
    (C : Cx w base mean mg mb (ar dp un gd l) l (n + 10) s.heap) (hB : KBw.bInts b = [x, y]) (hx : 0 ≤ x) (hx2 : x < 64) (hy : 0 ≤ y) (hy2 : y < 64)
    (hret : ∀ a c t t' h' tk' k, x ∉ ([0, 2, 3, 4, 5] : List Int) → Keep [] [] s.heap h' → s.heap.get? a = none → s.heap.get? c = none → h'.get? a = some (W.listOf [Value.ref c].toArray k) → h'.get? c = some (tupObj [Value.int x t, Value.int y t']) → R (.ok (.ret (.ref a))) { s with heap := h', toks := tk' })
    (hexc : ∀ e h' tk' mA tc, x ∈ ([0, 2, 3, 4, 5] : List Int) → Raised (adrs l) [] s.heap h' e 31 mA → mA (Str.ofString "code") = some (.int 265 tc) → R (.error (.ref e)) { s with heap := h', toks := tk' }) :
    codeAny (model PG w) (ar dp un gd l) (.call (.ref 87) ⟨[.bytes b t1], []⟩) R s := by
  refine enter (news := []) C (fun _ q => nomatch q) (by k_is) (by k_is) (binds := [(Str.ofString "payload", Value.bytes b t1)]) (BindsTo.of_eq rfl) (locs rfl) (fun g L h₁ hg hg' hsz hL F N B X T => ?_) (by decide)
  have hL0 : s.heap.get? L = none := by rw [hL]; exact Heap.get?_none_of_le (Nat.le_refl _)
  k_steps
  (with_reducible rename Fr _ _ _ _ => F'); (with_reducible rename News _ _ _ _ => N')
  refine call82_one (n := n + 1) 1 C B F' N' hB (by simp) (by decide) (by decide) rfl hx hx2 rfl ?hk (fun D1 ta tb h2 tk2 F2 N2 ne2 => ?_)
  case hk => rfl
  simp only [List.map_cons, List.map_nil, Apart] at ne2
  k_steps
  (with_reducible rename Fr _ _ _ _ => F3); (with_reducible rename News _ _ _ _ => N3)
  refine call82_one (n := n + 1) 2 C B F3 N3 hB (by simp) (by decide) (by decide) rfl hy hy2 rfl ?hk (fun D3 tc td h4 tk4 F4 N4 ne4 => ?_)
  case hk => rfl
  simp only [List.map_cons, List.map_nil, Apart] at ne4
  k_steps
  (with_reducible rename Fr _ _ _ _ => F5); (with_reducible rename News _ _ _ _ => N5)
  refine old_set (X.keeps F5.keep) (fun hin => ?_) (fun hout => ?_)
  · k_steps
    (with_reducible rename Fr _ _ _ _ => F6)
    refine h3_new (n := n + 7) (C.deeper B F6 ?hk) (by decide) (by decide) (by decide) fun e h6 tk6 mA hn K6 Fx hc => ⟨e, 31, 30, 28, mA, rfl, h3_cls ((X.keeps F6.keep).keeps fun b o q => K6.get q (fun z => nomatch z) fun z => nomatch z), Fx, ?_⟩
    case hk => rfl
    refine leaves_out (ch := []) (Gro.of_all hg) F6 B hL0 (fun _ q => nomatch q) (fun _ q => nomatch q) (raised_new K6 hn Fx) fun h'' X'' => ?_
    exact hexc e h'' _ mA _ hin X'' hc
  · k_steps
    (with_reducible rename Fr _ _ _ _ => F6); (with_reducible rename News _ _ _ _ => N6)
    exact hret _ _ _ _ _ _ _ hout (keep_fr hg F6 fun _ q => nomatch q) (fresh_news hg N6 (.tail _ (.tail _ (.tail _ (.tail _ (.tail _ (.head _)))))) fun q => nomatch q) (fresh_news hg N6 (.head _) fun q => nomatch q) (N6 _ (.tail _ (.tail _ (.tail _ (.tail _ (.tail _ (.head _))))))).1 (N6 _ (.head _)).1

end
end Mine
end

section
open PySem PySem.W PySem.Calls PyProof.Rows PySem.Spec
namespace Mine

section
local macro_rules | `(tactic| walk_at "exec Raise some none") => `(tactic| (refine Raise_made rfl ?_))
local macro_rules | `(tactic| walk_at "call ref") => `(tactic| ((with_reducible show wpAny _ _ (call (Value.ref 82) _) _ _ _); (refine Halt.mk ?_)))
local macro_rules | `(tactic| lcg_off) => `(tactic| ((simp only [LCg.Off3, and_true]); assumption))
local macro_rules | `(tactic| walk_at "CompRestP") => `(tactic| (first | (with_reducible refine LCp.CompRestP.zero ?_) | (with_reducible_and_instances refine LCp.CompRestP.zero ?_)))
set_option maxHeartbeats 4000000 in
theorem settings4_spec {w : World} {base : Heap} {mean : ExcName → Option Value} {mg mb : Str → Option Value} {dp un : Nat} {gd : Option (List Code)} {l : List Env} {n : Nat} {s : Shared} {R : Result → Shared → Prop}
    {b : Array UInt8} {x y z : Int} {t1 : Tok}
    (C : Cx w base mean mg mb (ar dp un gd l) l (n + 10) s.heap) (hB : KBw.bInts b = [x, y, x, z]) (hx : 0 ≤ x) (hx2 : x < 64) (hy : 0 ≤ y) (hy2 : y < 64) (hz : 0 ≤ z) (hz2 : z < 64)
    (hexc : ∀ e h' tk' mA tc, Raised (adrs l) [] s.heap h' e 31 mA → mA (Str.ofString "code") = some (.int 265 tc) → R (.error (.ref e)) { s with heap := h', toks := tk' }) :
    codeAny (model PG w) (ar dp un gd l) (.call (.ref 87) ⟨[.bytes b t1], []⟩) R s := by
  refine enter (news := []) C (fun _ q => nomatch q) (by k_is) (by k_is) (binds := [(Str.ofString "payload", Value.bytes b t1)]) (BindsTo.of_eq rfl) (locs rfl) (fun g L h₁ hg hg' hsz hL F N B X T => ?_) (by decide)
  have hL0 : s.heap.get? L = none := by rw [hL]; exact Heap.get?_none_of_le (Nat.le_refl _)
  k_steps
  (with_reducible rename Fr _ _ _ _ => F'); (with_reducible rename News _ _ _ _ => N')
  refine call82_one (n := n + 1) 1 C B F' N' hB (by simp) (by decide) (by decide) rfl hx hx2 rfl ?hk (fun D1 ta tb h2 tk2 F2 N2 ne2 => ?_)
  case hk => rfl
  simp only [List.map_cons, List.map_nil, Apart] at ne2
  k_steps
  (with_reducible rename Fr _ _ _ _ => F3); (with_reducible rename News _ _ _ _ => N3)
  refine call82_one (n := n + 1) 2 C B F3 N3 hB (by simp) (by decide) (by decide) rfl hy hy2 rfl ?hk (fun D3 tc td h4 tk4 F4 N4 ne4 => ?_)
  case hk => rfl
  simp only [List.map_cons, List.map_nil, Apart] at ne4
  k_steps
  (with_reducible rename Fr _ _ _ _ => F5); (with_reducible rename News _ _ _ _ => N5)
  refine old_set (X.keeps F5.keep) (fun hin => ?_) (fun hout => ?_)
  · k_steps
    (with_reducible rename Fr _ _ _ _ => F6)
    refine h3_new (n := n + 7) (C.deeper B F6 ?hk) (by decide) (by decide) (by decide) fun e h6 tk6 mA hn K6 Fx hc => ⟨e, 31, 30, 28, mA, rfl, h3_cls ((X.keeps F6.keep).keeps fun b o q => K6.get q (fun z => nomatch z) fun z => nomatch z), Fx, ?_⟩
    case hk => rfl
    refine leaves_out (ch := []) (Gro.of_all hg) F6 B hL0 (fun _ q => nomatch q) (fun _ q => nomatch q) (raised_new K6 hn Fx) fun h'' X'' => ?_
    exact hexc e h'' _ mA _ X'' hc
  · k_steps
    (with_reducible rename Fr _ _ _ _ => F6); (with_reducible rename News _ _ _ _ => N6)
    refine call82_one (n := n + 1) 3 C B F6 N6 hB (by simp) (by decide) (by decide) rfl hx hx2 rfl ?hk (fun D5 te tf h7 tk7 F7 N7 ne7 => ?_)
    case hk => rfl
    simp only [List.map_cons, List.map_nil, Apart] at ne7
    k_steps
    (with_reducible rename Fr _ _ _ _ => F8); (with_reducible rename News _ _ _ _ => N8)
    refine call82_one (n := n + 1) 4 C B F8 N8 hB (by simp) (by decide) (by decide) rfl hz hz2 rfl ?hk (fun D6 tg th h9 tk9 F9 N9 ne9 => ?_)
    case hk => rfl
    simp only [List.map_cons, List.map_nil, Apart] at ne9
    k_steps
    (with_reducible rename Fr _ _ _ _ => F10); (with_reducible rename News _ _ _ _ => N10)
    refine old_set (X.keeps F10.keep) (fun hin => absurd hin hout) (fun _ => ?_)
    clear ne2 ne4 ne7 ne9
    k_steps
    · (with_reducible rename Fr _ _ _ _ => F11)
      refine h3_new (n := n + 7) (C.deeper B F11 ?hk) (by decide) (by decide) (by decide) fun e h6 tk6 mA hn K6 Fx hc => ⟨e, 31, 30, 28, mA, rfl, h3_cls ((X.keeps F11.keep).keeps fun b o q => K6.get q (fun z => nomatch z) fun z => nomatch z), Fx, ?_⟩
      case hk => rfl
      refine leaves_out (ch := []) (Gro.of_all hg) F11 B hL0 (fun _ q => nomatch q) (fun _ q => nomatch q) (raised_new K6 hn Fx) fun h'' X'' => ?_
      exact hexc e h'' _ mA _ X'' hc
    · (with_reducible rename _ = false => hff)
      exact absurd hff (by simp)
end
end Mine
end

section
open PySem PySem.W PySem.Calls PyProof.Rows PySem.Spec
namespace Mine

theorem bytes_of {b : Array UInt8} {ks : List Int} (h : KBw.bInts b = ks) : byteArr ks = b := by
  subst h
  obtain ⟨l⟩ := b
  unfold byteArr KBw.bInts
  congr 1
  rw [List.map_map]
  conv => rhs; rw [← List.map_id l]
  apply List.map_congr_left
  intro c _
  show ((c.toNat : Int).toNat).toUInt8 = c
  rw [Int.toNat_natCast]
  exact UInt8.ofNat_toNat

/-- objects that a call has made -/
def Laid (h h' : Heap) (nw : List (Addr × Obj)) : Prop := ∀ p ∈ nw, h.get? p.1 = none ∧ h'.get? p.1 = some p.2
/-- a frame's reading: a frame, a refusal's code, or a shape that the law never draws -/
inductive PR where
  | frame (d : Dat)
  | bad (c : Int)
  | odd
def settingsOf (ks : List Int) : PR := match ks with
  | [x, y] => if 0 ≤ x ∧ x < 64 ∧ 0 ≤ y ∧ y < 64 then (if x ∈ ([0, 2, 3, 4, 5] : List Int) then .bad 265 else .frame (.tuple [.str (Str.ofString "settings"), .list [.tuple [.int x, .int y]]])) else .odd
  | [x, y, x', z] => if 0 ≤ x ∧ x < 64 ∧ 0 ≤ y ∧ y < 64 ∧ 0 ≤ z ∧ z < 64 ∧ x = x' then .bad 265 else .odd
  | _ => .odd
def onlyR (name : String) (ks : List Int) : PR := match onlyOf ks with
  | some v => .frame (.tuple [.str (Str.ofString name), .int v])
  | none => .bad 262
def payloadOf (kind : Int) (ks : List Int) : PR :=
  if kind = 0 then .frame (.tuple [.str (Str.ofString "data"), .bytes (byteArr ks)])
  else if kind = 1 then .frame (.tuple [.str (Str.ofString "headers"), .bytes (byteArr ks)])
  else if kind = 4 then settingsOf ks
  else if kind = 5 then (match varintOf ks 0 with
    | some (v, z) => .frame (.tuple [.str (Str.ofString "push_promise"), .int v, .bytes (byteArr (ks.drop z))])
    | none => .bad 262)
  else if kind = 3 then onlyR "cancel_push" ks
  else if kind = 7 then onlyR "goaway" ks
  else if kind = 13 then onlyR "max_push" ks
  else .frame (.tuple [.str (Str.ofString "unknown"), .int kind, .bytes (byteArr ks)])

theorem laid_of {h g h' : Heap} {L : Addr} {news : List (Addr × Obj)} {nw : List (Addr × Obj)} (hg : ∀ b o, h.get? b = some o → b ∉ ([] : List (Addr × Obj)).map (·.1) → g.get? b = some o) (N : News g L h' news) (hs : nw.Sublist news) : Laid h h' nw := fun p hp =>
  ⟨fresh_news hg N (hs.subset hp) (fun q => nomatch q), (N p (hs.subset hp)).1⟩
theorem laid_one {h g h1 h' : Heap} {L a : Addr} {m : Str → Option Value} {o : Obj} (hg : ∀ b o, h.get? b = some o → b ∉ ([] : List (Addr × Obj)).map (·.1) → g.get? b = some o) (F : Fr g L h1 m) (ha : h1.get? a = none) (hA : h'.get? a = some o) : Laid h h' [(a, o)] := fun p hp => by
  rw [List.mem_singleton.mp hp]
  exact ⟨fresh_in hg F ha (fun q => nomatch q), hA⟩

theorem cut_drop (ks : List Int) (z : Nat) : List.take (ks.length - min z ks.length) (List.drop (min z ks.length) ks) = ks.drop z := by
  by_cases h : z ≤ ks.length
  · rw [Nat.min_eq_left h, List.take_of_length_le (by simp)]
  · rw [Nat.min_eq_right (by omega), List.drop_eq_nil_of_le (by omega), List.drop_eq_nil_of_le (by omega)]
    simp
theorem settings_shape {ks : List Int} (h : settingsOf ks ≠ .odd) : (∃ x y, ks = [x, y] ∧ 0 ≤ x ∧ x < 64 ∧ 0 ≤ y ∧ y < 64) ∨ ∃ x y z, ks = [x, y, x, z] ∧ 0 ≤ x ∧ x < 64 ∧ 0 ≤ y ∧ y < 64 ∧ 0 ≤ z ∧ z < 64 := by
  unfold settingsOf at h
  split at h
  · split at h
    · rename_i q; exact .inl ⟨_, _, rfl, q⟩
    · exact absurd rfl h
  · split at h
    · rename_i q
      obtain ⟨q1, q2, q3, q4, q5, q6, q7⟩ := q
      subst q7
      exact .inr ⟨_, _, _, rfl, q1, q2, q3, q4, q5, q6⟩
    · exact absurd rfl h
  · exact absurd rfl h

section
local macro_rules | `(tactic| walk_at "exec Raise some none") => `(tactic| (refine Raise_made rfl ?_))
local macro_rules | `(tactic| walk_at "call ref") => `(tactic| ((first | (with_reducible show wpAny _ _ (call (Value.ref 82) _) _ _ _) | (with_reducible show wpAny _ _ (call (Value.ref 87) _) _ _ _) | (with_reducible show wpAny _ _ (call (Value.ref 94) _) _ _ _)); (refine Halt.mk ?_)))
set_option maxHeartbeats 4000000 in
theorem payload_spec {w : World} {base : Heap} {mean : ExcName → Option Value} {mg mb : Str → Option Value} {dp un : Nat} {gd : Option (List Code)} {l : List Env} {n : Nat} {s : Shared} {R : Result → Shared → Prop}
    {b : Array UInt8} {ks : List Int} {kind : Int} {t1 t2 : Tok}
    (C : Cx w base mean mg mb (ar dp un gd l) l (n + 12) s.heap) (hB : KBw.bInts b = ks) (hks : ks.length < 1000) (hk0 : 0 ≤ kind) (hk : kind ∉ ([2, 6, 8, 9] : List Int)) (hodd : payloadOf kind ks ≠ .odd)
    (hret : ∀ v d nw h' tk', payloadOf kind ks = .frame d → DatIn nw v d → Laid s.heap h' nw → Keep [] [] s.heap h' → R (.ok (.ret v)) { s with heap := h', toks := tk' })
    (hexc : ∀ e h' tk' mA c tc, payloadOf kind ks = .bad c → Raised (adrs l) [] s.heap h' e 31 mA → mA (Str.ofString "code") = some (.int c tc) → R (.error (.ref e)) { s with heap := h', toks := tk' }) :
    codeAny (model PG w) (ar dp un gd l) (.call (.ref 101) ⟨[.int kind t1, .bytes b t2], []⟩) R s := by
  refine enter (news := []) C (fun _ q => nomatch q) (by k_is) (by k_is) (binds := [(Str.ofString "kind", Value.int kind t1), (Str.ofString "payload", Value.bytes b t2)]) (BindsTo.of_eq rfl) (locs rfl) (fun g L h₁ hg hg' hsz hL F N B X T => ?_) (by decide)
  have hL0 : s.heap.get? L = none := by rw [hL]; exact Heap.get?_none_of_le (Nat.le_refl _)
  k_steps
  refine old_typ (X.keeps F.keep) (fun hin => absurd hin hk) (fun _ => ?_)
  k_steps
  · (with_reducible rename Fr _ _ _ _ => F'); (with_reducible rename News _ _ _ _ => N')
    (with_reducible rename kind = 0 => hkd)
    refine hret _ _ _ _ _ ?_ (DatIn.tuple (.head _) (.cons (.str _ _) (.cons (.bytes _ _) .nil))) (laid_of hg N' (List.Sublist.refl _)) (keep_fr hg F' fun _ q => nomatch q)
    rw [← bytes_of hB]
    unfold payloadOf
    rw [if_pos hkd]
  · (with_reducible rename Fr _ _ _ _ => F'); (with_reducible rename News _ _ _ _ => N')
    (with_reducible rename kind = 1 => hkd)
    refine hret _ _ _ _ _ ?_ (DatIn.tuple (.head _) (.cons (.str _ _) (.cons (.bytes _ _) .nil))) (laid_of hg N' (List.Sublist.refl _)) (keep_fr hg F' fun _ q => nomatch q)
    rw [← bytes_of hB, hkd]
    rfl
  · (with_reducible rename kind = 4 => hkd)
    subst hkd
    have hpl : payloadOf 4 ks = settingsOf ks := rfl
    rw [hpl] at hodd hret hexc
    obtain ⟨x, y, hks2, hx, hx2, hy, hy2⟩ | ⟨x, y, z, hks4, hx, hx2, hy, hy2, hz, hz2⟩ := settings_shape hodd
    · rw [hks2] at hB hodd hret hexc
      refine wpAny_call (settings2_spec (n := n + 1) (C.deeper B F ?hk) hB hx hx2 hy hy2 (fun a c t t' h' tk' k hx3 K ha hc hA hC => ?_) (fun e h' tk' mA tc hx3 X' hc => ?_))
      case hk => rfl
      · have F2 := fr_keep F K (fun q => nomatch q) (fun _ _ _ q => nomatch q)
        have N2 := news_add F (news_add F (news_keep N K fun _ q => nomatch q) ha hA) hc hC
        dsimp only
        k_steps
        (with_reducible rename Fr _ _ _ _ => F3); (with_reducible rename News _ _ _ _ => N3)
        refine hret _ _ _ _ _ ?_ (DatIn.tuple (.head _) (.cons (.str _ _) (.cons (.list (vs := [Value.ref c]) (.tail _ (.tail _ (.head _))) (.cons (.tuple (.tail _ (.head _)) (.cons (.int _ _) (.cons (.int _ _) .nil))) .nil)) .nil))) (laid_of hg N3 (List.Sublist.refl _)) (keep_fr hg F3 fun _ q => nomatch q)
        show (if 0 ≤ x ∧ x < 64 ∧ 0 ≤ y ∧ y < 64 then (if x ∈ ([0, 2, 3, 4, 5] : List Int) then PR.bad 265 else PR.frame (.tuple [.str (Str.ofString "settings"), .list [.tuple [.int x, .int y]]])) else PR.odd) = _
        rw [if_pos ⟨hx, hx2, hy, hy2⟩, if_neg hx3]
      · refine leaves_out (ch := []) (Gro.of_all hg) F B hL0 (fun _ q => nomatch q) (fun _ q => nomatch q) X' fun h'' X'' => ?_
        refine hexc e h'' _ mA _ tc ?_ X'' hc
        show (if 0 ≤ x ∧ x < 64 ∧ 0 ≤ y ∧ y < 64 then (if x ∈ ([0, 2, 3, 4, 5] : List Int) then PR.bad 265 else PR.frame (.tuple [.str (Str.ofString "settings"), .list [.tuple [.int x, .int y]]])) else PR.odd) = _
        rw [if_pos ⟨hx, hx2, hy, hy2⟩, if_pos hx3]
    · rw [hks4] at hB hodd hexc
      refine wpAny_call (settings4_spec (n := n + 1) (C.deeper B F ?hk) hB hx hx2 hy hy2 hz hz2 (fun e h' tk' mA tc X' hc => ?_))
      case hk => rfl
      refine leaves_out (ch := []) (Gro.of_all hg) F B hL0 (fun _ q => nomatch q) (fun _ q => nomatch q) X' fun h'' X'' => ?_
      refine hexc e h'' _ mA _ tc ?_ X'' hc
      show (if 0 ≤ x ∧ x < 64 ∧ 0 ≤ y ∧ y < 64 ∧ 0 ≤ z ∧ z < 64 ∧ x = x then PR.bad 265 else PR.odd) = _
      rw [if_pos ⟨hx, hx2, hy, hy2, hz, hz2, rfl⟩]
  · (with_reducible rename kind = 5 => hkd)
    subst hkd
    refine wpAny_call (wholeV_spec (n := n + 3) (C.deeper B F ?hk) hB hks (by decide) (by decide) (fun v z a t t' h' tk' hv K ha hA => ?_) (fun e h' tk' mA tc hv X' hc => ?_))
    case hk => rfl
    · have F2 := fr_keep F K (fun q => nomatch q) (fun _ _ _ q => nomatch q)
      have N2 := news_add F (news_keep N K fun _ q => nomatch q) ha hA
      have hv0 : varintOf ks 0 = some (v, z) := hv
      dsimp only
      k_steps
      (with_reducible rename Fr _ _ _ _ => F3); (with_reducible rename News _ _ _ _ => N3); (with_reducible rename KBw.bInts _ = _ => hcut)
      refine hret _ _ _ _ _ ?_ (DatIn.tuple (.head _) (.cons (.str _ _) (.cons (.int _ _) (.cons (.bytes _ _) .nil)))) (laid_of hg N3 (List.Sublist.refl _)) (keep_fr hg F3 fun _ q => nomatch q)
      rw [← bytes_of hcut, cut_drop]
      show (match varintOf ks 0 with
        | some (v, z) => PR.frame (.tuple [.str (Str.ofString "push_promise"), .int v, .bytes (byteArr (ks.drop z))])
        | none => .bad 262) = _
      rw [hv0]
    · refine leaves_out (ch := []) (Gro.of_all hg) F B hL0 (fun _ q => nomatch q) (fun _ q => nomatch q) X' fun h'' X'' => ?_
      refine hexc e h'' _ mA _ tc ?_ X'' hc
      have hv0 : varintOf ks 0 = none := hv
      show (match varintOf ks 0 with
        | some (v, z) => PR.frame (.tuple [.str (Str.ofString "push_promise"), .int v, .bytes (byteArr (ks.drop z))])
        | none => .bad 262) = _
      rw [hv0]
  · (with_reducible rename 3 = kind => hkd)
    subst hkd
    (with_reducible rename Fr _ _ _ _ => F')
    refine wpAny_call (only_spec (n := n + 1) (C.deeper B F' ?hk) hB hks (fun v a t t' h' tk' hv K ha hA => ?_) (fun e h' tk' mA tc hv X' hc => ?_))
    case hk => rfl
    · dsimp only
      have F2 := fr_keep F' K (fun q => nomatch q) (fun _ _ _ q => nomatch q)
      refine hret _ _ _ _ _ ?_ (DatIn.tuple (.head _) (.cons (.str _ _) (.cons (.int _ _) .nil))) (laid_one hg F' ha hA) (keep_fr hg F2 fun _ q => nomatch q)
      show onlyR "cancel_push" ks = _
      unfold onlyR
      rw [hv]
    · dsimp only
      refine leaves_out (ch := []) (Gro.of_all hg) F' B hL0 (fun _ q => nomatch q) (fun _ q => nomatch q) X' fun h'' X'' => ?_
      refine hexc e h'' _ mA _ tc ?_ X'' hc
      show onlyR "cancel_push" ks = _
      unfold onlyR
      rw [hv]
  · (with_reducible rename 7 = kind => hkd)
    subst hkd
    (with_reducible rename Fr _ _ _ _ => F')
    refine wpAny_call (only_spec (n := n + 1) (C.deeper B F' ?hk) hB hks (fun v a t t' h' tk' hv K ha hA => ?_) (fun e h' tk' mA tc hv X' hc => ?_))
    case hk => rfl
    · dsimp only
      have F2 := fr_keep F' K (fun q => nomatch q) (fun _ _ _ q => nomatch q)
      refine hret _ _ _ _ _ ?_ (DatIn.tuple (.head _) (.cons (.str _ _) (.cons (.int _ _) .nil))) (laid_one hg F' ha hA) (keep_fr hg F2 fun _ q => nomatch q)
      show onlyR "goaway" ks = _
      unfold onlyR
      rw [hv]
    · dsimp only
      refine leaves_out (ch := []) (Gro.of_all hg) F' B hL0 (fun _ q => nomatch q) (fun _ q => nomatch q) X' fun h'' X'' => ?_
      refine hexc e h'' _ mA _ tc ?_ X'' hc
      show onlyR "goaway" ks = _
      unfold onlyR
      rw [hv]
  · (with_reducible rename 13 = kind => hkd)
    subst hkd
    (with_reducible rename Fr _ _ _ _ => F')
    refine wpAny_call (only_spec (n := n + 1) (C.deeper B F' ?hk) hB hks (fun v a t t' h' tk' hv K ha hA => ?_) (fun e h' tk' mA tc hv X' hc => ?_))
    case hk => rfl
    · dsimp only
      have F2 := fr_keep F' K (fun q => nomatch q) (fun _ _ _ q => nomatch q)
      refine hret _ _ _ _ _ ?_ (DatIn.tuple (.head _) (.cons (.str _ _) (.cons (.int _ _) .nil))) (laid_one hg F' ha hA) (keep_fr hg F2 fun _ q => nomatch q)
      show onlyR "max_push" ks = _
      unfold onlyR
      rw [hv]
    · dsimp only
      refine leaves_out (ch := []) (Gro.of_all hg) F' B hL0 (fun _ q => nomatch q) (fun _ q => nomatch q) X' fun h'' X'' => ?_
      refine hexc e h'' _ mA _ tc ?_ X'' hc
      show onlyR "max_push" ks = _
      unfold onlyR
      rw [hv]
  · (with_reducible rename Fr _ _ _ _ => F'); (with_reducible rename News _ _ _ _ => N')
    refine hret _ _ _ _ _ ?_ (DatIn.tuple (.head _) (.cons (.str _ _) (.cons (.int _ _) (.cons (.bytes _ _) .nil)))) (laid_of hg N' (List.Sublist.refl _)) (keep_fr hg F' fun _ q => nomatch q)
    rw [← bytes_of hB]
    unfold payloadOf
    rw [if_neg (by assumption), if_neg (by assumption), if_neg (by assumption), if_neg (by assumption), if_neg (by omega), if_neg (by omega), if_neg (by omega)]
end
end Mine
end

section
open PySem PySem.W PySem.Calls PyProof.Rows PySem.Spec
namespace Mine

/-- a stream's own dict -/
abbrev strmD (w : World) (k1 k2 t : Tok) (b : Array UInt8) (tb : Tok) : Obj := dictOf
  [{ hash := PyData.keyHash w.params (Str.ofString "most"), key := .str (Str.ofString "most") k1, val := .int 20 t },
   { hash := PyData.keyHash w.params (Str.ofString "rest"), key := .str (Str.ofString "rest") k2, val := .bytes b tb }] 2
inductive NR where
  | more
  | got (d : Dat) (rest : List Int)
  | bad (c : Int)
  | odd
/-- next_frame, read plainly -/
def nextOf (ks : List Int) : NR := match varintOf ks 0 with
  | none => .more
  | some (kind, i) => match varintOf ks i with
    | none => .more
    | some (size, j) => if kind ∈ ([2, 6, 8, 9] : List Int) then .bad 261 else if 20 < size then .bad 263 else if (ks.length : Int) < j + size then .more
      else match payloadOf kind ((ks.drop j).take size.toNat) with
        | .frame d => .got d (ks.drop (j + size.toNat))
        | .bad c => .bad c
        | .odd => .odd

theorem varint_le {ks : List Int} {i z : Nat} {v : Int} (h : varintOf ks i = some (v, z)) : i < z ∧ z ≤ ks.length ∧ 0 ≤ v := by
  unfold varintOf at h
  split at h
  · cases h
  · obtain ⟨u, hu, q⟩ := Option.map_eq_some_iff.mp h
    unfold wholeOf at hu
    split at hu
    · cases hu
    · cases q
      have : 0 < sizeOf (ks.getD i 0) := by unfold sizeOf; split <;> (try split) <;> (try split) <;> decide
      exact ⟨by omega, by omega, Int.emod_nonneg _ (Int.pow_ne_zero (by decide))⟩
theorem raised_mono {fs ch : List Addr} {h₀ h : Heap} {e C : Addr} {mA : Str → Option Value} (X : Raised fs [] h₀ h e C mA) : Raised fs ch h₀ h e C mA := ⟨X.1.mono (fun _ q => q) (fun _ q => nomatch q), X.2⟩
theorem not_adr {A : Around} {base g h : Heap} {l : List Env} {L : Addr} {news : List (Addr × Obj)} {name : Str} {scope : Scope} {a : Addr} {cd : Value} (B : Below A base l g) (N : News g L h news) {p : Addr × Obj} (hp : p ∈ news) : p.1 ∉ adrs (envOf name scope L a cd :: l) := fun m => by
  have m' : p.1 ∈ L :: adrs l := m
  rcases List.mem_cons.mp m' with q | q
  · exact (N p hp).2.1 q
  · obtain ⟨_, o, ho, _⟩ := B.frames.mem q
    rw [(N p hp).2.2] at ho; cases ho
theorem two_ex {g h : Heap} {L x dx : Addr} {o : Obj} {news : List (Addr × Obj)} (N : News g L h news) (m1 : (x, instObj 139 dx) ∈ news) (m2 : (dx, o) ∈ news) : ∀ b ∈ [x, dx], ∃ o, h.get? b = some o := fun b hb => by
  rcases List.mem_cons.mp hb with rfl | hb
  · exact ⟨_, (N _ m1).1⟩
  · rw [List.mem_singleton.mp hb]; exact ⟨_, (N _ m2).1⟩
theorem two_off {g h : Heap} {L x dx : Addr} {o : Obj} {news : List (Addr × Obj)} (N : News g L h news) (m1 : (x, instObj 139 dx) ∈ news) (m2 : (dx, o) ∈ news) : ∀ b ∈ [x, dx], b ≠ L ∧ g.get? b = none := fun b hb => by
  rcases List.mem_cons.mp hb with rfl | hb
  · exact (N _ m1).2
  · rw [List.mem_singleton.mp hb]; exact (N _ m2).2

theorem next_of {ks : List Int} {v v4 : Int} {z z4 : Nat} (h : varintOf ks 0 = some (v, z)) (h4 : varintOf ks z = some (v4, z4)) : nextOf ks =
    if v ∈ ([2, 6, 8, 9] : List Int) then .bad 261 else if 20 < v4 then .bad 263 else if (ks.length : Int) < z4 + v4 then .more
      else match payloadOf v ((ks.drop z4).take v4.toNat) with
        | .frame d => .got d (ks.drop (z4 + v4.toNat))
        | .bad c => .bad c
        | .odd => .odd := by
  unfold nextOf
  rw [h]
  dsimp only
  rw [h4]
theorem next_more2 {ks : List Int} {v : Int} {z : Nat} (h : varintOf ks 0 = some (v, z)) (h4 : varintOf ks z = none) : nextOf ks = .more := by
  unfold nextOf
  rw [h]
  dsimp only
  rw [h4]
theorem cut_mid {ks : List Int} {z4 : Nat} {v4 : Int} (h0 : 0 ≤ v4) (h : ¬ (ks.length : Int) < z4 + v4) : List.take (clipAt ks.length (↑z4 + v4) - min z4 ks.length) (List.drop (min z4 ks.length) ks) = (ks.drop z4).take v4.toNat := by
  rw [clip_nat (by omega) (by omega), Nat.min_eq_left (by omega)]
  congr 1
  omega
theorem cut_end {ks : List Int} {z4 : Nat} {v4 : Int} (h0 : 0 ≤ v4) (h : ¬ (ks.length : Int) < z4 + v4) : List.take (ks.length - clipAt ks.length (↑z4 + v4)) (List.drop (clipAt ks.length (↑z4 + v4)) ks) = ks.drop (z4 + v4.toNat) := by
  rw [clip_nat (by omega) (by omega), show ((z4 : Int) + v4).toNat = z4 + v4.toNat by omega, List.take_of_length_le (by simp)]
theorem Laid.old {fs ch : List Addr} {h h1 h' : Heap} {nw : List (Addr × Obj)} (x : Laid h1 h' nw) (K : Keep fs ch h h1) : Laid h h' nw := fun p hp => ⟨K.old (x p hp).1, (x p hp).2⟩

section
local macro_rules | `(tactic| walk_at "pad") => `(tactic| skip)
local macro_rules | `(tactic| walk_at "exec Raise some none") => `(tactic| (refine Raise_made rfl ?_))
local macro_rules | `(tactic| walk_at "call ref") => `(tactic| ((first | (with_reducible show wpAny _ _ (call (Value.ref 69) _) _ _ _) | (with_reducible show wpAny _ _ (call (Value.ref 101) _) _ _ _)); (refine Halt.mk ?_)))
set_option maxHeartbeats 4000000 in
theorem next_spec {w : World} {base : Heap} {mean : ExcName → Option Value} {mg mb : Str → Option Value} {dp un : Nat} {gd : Option (List Code)} {l : List Env} {n : Nat} {s : Shared} {R : Result → Shared → Prop}
    {x dx : Addr} {k1 k2 t tb : Tok} {b : Array UInt8} {ks : List Int}
    (C : Cx w base mean mg mb (ar dp un gd l) l (n + 14) s.heap) (ho : Own base l s.heap [(x, instObj 139 dx), (dx, strmD w k1 k2 t b tb)]) (hlt : @LT.lt Nat _ dx x) (hB : KBw.bInts b = ks) (hks : ks.length < 1000) (hodd : nextOf ks ≠ .odd)
    (hmore : ∀ h' tk', nextOf ks = .more → Keep (adrs l) [x, dx] s.heap h' → h'.get? x = some (instObj 139 dx) → h'.get? dx = some (strmD w k1 k2 t b tb) → R (.ok (.ret .none)) { s with heap := h', toks := tk' })
    (hgot : ∀ v d nw h' tk' b' tb' ks', nextOf ks = .got d ks' → DatIn nw v d → Laid s.heap h' nw → Keep (adrs l) [x, dx] s.heap h' → h'.get? x = some (instObj 139 dx) → h'.get? dx = some (strmD w k1 k2 t b' tb') → KBw.bInts b' = ks' → R (.ok (.ret v)) { s with heap := h', toks := tk' })
    (hexc : ∀ e h' tk' mA c tc, nextOf ks = .bad c → Raised (adrs l) [x, dx] s.heap h' e 31 mA → mA (Str.ofString "code") = some (.int c tc) → R (.error (.ref e)) { s with heap := h', toks := tk' }) :
    codeAny (model PG w) (ar dp un gd l) (.call (.ref 129) ⟨[.ref x], []⟩) R s := by
  refine enter (news := [(x, instObj 139 dx), (dx, strmD w k1 k2 t b tb)]) C ho (by k_is) (by k_is) (binds := [(Str.ofString "self", Value.ref x)]) (BindsTo.of_eq rfl) (locs rfl) (fun g L h₁ hg hg' hsz hL F N B X T => ?_) (by decide)
  have hL0 : s.heap.get? L = none := by rw [hL]; exact Heap.get?_none_of_le (Nat.le_refl _)
  have m1 : (x, instObj 139 dx) ∈ [(x, instObj 139 dx), (dx, strmD w k1 k2 t b tb)] := .head _
  have m2 : (dx, strmD w k1 k2 t b tb) ∈ [(x, instObj 139 dx), (dx, strmD w k1 k2 t b tb)] := .tail _ (.head _)
  have G := Gro.of_all (fs := adrs l) (ch := [x, dx]) hg
  k_steps
  refine wpAny_call (varint_spec (n := n + 7) (C.deeper B F ?hk) hB hks (by decide) (by decide) (fun v z a ta tz h' tk' hv K ha hA => ?_) (fun e h' tk' mA hv X' => ?_))
  case hk => rfl
  · have F2 := fr_keep F K (fun q => nomatch q) (fun _ _ _ q => nomatch q)
    have N2 := news_add F (news_keep N K fun _ _ q => nomatch q) ha hA
    have hv0 : varintOf ks 0 = some (v, z) := hv
    have hz := varint_le hv0
    have ne2 := apart_news N ha
    simp only [List.map_cons, List.map_nil, Apart] at ne2
    k_steps
    (with_reducible rename Fr _ _ _ _ => F3); (with_reducible rename News _ _ _ _ => N3)
    refine wpAny_call (varint_spec (n := n + 7) (C.deeper B F3 ?hk) hB hks (by omega) (by omega) (fun v4 z4 a4 ta4 tz4 h4 tk4 hv4 K4 ha4 hA4 => ?_) (fun e h' tk' mA hv4 X' => ?_))
    case hk => rfl
    · have F4 := fr_keep F3 K4 (fun q => nomatch q) (fun _ _ _ q => nomatch q)
      have N4 := news_add F3 (news_keep N3 K4 fun _ _ q => nomatch q) ha4 hA4
      have hz4 := varint_le hv4
      have ne4 := apart_news N3 ha4
      simp only [List.map_cons, List.map_nil, Apart] at ne4
      rw [Int.toNat_natCast] at hv4 hz4
      k_steps
      (with_reducible rename Fr _ _ _ _ => F5)
      refine old_typ (X.keeps F5.keep) (fun hin => ?_) (fun hout => ?_)
      · k_steps
        (with_reducible rename News _ _ _ _ => N5)
        refine h3_new (n := n + 11) (C.deeper B F5 ?hk) (by decide) (by decide) (by decide) fun e h6 tk6 mA hn K6 Fx hc => ⟨e, 31, 30, 28, mA, rfl, h3_cls ((X.keeps F5.keep).keeps fun b o q => K6.get q (fun z => nomatch z) fun z => nomatch z), Fx, ?_⟩
        case hk => rfl
        refine leaves_out (ch := [x, dx]) G F5 B hL0 (two_ex N5 (.tail _ (.tail _ (.head _))) (.tail _ (.tail _ (.tail _ (.head _))))) (two_off N5 (.tail _ (.tail _ (.head _))) (.tail _ (.tail _ (.tail _ (.head _))))) (raised_new K6 hn Fx) fun h'' X'' => ?_
        refine hexc e h'' _ mA _ _ ?_ X'' hc
        rw [next_of hv0 hv4]
        exact if_pos hin
      · k_steps
        · (with_reducible rename News _ _ _ _ => N5)
          refine h3_new (n := n + 11) (C.deeper B F5 ?hk) (by decide) (by decide) (by decide) fun e h6 tk6 mA hn K6 Fx hc => ⟨e, 31, 30, 28, mA, rfl, h3_cls ((X.keeps F5.keep).keeps fun b o q => K6.get q (fun z => nomatch z) fun z => nomatch z), Fx, ?_⟩
          case hk => rfl
          refine leaves_out (ch := [x, dx]) G F5 B hL0 (two_ex N5 (.tail _ (.tail _ (.head _))) (.tail _ (.tail _ (.tail _ (.head _))))) (two_off N5 (.tail _ (.tail _ (.head _))) (.tail _ (.tail _ (.tail _ (.head _))))) (raised_new K6 hn Fx) fun h'' X'' => ?_
          refine hexc e h'' _ mA _ _ ?_ X'' hc
          rw [next_of hv0 hv4]
          rw [if_neg hout, if_pos (by assumption)]
        · (with_reducible rename News _ _ _ _ => N5)
          dsimp only
          refine hmore _ _ ?_ (G.keep F5 (two_ex N5 (.tail _ (.tail _ (.head _))) (.tail _ (.tail _ (.tail _ (.head _)))))) (N5 _ (.tail _ (.tail _ (.head _)))).1 (N5 _ (.tail _ (.tail _ (.tail _ (.head _))))).1
          rw [next_of hv0 hv4, if_neg hout, if_neg (by assumption), if_pos (by assumption)]
        · (with_reducible rename News _ _ _ _ => N5); (with_reducible rename Fr _ _ _ _ => F6)
          (with_reducible rename KBw.bInts (KBy.picked b (some (↑z4 + v4)) none) = _ => hc2); (with_reducible rename KBw.bInts (KBy.picked b (some ↑z4) (some (↑z4 + v4))) = _ => hc1)
          (with_reducible rename ¬ _ < _ => hlen)
          rw [cut_mid hz4.2.2 hlen] at hc1
          rw [cut_end hz4.2.2 hlen] at hc2
          have hnx := next_of hv0 hv4
          rw [if_neg hout, if_neg (by assumption), if_neg hlen] at hnx
          have K5 := G.keep F6 (two_ex N5 (.tail _ (.tail _ (.head _))) (.tail _ (.tail _ (.tail _ (.head _)))))
          refine wpAny_call (payload_spec (n := n + 1) (C.deeper B F6 ?hk) hc1 (by simp; omega) hz.2.2 hout ?_ (fun vv d nw h' tk' hp Ld Lw K => ?_) (fun e h' tk' mA c tc hp X' hc => ?_))
          case hk => rfl
          · intro q
            rw [q] at hnx
            exact hodd hnx
          · rw [hp] at hnx
            exact hgot vv d nw h' tk' _ _ _ hnx Ld (Lw.old K5) (K5.trans K (fun b o q m => m.elim id fun z => nomatch z) (fun b o q m => m.elim id fun z => nomatch z))
              (K.get (N5 _ (.tail _ (.tail _ (.head _)))).1 (fun z => nomatch z) fun z => nomatch z) (K.get (N5 _ (.tail _ (.tail _ (.tail _ (.head _))))).1 (fun z => nomatch z) fun z => nomatch z) hc2
          · rw [hp] at hnx
            refine leaves_out (ch := [x, dx]) G F6 B hL0 (two_ex N5 (.tail _ (.tail _ (.head _))) (.tail _ (.tail _ (.tail _ (.head _))))) (two_off N5 (.tail _ (.tail _ (.head _))) (.tail _ (.tail _ (.tail _ (.head _))))) (raised_mono X') fun h'' X'' => ?_
            exact hexc e h'' _ mA c tc hnx X'' hc
    · rw [Int.toNat_natCast] at hv4
      refine caught0 (N := 50) (fI := 48) (ch := []) (B.push F3 ?hk).stack (X'.1.frames (B.push F3 ?hk).frames fun _ _ q => nomatch q) rfl X' (fun h2 T2 K2 n1 n2 F2 => ?_) ?hE
      case hk => rfl
      case hE => passes_own
      obtain ⟨g2, T2', Fg2, Bg2, Xg2, Tg2⟩ := reground F3 B C.kin C.top K2 (fun _ q => nomatch q)
      have Ng2 : News g2 L h2 [] := fun _ q => nomatch q
      k_steps
      refine ⟨rfl, rfl, short_cls (Xg2.keeps Fg2.keep), fun h3 K3 F5 => ?_⟩
      obtain ⟨g3, T3', Fg3, Bg3, Xg3, Tg3⟩ := reground F3 B C.kin C.top K3 (fun _ q => nomatch q)
      have Ng3 := news_turn N3 T3' (fun p hp => K3.get (N3 p hp).1 (not_adr B N3 hp) fun q => nomatch q)
      k_steps
      (with_reducible rename Fr g3 _ _ _ => F4)
      dsimp only
      exact hmore _ _ (next_more2 hv0 hv4) ((G.turn T3').keep F4 (two_ex Ng3 (.tail _ (.head _)) (.tail _ (.tail _ (.head _))))) (Ng3 _ (.tail _ (.head _))).1 (Ng3 _ (.tail _ (.tail _ (.head _)))).1
  · have hv0 : varintOf ks 0 = none := hv
    refine caught0 (N := 50) (fI := 48) (ch := []) (B.push F ?hk).stack (X'.1.frames (B.push F ?hk).frames fun _ _ q => nomatch q) rfl X' (fun h2 T2 K2 n1 n2 F2 => ?_) ?hE
    case hk => rfl
    case hE => passes_own
    obtain ⟨g2, T2', Fg2, Bg2, Xg2, Tg2⟩ := reground F B C.kin C.top K2 (fun _ q => nomatch q)
    have Ng2 : News g2 L h2 [] := fun _ q => nomatch q
    k_steps
    refine ⟨rfl, rfl, short_cls (Xg2.keeps Fg2.keep), fun h3 K3 F3 => ?_⟩
    obtain ⟨g3, T3', Fg3, Bg3, Xg3, Tg3⟩ := reground F B C.kin C.top K3 (fun _ q => nomatch q)
    have Ng3 := news_turn N T3' (fun p hp => K3.get (N p hp).1 (not_adr B N hp) fun q => nomatch q)
    k_steps
    (with_reducible rename Fr g3 _ _ _ => F4)
    refine hmore _ _ ?_ ((G.turn T3').keep F4 (two_ex Ng3 m1 m2)) (Ng3 _ m1).1 (Ng3 _ m2).1
    unfold nextOf
    rw [hv0]
end
end Mine
end

section
open PySem PySem.W PySem.Calls PyProof.Rows PySem.Spec
namespace Mine

/-- what a take gives: the frames, the octets that rest, a refusal's code -/
inductive Takes : List Int → List Dat → List Int → Option Int → Prop
  | stop {ks : List Int} : nextOf ks = .more → Takes ks [] ks none
  | bad {ks : List Int} {c : Int} : nextOf ks = .bad c → Takes ks [] ks (some c)
  | step {ks ks' rest : List Int} {d : Dat} {ds : List Dat} {r : Option Int} : nextOf ks = .got d ks' → Takes ks' ds rest r → Takes ks (d :: ds) rest r

/-- the frame that the loop holds, and what is to come -/
def At (fv : Value) (nw : List (Addr × Obj)) (ks : List Int) (ds : List Dat) (rest : List Int) (r : Option Int) : Prop :=
  (fv = .none ∧ ds = [] ∧ ks = rest ∧ r = none) ∨ ∃ a d ds', fv = .ref a ∧ DatIn nw fv d ∧ ds = d :: ds' ∧ Takes ks ds' rest r

theorem onlyR_tuple {nm : String} {ks : List Int} {d : Dat} (h : onlyR nm ks = .frame d) : ∃ ds, d = .tuple ds := by
  unfold onlyR at h
  split at h
  · cases h; exact ⟨_, rfl⟩
  · cases h
theorem payload_tuple {k : Int} {ks : List Int} {d : Dat} (h : payloadOf k ks = .frame d) : ∃ ds, d = .tuple ds := by
  unfold payloadOf at h
  split at h
  · cases h; exact ⟨_, rfl⟩
  split at h
  · cases h; exact ⟨_, rfl⟩
  split at h
  · unfold settingsOf at h
    split at h
    · split at h
      · split at h
        · cases h
        · cases h; exact ⟨_, rfl⟩
      · cases h
    · split at h <;> cases h
    · cases h
  split at h
  · split at h
    · cases h; exact ⟨_, rfl⟩
    · cases h
  split at h
  · exact onlyR_tuple h
  split at h
  · exact onlyR_tuple h
  split at h
  · exact onlyR_tuple h
  · cases h; exact ⟨_, rfl⟩
theorem next_got {ks ks' : List Int} {d : Dat} (h : nextOf ks = .got d ks') : (∃ ds, d = .tuple ds) ∧ ∃ n, ks' = ks.drop n := by
  unfold nextOf at h
  split at h
  · cases h
  split at h
  · cases h
  split at h
  · cases h
  split at h
  · cases h
  split at h
  · cases h
  split at h
  · rename_i q
    cases h
    exact ⟨payload_tuple q, _, rfl⟩
  · cases h
  · cases h

theorem next_take {w : World} {base : Heap} {mean : ExcName → Option Value} {mg mb : Str → Option Value} {dp un : Nat} {gd : Option (List Code)} {l : List Env} {n : Nat} {s : Shared} {R : Result → Shared → Prop}
    {x dx : Addr} {k1 k2 t tb : Tok} {b : Array UInt8} {ks rest : List Int} {ds : List Dat} {r : Option Int} (T : Takes ks ds rest r)
    (C : Cx w base mean mg mb (ar dp un gd l) l (n + 14) s.heap) (ho : Own base l s.heap [(x, instObj 139 dx), (dx, strmD w k1 k2 t b tb)]) (hlt : @LT.lt Nat _ dx x) (hB : KBw.bInts b = ks) (hks : ks.length < 1000)
    (hret : ∀ fv nw h' tk' b' tb' ks', At fv nw ks' ds rest r → ks'.length < 1000 → Laid s.heap h' nw → Keep (adrs l) [x, dx] s.heap h' → h'.get? x = some (instObj 139 dx) → h'.get? dx = some (strmD w k1 k2 t b' tb') → KBw.bInts b' = ks' → R (.ok (.ret fv)) { s with heap := h', toks := tk' })
    (hexc : ∀ e h' tk' mA c tc, ds = [] → r = some c → Raised (adrs l) [x, dx] s.heap h' e 31 mA → mA (Str.ofString "code") = some (.int c tc) → R (.error (.ref e)) { s with heap := h', toks := tk' }) :
    codeAny (model PG w) (ar dp un gd l) (.call (.ref 129) ⟨[.ref x], []⟩) R s := by
  refine next_spec C ho hlt hB hks (fun q => ?_) (fun h' tk' hn K e1 e2 => ?_) (fun v d nw h' tk' b' tb' ks' hn D Lw K e1 e2 hB' => ?_) (fun e h' tk' mA c tc hn X hc => ?_)
  · cases T with
    | stop h => rw [h] at q; cases q
    | bad h => rw [h] at q; cases q
    | step h _ => rw [h] at q; cases q
  · cases T with
    | stop h => exact hret _ [] h' tk' b tb ks (.inl ⟨rfl, rfl, rfl, rfl⟩) hks (fun _ q => nomatch q) K e1 e2 hB
    | bad h => rw [h] at hn; cases hn
    | step h _ => rw [h] at hn; cases hn
  · cases T with
    | stop h => rw [h] at hn; cases hn
    | bad h => rw [h] at hn; cases hn
    | step h T' =>
      rw [h] at hn
      cases hn
      obtain ⟨⟨es, rfl⟩, m, rfl⟩ := next_got h
      have hv : ∃ a, v = .ref a := by cases D; exact ⟨_, rfl⟩
      obtain ⟨a, rfl⟩ := hv
      exact hret _ nw h' tk' b' tb' _ (.inr ⟨a, _, _, rfl, D, rfl, T'⟩) (by simp; omega) Lw K e1 e2 hB'
  · cases T with
    | stop h => rw [h] at hn; cases hn
    | bad h => rw [h] at hn; cases hn; exact hexc e h' tk' mA _ tc rfl rfl X hc
    | step h _ => rw [h] at hn; cases hn

section
variable {prog : Program} {w : World} {A : Around} {E : Value → Shared → Prop} {env : Env} {test : PySem.Expr} {body orelse : List Stmt} {Q : Flow → Shared → Prop}
theorem while_ind {α : Type} {I : List α → Shared → Prop} (hE : PassesOwn (model prog w) A env E)
    (step : ∀ cur s, (∀ cur' s', cur'.length < cur.length → I cur' s' → Halt (WhlRest prog w A E env test body orelse Q 0 s')) → I cur s →
      wpAny (model prog w) A (isTrue test env (eval test env)) (fun b s₂ => WhlIf b (wpAny (model prog w) A (execs body env) (fun f s₃ => match f with | .next => Halt (WhlRest prog w A E env test body orelse Q 0 s₃) | .cont => Halt (WhlRest prog w A E env test body orelse Q 0 s₃) | .brk => Q .next s₃ | .ret v => Q (.ret v) s₃) E s₂) (wpAny (model prog w) A (execs orelse env) Q E s₂)) E s) :
    ∀ cur s, I cur s → WhlRest prog w A E env test body orelse Q 0 s := by
  intro cur
  have : ∀ n (cur : List α), cur.length ≤ n → ∀ s, I cur s → WhlRest prog w A E env test body orelse Q 0 s := by
    intro n
    induction n with
    | zero =>
      intro cur hl s hi
      refine whl_turn (k := 0) hE (wpAny_mono (step cur s (fun cur' s' h => absurd h (by omega)) hi) (fun b s₂ h => ?_) fun _ _ z => z)
      unfold WhlIf at h ⊢
      split
      · rename_i hb
        rw [if_pos hb] at h
        exact wpAny_mono h (fun f s₃ q => by cases f <;> exact q) fun _ _ z => z
      · rename_i hb
        rw [if_neg hb] at h
        exact h
    | succ n ih =>
      intro cur hl s hi
      refine whl_turn (k := 0) hE (wpAny_mono (step cur s (fun cur' s' h hi' => ih cur' (by omega) s' hi') hi) (fun b s₂ h => ?_) fun _ _ z => z)
      unfold WhlIf at h ⊢
      split
      · rename_i hb
        rw [if_pos hb] at h
        exact wpAny_mono h (fun f s₃ q => by cases f <;> exact q) fun _ _ z => z
      · rename_i hb
        rw [if_neg hb] at h
        exact h
  exact this _ cur (Nat.le_refl _)
end
theorem own_of {A : Around} {base g h : Heap} {l : List Env} {L : Addr} {news own : List (Addr × Obj)} {name : Str} {scope : Scope} {a : Addr} {cd : Value} (B : Below A base l g) (N : News g L h news) (sub : ∀ p ∈ own, p ∈ news) : Own base (envOf name scope L a cd :: l) h own := fun p hp => by
  refine ⟨(N p (sub p hp)).1, ?_, not_adr B N (sub p hp)⟩
  cases q : base.get? p.1 with
  | none => rfl
  | some o => have := B.stays _ _ q; rw [(N p (sub p hp)).2.2] at this; cases this
/-- the ledger behind a call: what stood, what the call has changed, what it has made -/
theorem news_call {g g' h h' : Heap} {L : Addr} {m : Str → Option Value} {news nw : List (Addr × Obj)} {fs : List Addr} (F : Fr g L h m) (T : KtsTurn fs g g') (N : ∀ p ∈ news, h'.get? p.1 = some p.2 ∧ p.1 ≠ L ∧ g.get? p.1 = none) (Lw : Laid h h' nw) : News g' L h' (news ++ nw) := fun p hp => by
  rcases List.mem_append.mp hp with hp | hp
  · exact ⟨(N p hp).1, (N p hp).2.1, T.none_ _ (N p hp).2.2⟩
  · obtain ⟨a, b⟩ := Lw p hp
    refine ⟨b, fun q => ?_, T.none_ _ ?_⟩
    · obtain ⟨_, _, _, eL, _⟩ := F.ns
      rw [q, eL] at a; cases a
    · cases q : g.get? p.1 with
      | none => rfl
      | some o => rw [F.keep _ _ q] at a; cases a
end Mine
end

section
open PySem PySem.W PySem.Calls PyProof.Rows PySem.Spec
namespace Mine
theorem At.mono {fv : Value} {nw nw' : List (Addr × Obj)} {ks rest : List Int} {ds : List Dat} {r : Option Int} (h : At fv nw ks ds rest r) (hs : ∀ p ∈ nw, p ∈ nw') : At fv nw' ks ds rest r :=
  h.imp id fun ⟨a, d, ds', e, D, q⟩ => ⟨a, d, ds', e, D.mono hs, q⟩
theorem fr_same {g h : Heap} {L : Addr} {m m' : Str → Option Value} (F : Fr g L h m) (e : ∀ y, m y = m' y) : Fr g L h m' := by rw [← funext e]; exact F
theorem three {g h h' : Heap} {L D x dx : Addr} {fs : List Addr} {oD o o' : Obj} {news : List (Addr × Obj)} (N : News g L h ((D, oD) :: (x, instObj 139 dx) :: (dx, o) :: news)) (K : Keep fs [x, dx] h h') (hfs : D ∉ fs) (n1 : D ≠ x) (n2 : D ≠ dx) (e1 : h'.get? x = some (instObj 139 dx)) (e2 : h'.get? dx = some o')
    (hk : ∀ p ∈ news, h'.get? p.1 = some p.2) :
    ∀ p ∈ (D, oD) :: (x, instObj 139 dx) :: (dx, o') :: news, h'.get? p.1 = some p.2 ∧ p.1 ≠ L ∧ g.get? p.1 = none := fun p hp => by
  rcases List.mem_cons.mp hp with rfl | hp
  · exact ⟨K.get (N _ (.head _)).1 hfs (by simp [n1, n2]), (N _ (.head _)).2⟩
  rcases List.mem_cons.mp hp with rfl | hp
  · exact ⟨e1, (N _ (.tail _ (.head _))).2⟩
  rcases List.mem_cons.mp hp with rfl | hp
  · exact ⟨e2, (N (dx, o) (.tail _ (.tail _ (.head _)))).2⟩
  · exact ⟨hk p hp, (N p (.tail _ (.tail _ (.tail _ hp)))).2⟩
/-- what holds at each turn of take's loop -/
inductive TakeJ (w : World) (base : Heap) (l : List Env) (dp un : Nat) (gd : Option (List Code)) (s : Shared) (g : Heap) (L D x dx : Addr) (b2 : Array UInt8) (t2 k1 k2 t : Tok) (ds : List Dat) (rest : List Int) (r : Option Int) (cur : List Dat) (s' : Shared) : Prop
  | mk (dn : List Dat) (fv : Value) (ks' : List Int) (b' : Array UInt8) (tb' : Tok) (g2 h2 : Heap) (tk2 : Nat) (vs : List Value) (nn : Nat) (nws : List (Addr × Obj)) (e : s' = { s with heap := h2, toks := tk2 }) (hcat : dn ++ cur = ds) (hAt : At fv nws ks' cur rest r) (hks : ks'.length < 1000) (hB : KBw.bInts b' = ks') (hD : DatAll nws vs dn)
      (hoff : ∀ p ∈ nws, p.1 ≠ D ∧ s.heap.get? p.1 = none) (T2 : KtsTurn (adrs l) g g2) (B2 : Below (ar dp un gd l) base l g2)
      (F2 : Fr g2 L h2 (fun y => if y = Str.ofString "frame" then some fv else if y = Str.ofString "found" then some (Value.ref D) else List.lookup y [(Str.ofString "self", Value.ref x), (Str.ofString "data", Value.bytes b2 t2)].reverse))
      (N2 : News g2 L h2 ((D, W.listOf vs.toArray nn) :: (x, instObj 139 dx) :: (dx, strmD w k1 k2 t b' tb') :: nws)) : TakeJ w base l dp un gd s g L D x dx b2 t2 k1 k2 t ds rest r cur s'
section
local macro_rules | `(tactic| walk_at "call builtin:list.append") => `(tactic| (refine Halt.mk ?_))
local macro_rules | `(tactic| walk_at "WhlRest") => `(tactic| (refine Halt.mk ?_))
local macro_rules | `(tactic| walk_at "call ref") => `(tactic| ((with_reducible show wpAny _ _ (call (Value.ref 129) _) _ _ _); (refine Halt.mk ?_)))
local macro_rules | `(tactic| walk_at "exec While Compare") => `(tactic| (refine Halt.mk ?_))
set_option maxHeartbeats 4000000 in
theorem take_spec {w : World} {base : Heap} {mean : ExcName → Option Value} {mg mb : Str → Option Value} {dp un : Nat} {gd : Option (List Code)} {l : List Env} {n : Nat} {s : Shared} {R : Result → Shared → Prop}
    {x dx : Addr} {k1 k2 t tb t2 : Tok} {b b2 : Array UInt8} {ks ls rest : List Int} {ds : List Dat} {r : Option Int} (T : Takes (ks ++ ls) ds rest r) (hds : ds.length < 1000)
    (C : Cx w base mean mg mb (ar dp un gd l) l (n + 16) s.heap) (ho : Own base l s.heap [(x, instObj 139 dx), (dx, strmD w k1 k2 t b tb)]) (hlt : @LT.lt Nat _ dx x) (hB : KBw.bInts b = ks) (hB2 : KBw.bInts b2 = ls) (hks : ks.length + ls.length < 1000)
    (hret : ∀ D vs nn nw h' tk' b' tb', r = none → DatAll nw vs ds → s.heap.get? D = none → h'.get? D = some (listOf vs.toArray nn) → Laid s.heap h' nw → Keep (adrs l) [x, dx] s.heap h' → h'.get? x = some (instObj 139 dx) → h'.get? dx = some (strmD w k1 k2 t b' tb') → KBw.bInts b' = rest → R (.ok (.ret (.ref D))) { s with heap := h', toks := tk' })
    (hexc : ∀ e h' tk' mA c tc, r = some c → Raised (adrs l) [x, dx] s.heap h' e 31 mA → mA (Str.ofString "code") = some (.int c tc) → R (.error (.ref e)) { s with heap := h', toks := tk' }) :
    codeAny (model PG w) (ar dp un gd l) (.call (.ref 122) ⟨[.ref x, .bytes b2 t2], []⟩) R s := by
  refine enter (news := [(x, instObj 139 dx), (dx, strmD w k1 k2 t b tb)]) C ho (by k_is) (by k_is) (binds := [(Str.ofString "self", Value.ref x), (Str.ofString "data", Value.bytes b2 t2)]) (BindsTo.of_eq rfl) (locs rfl) (fun g L h₁ hg hg' hsz hL F N B X T0 => ?_) (by decide)
  have hL0 : s.heap.get? L = none := by rw [hL]; exact Heap.get?_none_of_le (Nat.le_refl _)
  have G := Gro.of_all (fs := adrs l) (ch := [x, dx]) hg
  k_steps
  (with_reducible rename Fr _ _ _ _ => F1); (with_reducible rename News _ _ _ _ => N1)
  rename_i tt kk hBB hh1 D hh2 hlts hh3
  have nDx : D ≠ x := Nat.ne_of_gt hlts.1
  have nDd : D ≠ dx := Nat.ne_of_gt hlts.2
  refine wpAny_call (next_take (n := n + 1) T (C.deeper B F1 ?hk) (own_of B N1 (fun p hp => .tail _ hp)) hlt hBB (by simpa using hks) (fun fv nw h2 tk2 b2' tb2 ks2 hAt hks2 Lw2 K2 e1 e2 hB2' => ?_) (fun e h2 tk2 mA c tc hd hr X2 hc => ?_))
  case hk => rfl
  · obtain ⟨g2, T2, F2, B2, X2, Tg2⟩ := reground F1 B C.kin C.top K2 (fun b hb => (two_off N1 (.tail _ (.head _)) (.tail _ (.tail _ (.head _))) b hb).symm)
    have N2 : News g2 L h2 ((D, W.listOf #[] 0) :: (x, instObj 139 dx) :: (dx, strmD w k1 k2 t b2' tb2) :: nw) := news_call F1 T2 (three N1 K2 (not_adr B N1 (.head _)) nDx nDd e1 e2 (fun _ q => nomatch q)) Lw2
    have hoff : ∀ p ∈ nw, p.1 ≠ D ∧ s.heap.get? p.1 = none := fun p hp => by
      have a := (Lw2 p hp).1
      refine ⟨fun q => ?_, (G.keep F1 (two_ex N1 (.tail _ (.head _)) (.tail _ (.tail _ (.head _))))).old a⟩
      rw [q, (N1 _ (.head _)).1] at a; cases a
    have hDnone : s.heap.get? D = none := by
      cases q : s.heap.get? D with
      | none => rfl
      | some o => have := (N1 _ (.head _)).2.2; rw [hg _ _ q (by simp [nDx, nDd])] at this; cases this
    clear Lw2 K2 e1 e2 N1 F1
    k_steps
    (with_reducible rename Fr _ _ _ _ => F3); (with_reducible rename News _ _ _ _ => N3)
    refine whl_start 0 (while_ind (I := TakeJ w base l dp un gd s g L D x dx b2 t2 k1 k2 t ds rest r) ?hE ?step ds _ ⟨[], fv, ks2, b2', tb2, g2, _, _, [], 0, nw, rfl, rfl, hAt, hks2, hB2', .nil, hoff, T2, B2, F3, N3⟩)
    case hE => first | passes_own | with_unfolding_all passes_own
    case step =>
      clear F3 N3 hoff hAt hB2' Tg2 X2 T2 B2
      rintro cur s' IH ⟨dn, fv, ks', b', tb', g2, h2, tk2, vs, nn, nws, rfl, hcat, hAt, hks', hB', hD, hoff, T2, B2, F2, N2⟩
      have X2 := C.kin.keeps B2.stays
      have Tg2 := C.top.keeps B2.stays
      rcases hAt with ⟨rfl, rfl, rfl, rfl⟩ | ⟨a, d, ds', rfl, Da, rfl, T'⟩
      · k_steps
        (with_reducible rename Fr _ _ _ _ => F3); (with_reducible rename News _ _ _ _ => N3)
        dsimp only
        rw [List.append_nil] at hcat
        subst hcat
        exact hret D vs nn nws _ _ b' tb' rfl hD hDnone (N3 _ (.head _)).1 (fun p hp => ⟨(hoff p hp).2, (N3 p (.tail _ (.tail _ (.tail _ hp)))).1⟩) ((G.turn T2).keep F3 (two_ex N3 (.tail _ (.head _)) (.tail _ (.tail _ (.head _))))) (N3 _ (.tail _ (.head _))).1 (N3 _ (.tail _ (.tail _ (.head _)))).1 hB'
      · k_steps
        (with_reducible rename Fr _ _ _ _ => F3); (with_reducible rename News _ _ _ _ => N3)
        have hvs := hD.length
        have hcl : dn.length + (ds'.length + 1) = ds.length := by rw [← hcat]; simp
        refine append_K F3 N3 (Upd.head (fun p hp => ?hp)) (fun h5 F5 N5 => ?_) (by rw [PySem.sizeLine_eq]; simp; omega)
        case hp =>
          rcases List.mem_cons.mp hp with rfl | hp
          · exact nDx.symm
          rcases List.mem_cons.mp hp with rfl | hp
          · exact nDd.symm
          · exact (hoff p hp).1
        clear F3 N3
        k_steps
        (with_reducible rename Fr _ _ _ _ => F5); (with_reducible rename News _ _ _ _ => N5)
        refine wpAny_call (next_take (n := n + 1) T' (C.deeper B2 F5 ?hk) (own_of B2 N5 (fun p hp => by
          rcases List.mem_cons.mp hp with rfl | hp
          · exact .tail _ (.head _)
          · rw [List.mem_singleton.mp hp]; exact .tail _ (.tail _ (.head _)))) hlt hB' hks' (fun fv6 nw6 h6 tk6 b6 tb6 ks6 hAt6 hks6 Lw6 K6 e1 e2 hB6 => ?_) (fun e h6 tk6 mA c tc hd hr X6 hc => ?_))
        case hk => rfl
        · obtain ⟨g6, T6, F6, B6, X6, Tg6⟩ := reground F5 B2 C.kin C.top K6 (fun b hb => (two_off N5 (.tail _ (.head _)) (.tail _ (.tail _ (.head _))) b hb).symm)
          have N6 : News g6 L h6 ((D, W.listOf (vs.toArray.push (.ref a)) (nn + 1)) :: (x, instObj 139 dx) :: (dx, strmD w k1 k2 t b6 tb6) :: (nws ++ nw6)) := news_call F5 T6 (three N5 K6 (not_adr B2 N5 (.head _)) nDx nDd e1 e2 (fun p hp => K6.get (N5 p (.tail _ (.tail _ (.tail _ hp)))).1 (not_adr B2 N5 (.tail _ (.tail _ (.tail _ hp)))) (fun m => by
            have a := (N5 p (.tail _ (.tail _ (.tail _ hp)))).1
            have a2 := (hoff p hp).2
            rcases List.mem_cons.mp m with m | m
            · rw [m, (ho _ (.head _)).1] at a2; cases a2
            · rw [List.mem_singleton.mp m, (ho _ (.tail _ (.head _))).1] at a2; cases a2))) Lw6
          have hoff6 : ∀ p ∈ nws ++ nw6, p.1 ≠ D ∧ s.heap.get? p.1 = none := fun p hp => by
            rcases List.mem_append.mp hp with hp | hp
            · exact hoff p hp
            · have a := (Lw6 p hp).1
              refine ⟨fun q => ?_, ((G.turn T2).keep F5 (two_ex N5 (.tail _ (.head _)) (.tail _ (.tail _ (.head _))))).old a⟩
              rw [q, (N5 _ (.head _)).1] at a; cases a
          clear Lw6 K6 e1 e2 N5 F5
          k_steps
          (with_reducible rename Fr _ _ _ _ => F7); (with_reducible rename News _ _ _ _ => N7)
          exact IH ds' _ (by simp) ⟨dn ++ [d], fv6, ks6, b6, tb6, g6, _, _, vs ++ [.ref a], nn + 1, nws ++ nw6, rfl, by rw [← hcat]; simp, hAt6.mono (fun p hp => List.mem_append.mpr (.inr hp)), hks6, hB6, (hD.mono fun p hp => List.mem_append.mpr (.inl hp)).append (.one (Da.mono fun p hp => List.mem_append.mpr (.inl hp))), hoff6, T2.trans T6, B6, fr_same F7 (fun y => by by_cases q : y = Str.ofString "frame" <;> simp [q]), by simpa using N7⟩
        · refine leaves_out (ch := [x, dx]) (G.turn T2) F5 B2 hL0 (two_ex N5 (.tail _ (.head _)) (.tail _ (.tail _ (.head _)))) (two_off N5 (.tail _ (.head _)) (.tail _ (.tail _ (.head _)))) X6 fun h'' X'' => ?_
          exact hexc e h'' _ mA c tc hr X'' hc
  · refine leaves_out (ch := [x, dx]) G F1 B hL0 (two_ex N1 (.tail _ (.head _)) (.tail _ (.tail _ (.head _)))) (two_off N1 (.tail _ (.head _)) (.tail _ (.tail _ (.head _)))) X2 fun h'' X'' => ?_
    exact hexc e h'' _ mA c tc hr X'' hc
end
end Mine
end

section
open PySem PySem.W PySem.Calls PyProof.Rows PySem.Spec
namespace Mine

/-- the box of draws: the script's list and the draws so far -/
abbrev boxO (lst : Addr) (k : Int) (t : Tok) (nb : Nat) : Obj := W.listOf [Value.ref lst, Value.int k t].toArray nb
theorem list_in {h g : Heap} {lst box : Addr} {a : Array Value} {o : Obj} (hl : h.IsList lst a) (hg : ∀ b o', h.get? b = some o' → b ∉ ([(box, o)] : List (Addr × Obj)).map (·.1) → g.get? b = some o') (ne : lst ≠ box) : g.IsList lst a := by
  obtain ⟨q, e, r⟩ := hl
  exact ⟨q, hg _ _ e (by simpa using ne), r⟩
theorem list_up {g h : Heap} {L lst : Addr} {a : Array Value} {m : Str → Option Value} (hl : g.IsList lst a) (F : Fr g L h m) : h.IsList lst a := by
  obtain ⟨q, e, r⟩ := hl
  exact ⟨q, F.keep _ _ e, r⟩
theorem one_ex {g h : Heap} {L a : Addr} {o : Obj} {news : List (Addr × Obj)} (N : News g L h news) (m : (a, o) ∈ news) : ∀ b ∈ [a], ∃ o, h.get? b = some o := fun b hb => by
  rw [List.mem_singleton.mp hb]; exact ⟨_, (N _ m).1⟩
section
set_option maxHeartbeats 4000000 in
theorem drawn_spec {w : World} {base : Heap} {mean : ExcName → Option Value} {mg mb : Str → Option Value} {A : Around} {l : List Env} {n : Nat} {s : Shared} {R : Result → Shared → Prop}
    {box lst : Addr} {vs : List Value} {ns : List Int} {k many : Int} {t tm : Tok} {nb : Nat}
    (C : Cx w base mean mg mb A l (n + 1) s.heap) (hb : Own base l s.heap [(box, boxO lst k t nb)]) (hl : s.heap.IsList lst vs.toArray) (ne : lst ≠ box)
    (hi : IntsAre vs ns) (hlen : ns.length ≤ 2 ^ 20) (hk : 0 ≤ k) (hk2 : k < 1000) (hm : 0 < many) (hm2 : many < 1000)
    (hret : ∀ d u t' h' tk', 0 ≤ d → d < many → Keep [] [box] s.heap h' → h'.get? box = some (boxO lst (k + 1) t' nb) → R (.ok (.ret (.int d u))) { s with heap := h', toks := tk' }) :
    codeAny (model PG w) A (.call (.ref 150) ⟨[.ref box, .int many tm], []⟩) R s := by
  refine enter C hb (by k_is) (by k_is) (binds := [(Str.ofString "box", Value.ref box), (Str.ofString "many", Value.int many tm)]) (BindsTo.of_eq rfl) (locs rfl) (fun g L h₁ hg hg' hsz hL F N B X T => ?_) (by decide)
  have hgl := list_in hl hg ne
  k_steps
  all_goals ((with_reducible rename Fr _ _ _ _ => F'); (with_reducible rename News _ _ _ _ => N'); dsimp only at F' N' ⊢; refine hret _ _ _ _ _ ?_ ?_ (keep_fr hg F' (one_ex N' (.head _))) (N' _ (.head _)).1)
  all_goals first | exact Int.emod_nonneg _ (by omega) | exact Int.emod_lt_of_pos _ hm | exact Int.fmod_nonneg_of_pos _ hm | exact Int.fmod_lt_of_pos _ hm
end
end Mine
end

section
open PySem PySem.W PySem.Calls PyProof.Rows PySem.Spec
namespace Mine

def headOf (kind : Int) (wide : Int) (size : Int) : List Int := (if wide = 0 then [kind] else if wide = 1 then [64, kind] else [128, 0, 0, kind]) ++ [size]
theorem head_in {kind wide size : Int} (hk : 0 ≤ kind) (hk2 : kind < 64) (hs : 0 ≤ size) (hs2 : size < 64) : KBa.In (headOf kind wide size) := by
  intro n hn
  unfold headOf at hn
  rcases List.mem_append.mp hn with hn | hn
  · split at hn
    · rw [List.mem_singleton.mp hn]; omega
    · split at hn
      · simp only [List.mem_cons, List.not_mem_nil, or_false] at hn; omega
      · simp only [List.mem_cons, List.not_mem_nil, or_false] at hn; omega
  · rw [List.mem_singleton.mp hn]; omega
section
set_option maxHeartbeats 4000000 in
theorem head_spec {w : World} {base : Heap} {mean : ExcName → Option Value} {mg mb : Str → Option Value} {dp un : Nat} {gd : Option (List Code)} {l : List Env} {n : Nat} {s : Shared} {R : Result → Shared → Prop}
    {kind wide size : Int} {t1 t2 t3 : Tok}
    (C : Cx w base mean mg mb (ar dp un gd l) l (n + 1) s.heap) (hk : 0 ≤ kind) (hk2 : kind < 64) (hw : 0 ≤ wide) (hw2 : wide < 3) (hs : 0 ≤ size) (hs2 : size < 64)
    (hret : ∀ b t' h' tk', KBw.bInts b = headOf kind wide size → Keep [] [] s.heap h' → R (.ok (.ret (.bytes b t'))) { s with heap := h', toks := tk' }) :
    codeAny (model PG w) (ar dp un gd l) (.call (.ref 157) ⟨[.int kind t1, .int wide t2, .int size t3], []⟩) R s := by
  refine enter (news := []) C (fun _ q => nomatch q) (by k_is) (by k_is) (binds := [(Str.ofString "kind", Value.int kind t1), (Str.ofString "wide", Value.int wide t2), (Str.ofString "size", Value.int size t3)]) (BindsTo.of_eq rfl) (locs rfl) (fun g L h₁ hg hg' hsz hL F N B X T => ?_) (by decide)
  k_steps
  · (with_reducible rename Fr _ _ _ _ => F'); (with_reducible rename wide = _ => hwd)
    subst hwd
    exact hret (byteArr (headOf kind 0 size)) _ _ _ (KBa.ints_make (head_in hk hk2 hs hs2)) (keep_fr hg F' fun _ q => nomatch q)
  · (with_reducible rename Fr _ _ _ _ => F'); (with_reducible rename wide = _ => hwd)
    subst hwd
    exact hret (byteArr (headOf kind 1 size)) _ _ _ (KBa.ints_make (head_in hk hk2 hs hs2)) (keep_fr hg F' fun _ q => nomatch q)
  · (with_reducible rename Fr _ _ _ _ => F'); (with_reducible rename wide = _ => hwd)
    subst hwd
    exact hret (byteArr (headOf kind 2 size)) _ _ _ (KBa.ints_make (head_in hk hk2 hs hs2)) (keep_fr hg F' fun _ q => nomatch q)
end
end Mine
end

section
open PySem PySem.W PySem.Calls PyProof.Rows PySem.Spec
namespace Mine
/-- a statement that goes on, in a state that J tells -/
def Joined (J : Shared → Prop) (f : Flow) (s : Shared) : Prop := f = .next ∧ J s
section
variable {M : Model} {A : Around} {E : Value → Shared → Prop} {s : Shared} {t : Sem Flow} {Q : Flow → Shared → Prop} {st : Stmt} {rest : List Stmt} {env : Env}
theorem join_next (J : Shared → Prop) (h : wpAny M A t (Joined J) E s) (h2 : ∀ s', J s' → Q .next s') : wpAny M A t Q E s :=
  wpAny_mono h (fun f s' ⟨e, j⟩ => by subst e; exact h2 s' j) fun _ _ z => z
/-- two statements, then a state that J tells -/
theorem join_two (J : Shared → Prop) (h : wpAny M A t (Joined fun s' => wpAny M A (exec st env) (Joined J) E s') E s) (h2 : ∀ s', J s' → wpAny M A (execs rest env) Q E s') : wpAny M A t (fun f s' => match f with | .next => wpAny M A (execs (st :: rest) env) Q E s' | f => Q f s') E s :=
  join_next _ h fun s' h' => wpAny_execs_cons (join_next J h' fun s'' j => h2 s'' j)
theorem join_at {α : Type} {t : Sem α} {Q : α → Shared → Prop} (J : α → Shared → Prop) (h : wpAny M A t J E s) (h2 : ∀ v s', J v s' → Q v s') : wpAny M A t Q E s := wpAny_mono h h2 fun _ _ z => z
theorem fold_fr {g h : Heap} {L : Addr} {m : Str → Option Value} {news : List (Addr × Obj)} {P : Prop} (F : Fr g L h m) (N : News g L h news) (k : let m' := m; let n' := news; Fr g L h m' → News g L h n' → P) : P := k F N
theorem fold_wp {α : Type} {t : Sem α} {Q : α → Shared → Prop} (h : let A' := A; let Q' := Q; let E' := E; wpAny M A' t Q' E' s) : wpAny M A t Q E s := h
end
/-- a name has been given a bool of which P holds; all else stays -/
inductive FlagJ (s : Shared) (g : Heap) (L : Addr) (m : Str → Option Value) (x : Str) (news : List (Addr × Obj)) (P : Bool → Prop) (s' : Shared) : Prop
  | mk (b : Bool) (h2 : Heap) (tk2 : Nat) (e : s' = { s with heap := h2, toks := tk2 }) (hP : P b) (F : Fr g L h2 (fun y => if y = x then some (Value.bool b) else m y)) (N : News g L h2 news) : FlagJ s g L m x news P s'
theorem join_flag {M : Model} {A : Around} {E : Value → Shared → Prop} {s : Shared} {t : Sem Flow} {Q : Flow → Shared → Prop} {g h0 : Heap} {L : Addr} {m : Str → Option Value} {news : List (Addr × Obj)} (F : Fr g L h0 m) (N : News g L h0 news) (s0 : Shared) (x : Str) (P : Bool → Prop)
    (h : wpAny M A t (Joined (FlagJ s0 g L m x news P)) E s) (h2 : ∀ s', FlagJ s0 g L m x news P s' → Q .next s') : wpAny M A t Q E s := join_next _ h h2
end Mine
end

section
open PySem PySem.W PySem.Calls PyProof.Rows PySem.Spec
namespace Mine
section
variable {g h h' : Heap} {L : Addr} {a b nw : List (Addr × Obj)} {x q r : Addr × Obj}
/-- a ledger of what stands in another, entry by entry -/
theorem nPick (N : News g L h a) (m : x ∈ a) (R : News g L h b) : News g L h (x :: b) := fun p hp => by
  rcases List.mem_cons.mp hp with rfl | hp
  · exact N _ m
  · exact R p hp
theorem nBoth (N : News g L h a) (R : News g L h b) : News g L h (a ++ b) := fun p hp => (List.mem_append.mp hp).elim (N p) (R p)
theorem nLeft (N : News g L h (a ++ b)) : News g L h a := fun p hp => N p (List.mem_append.mpr (.inl hp))
theorem nRight (N : News g L h (a ++ b)) : News g L h b := fun p hp => N p (List.mem_append.mpr (.inr hp))
theorem nOff (N : News g L h' (x :: b)) : News g L h' b := fun p hp => N p (.tail _ hp)
theorem off_new (Lw : Laid h h' nw) (hq : q ∈ nw) (N : News g L h a) (hr : r ∈ a) : q.1 ≠ r.1 := fun e => by
  have e1 := (Lw q hq).1
  rw [e, (N r hr).1] at e1
  cases e1
theorem all_cons {P : Addr × Obj → Prop} {l : List (Addr × Obj)} (h : P x) (t : ∀ q ∈ l, P q) : ∀ q ∈ x :: l, P q := List.forall_mem_cons.mpr ⟨h, t⟩
theorem all_nil {P : Addr × Obj → Prop} : ∀ q ∈ ([] : List (Addr × Obj)), P q := fun _ q => nomatch q
end
end Mine
end

section
open PySem PySem.W PySem.Calls PyProof.Rows PySem.Spec
namespace Mine

section
variable {w : World} {base : Heap} {mean : ExcName → Option Value} {mg mb : Str → Option Value} {A : Around} {l : List Env} {n : Nat} {s : Shared} {news : List (Addr × Obj)}
  {R : Result → Shared → Prop} {name qual : Str} {params : Arguments} {body : List Stmt} {scope : Scope} {dV kV doc pm cdv ct oc : Value} {an od : Option Addr} {osl : Array (Option Value)} {f : Addr} {args : Args} {binds : List (Str × Value)}

/-- a def with cells is entered -/
theorem enterC (C : Cx w base mean mg mb A l n s.heap) (N : Own base l s.heap news)
    (ho : (hd.heap_39 w.params).lookup f = some ⟨oc, od, .func (fnOf name qual params body scope dV kV doc pm an cdv ct), osl⟩) (hcd : codeIn (hd.heap_39 w.params) cdv qual = true)
    (hbind : BindsTo s (fnOf name qual params body scope dV kV doc pm an cdv ct) args binds) (hkind : (binds.all fun y => scope.names.lookup y.1 == some .local || scope.names.lookup y.1 == some .cell) = true)
    (hnd : ((cellsFrom 0 scope.names []).map (·.1)).Nodup)
    (h : ∀ g L h₁ tk cells, (∀ b o, s.heap.get? b = some o → b ∉ news.map (·.1) → g.get? b = some o) → (∀ b o, g.get? b = some o → s.heap.get? b = some o) → g.objs.size = s.heap.objs.size → L = s.heap.objs.size →
      Fr g L h₁ (bindL (envOfC qual scope L f cdv).kindOf binds fun _ => none) → News g L h₁ (cells ++ news) → CellsAre (bindC (envOfC qual scope L f cdv).kindOf binds fun _ => none) (cellsFrom (L + 1) scope.names []) cells →
      Below A base l g → (hd.heap_39 w.params).In g → Top hd.view_39 (looseW hd.view_39 []) mean mg mb g → (∀ p ∈ news, p.1 < L) →
      wpAny (model PG w) (A.deeper (envOfC qual scope L f cdv)) (execs body (envOfC qual scope L f cdv))
        (fun fl s' => R (.ok (.ret (match fl with | .ret v => v | _ => .none))) s')
        (fun e s' => wpAny (model PG w) (A.deeper (envOfC qual scope L f cdv)) (leaving (envOfC qual scope L f cdv) e) (fun _ s'' => R (.error e) s'') (fun e' s'' => R (.error e') s'') s')
        { s with heap := h₁, toks := tk })
    (hco : scope.isCoroutine = false := by rfl) (hgen : scope.isGenerator = false := by rfl) (hk : scope.kind = .function := by rfl) :
    codeAny (model PG w) A (.call (.ref f) args) R s := by
  have st : base.StaysIn (hideAll s.heap (news.map (·.1))) := fun b o e => hideAll_get _ (C.below.stays b o e) fun q => by
    obtain ⟨p, hp, rfl⟩ := List.mem_map.mp q
    rw [(N p hp).2.1] at e; cases e
  have X := C.kin.keeps C.below.stays
  have T := C.top.keeps C.below.stays
  refine codeAny_call_function (fd := fnOf name qual params body scope dV kV doc pm an cdv ct) (by have := C.room; omega) (X _ _ ho) rfl hco hgen rfl (codeRec_of X hcd) (hbind _ _ _ _ ?_)
  refine wpAny_newFunctionEnv_cells hk (kindsX hkind _) fun env' he s' x => ?_
  subst he
  refine ⟨T.nolimit.keeps x.toInCall.keep, codeAny_func ?_⟩
  obtain ⟨h₁, tk, rfl, _⟩ := x.done
  have hk₁ := x.toInCall.keep
  obtain ⟨cells, NC, Y⟩ := Cl.news (h₀ := s.heap) (Nat.le_refl _) fun n c hm => ⟨x.cell n c (lookup_of_mem_nodup (cellsFrom_names scope.names 0 (s.heap.objs.size + 1) [] [] rfl ▸ hnd) hm), x.above n c hm⟩
  refine h (hideAll s.heap (news.map (·.1))) s.heap.objs.size h₁ tk cells (fun b o e q => hideAll_get _ e q) (fun b o e => of_hideAll _ e) (hideAll_size _ _) rfl
    ⟨x.toInCall.ns, fun b o e => hk₁ b o (of_hideAll _ e), Nat.le_of_eq (hideAll_size _ _)⟩ (fun p hp => ?_) Y
    ⟨C.below.stack, st, funFrames_hideAll C.below.frames fun env he b hb hf => ?_⟩ (C.kin.keeps fun b o e => st b o e) (C.top.keeps fun b o e => st b o e) (fun p hp => Heap.lt_size (N p hp).1)
  · rcases List.mem_append.mp hp with hp | hp
    · refine ⟨(NC p hp).1, (NC p hp).2.1, ?_⟩
      cases q : (hideAll s.heap (news.map (·.1))).get? p.1 with
      | none => rfl
      | some o => have := of_hideAll _ q; rw [(NC p hp).2.2] at this; cases this
    · exact ⟨hk₁ _ _ (N p hp).1, Nat.ne_of_lt (Heap.lt_size (N p hp).1), hideAll_none _ (List.mem_map_of_mem hp)⟩
  · obtain ⟨p, hp, rfl⟩ := List.mem_map.mp hb
    exact (N p hp).2.2 (List.mem_filterMap.mpr ⟨env, he, hf⟩)

theorem Cx.deeperC {base g h h' : Heap} {L a : Addr} {m : Str → Option Value} {name : Str} {scope : Scope} {cd : Value} (C : Cx w base mean mg mb A l (n + 1) h) (B : Below A base l g) (F : Fr g L h' m) (hk : scope.kind = .function) :
    Cx w base mean mg mb (A.deeper (envOfC name scope L a cd)) (envOfC name scope L a cd :: l) n h' where
  below := pushX B F rfl hk
  kin := C.kin
  top := C.top
  room := by have := C.room; show A.depth + 1 + n < _; omega
  units := by have := C.units; show A.units + 3 + 16 * n < _; omega
end
theorem not_adrC {A : Around} {base g h : Heap} {l : List Env} {L : Addr} {news : List (Addr × Obj)} {name : Str} {scope : Scope} {a : Addr} {cd : Value} (B : Below A base l g) (N : News g L h news) {p : Addr × Obj} (hp : p ∈ news) : p.1 ∉ adrs (envOfC name scope L a cd :: l) := fun m => by
  have m' : p.1 ∈ L :: adrs l := m
  rcases List.mem_cons.mp m' with q | q
  · exact (N p hp).2.1 q
  · obtain ⟨_, o, ho, _⟩ := B.frames.mem q
    rw [(N p hp).2.2] at ho; cases ho
theorem own_ofC {A : Around} {base g h : Heap} {l : List Env} {L : Addr} {news own : List (Addr × Obj)} {name : Str} {scope : Scope} {a : Addr} {cd : Value} (B : Below A base l g) (N : News g L h news) (sub : ∀ p ∈ own, p ∈ news) : Own base (envOfC name scope L a cd :: l) h own := fun p hp => by
  refine ⟨(N p (sub p hp)).1, ?_, not_adrC B N (sub p hp)⟩
  cases q : base.get? p.1 with
  | none => rfl
  | some o => have := B.stays _ _ q; rw [(N p (sub p hp)).2.2] at this; cases this

theorem drawn_next {g h h' : Heap} {L box : Addr} {m : Str → Option Value} {pre post : List (Addr × Obj)} {o o' : Obj} (F : Fr g L h m) (N : News g L h (pre ++ (box, o) :: post)) (K : Keep [] [box] h h') (e : h'.get? box = some o') (hd : ∀ p ∈ pre ++ post, p.1 ≠ box) :
    Fr g L h' m ∧ News g L h' (pre ++ (box, o') :: post) := by
  have hb := N (box, o) (List.mem_append.mpr (.inr (.head _)))
  refine ⟨fr_keep F K (fun q => hb.2.1 (List.mem_singleton.mp q).symm) (fun b o q m => by rw [List.mem_singleton.mp m, hb.2.2] at q; cases q), fun p hp => ?_⟩
  rcases List.mem_append.mp hp with hp | hp
  · have := N p (List.mem_append.mpr (.inl hp))
    exact ⟨K.get this.1 (fun q => nomatch q) (fun q => hd p (List.mem_append.mpr (.inl hp)) (List.mem_singleton.mp q)), this.2⟩
  rcases List.mem_cons.mp hp with rfl | hp
  · exact ⟨e, hb.2⟩
  · have := N p (List.mem_append.mpr (.inr (.tail _ hp)))
    exact ⟨K.get this.1 (fun q => nomatch q) (fun q => hd p (List.mem_append.mpr (.inr hp)) (List.mem_singleton.mp q)), this.2⟩

def Stopped : Prop := True
/-- a frame that is in order, and its octets -/
def Right (d : Dat) (ks : List Int) : Prop := ∃ kind wide pl, 0 ≤ kind ∧ kind < 64 ∧ kind ∉ ([2, 6, 8, 9] : List Int) ∧ 0 ≤ wide ∧ wide < 3 ∧ pl.length ≤ 20 ∧ KBa.In pl ∧ ks = headOf kind wide (pl.length : Nat) ++ pl ∧ payloadOf kind pl = .frame d
theorem fresh1 {h g h' : Heap} {L a box : Addr} {o ob ob0 : Obj} {news : List (Addr × Obj)} (hg : ∀ b o, h.get? b = some o → b ∉ ([(box, ob0)] : List (Addr × Obj)).map (·.1) → g.get? b = some o) (N : News g L h' news) (m : (a, o) ∈ news) (mb : (box, ob) ∈ news) (hne : o ≠ ob) : h.get? a = none ∧ h'.get? a = some o := by
  refine ⟨?_, (N _ m).1⟩
  cases q : h.get? a with
  | none => rfl
  | some o' =>
    have := (N _ m).2.2
    rw [hg _ _ q (fun z => hne (by
      have e : a = box := by simpa using z
      have a1 := (N _ m).1
      have a2 := (N _ mb).1
      dsimp only at a1 a2
      rw [e, a2] at a1
      exact (Option.some.inj a1).symm))] at this
    cases this
theorem right_data {ps : List Int} {wide : Int} (hp : KBa.In ps) (hl : ps.length ≤ 20) (h0 : 0 ≤ wide) (h1 : wide < 3) : Right (.tuple [.str (Str.ofString "data"), .bytes (byteArr ps)]) (headOf 0 wide (ps.length : Nat) ++ ps) :=
  ⟨0, wide, ps, by decide, by decide, by decide, h0, h1, hl, hp, rfl, rfl⟩
theorem right_headers {ps : List Int} {wide : Int} (hp : KBa.In ps) (hl : ps.length ≤ 20) (h0 : 0 ≤ wide) (h1 : wide < 3) : Right (.tuple [.str (Str.ofString "headers"), .bytes (byteArr ps)]) (headOf 1 wide (ps.length : Nat) ++ ps) :=
  ⟨1, wide, ps, by decide, by decide, by decide, h0, h1, hl, hp, rfl, rfl⟩
theorem in_one {v : Int} (h0 : 0 ≤ v) (h1 : v < 64) : KBa.In [v] := fun n hn => by rw [List.mem_singleton.mp hn]; omega
theorem in_cons {v : Int} {ps : List Int} (h0 : 0 ≤ v) (h1 : v < 64) (hp : KBa.In ps) : KBa.In (v :: ps) := fun n hn => by
  rcases List.mem_cons.mp hn with rfl | hn
  · omega
  · exact hp n hn
theorem right_settings {x y wide : Int} (hx : 32 ≤ x) (hx2 : x < 64) (hy : 0 ≤ y) (hy2 : y < 64) (h0 : 0 ≤ wide) (h1 : wide < 3) : Right (.tuple [.str (Str.ofString "settings"), .list [.tuple [.int x, .int y]]]) (headOf 4 wide 2 ++ [x, y]) := by
  refine ⟨4, wide, [x, y], by decide, by decide, by decide, h0, h1, by simp, in_cons (by omega) hx2 (in_one hy hy2), rfl, ?_⟩
  show (if 0 ≤ x ∧ x < 64 ∧ 0 ≤ y ∧ y < 64 then (if x ∈ ([0, 2, 3, 4, 5] : List Int) then PR.bad 265 else PR.frame (.tuple [.str (Str.ofString "settings"), .list [.tuple [.int x, .int y]]])) else PR.odd) = _
  rw [if_pos ⟨by omega, hx2, hy, hy2⟩, if_neg (by simp only [List.mem_cons, List.not_mem_nil, or_false]; omega)]
theorem payload5 {ks : List Int} {v : Int} {z : Nat} (h : varintOf ks 0 = some (v, z)) : payloadOf 5 ks = .frame (.tuple [.str (Str.ofString "push_promise"), .int v, .bytes (byteArr (ks.drop z))]) := by
  unfold payloadOf
  rw [if_neg (by decide), if_neg (by decide), if_neg (by decide), if_pos rfl, h]
theorem tup_ne {vs : List Value} {lst : Addr} {k : Int} {t : Tok} {nb : Nat} : tupObj vs ≠ boxO lst k t nb := fun q => by
  have := congrArg Obj.cls q
  simp [tupObj, W.listOf] at this
theorem one_ne {v : Value} {n : Nat} {lst : Addr} {k : Int} {t : Tok} {nb : Nat} : W.listOf #[v] n ≠ boxO lst k t nb := fun q => by
  have := congrArg Obj.data q
  simp [W.listOf] at this
theorem right_push {v wide : Int} {ps : List Int} (hv : 0 ≤ v) (hv2 : v < 64) (hp : KBa.In ps) (hl : ps.length ≤ 10) (h0 : 0 ≤ wide) (h1 : wide < 3) : Right (.tuple [.str (Str.ofString "push_promise"), .int v, .bytes (byteArr ps)]) (headOf 5 wide ((v :: ps).length : Nat) ++ (v :: ps)) := by
  refine ⟨5, wide, v :: ps, by decide, by decide, by decide, h0, h1, by simp; omega, in_cons hv hv2 hp, rfl, ?_⟩
  rw [payload5 (varint_one (a := v) rfl hv hv2)]
  rfl
theorem only_one {v : Int} (hv : 0 ≤ v) (hv2 : v < 64) : onlyOf [v] = some v := by
  unfold onlyOf
  rw [varint_one (a := v) rfl hv hv2]
  rfl
theorem right_only {v wide kind : Int} {nm : String} (hk : kind = 3 ∧ nm = "cancel_push" ∨ kind = 7 ∧ nm = "goaway" ∨ kind = 13 ∧ nm = "max_push") (hv : 0 ≤ v) (hv2 : v < 64) (h0 : 0 ≤ wide) (h1 : wide < 3) : Right (.tuple [.str (Str.ofString nm), .int v]) (headOf kind wide 1 ++ [v]) := by
  have e : onlyR nm [v] = .frame (.tuple [.str (Str.ofString nm), .int v]) := by unfold onlyR; rw [only_one hv hv2]
  rcases hk with ⟨rfl, rfl⟩ | ⟨rfl, rfl⟩ | ⟨rfl, rfl⟩ <;> exact ⟨_, wide, [v], by decide, by decide, by decide, h0, h1, by simp, in_one hv hv2, rfl, e⟩
theorem right_unknown {kind wide : Int} {ps : List Int} (hk : 40 ≤ kind) (hk2 : kind < 64) (hp : KBa.In ps) (hl : ps.length ≤ 20) (h0 : 0 ≤ wide) (h1 : wide < 3) : Right (.tuple [.str (Str.ofString "unknown"), .int kind, .bytes (byteArr ps)]) (headOf kind wide (ps.length : Nat) ++ ps) := by
  refine ⟨kind, wide, ps, by omega, hk2, by simp only [List.mem_cons, List.not_mem_nil, or_false]; omega, h0, h1, hl, hp, rfl, ?_⟩
  unfold payloadOf
  rw [if_neg (by omega), if_neg (by omega), if_neg (by omega), if_neg (by omega), if_neg (by omega), if_neg (by omega), if_neg (by omega)]
theorem right_end {g h' : Heap} {L box lst a af : Addr} {m : Str → Option Value} {k : Int} {t t4 tb : Tok} {nb tk : Nat} {s : Shared} {R : Result → Shared → Prop} {news nw : List (Addr × Obj)} {hb pb : Array UInt8} {hs pl : List Int} {d : Dat}
    (hret : ∀ a vf d b tb nw t' h' tk' ks, KBw.bInts b = ks → Right d ks → DatIn nw vf d → Laid s.heap h' nw → s.heap.get? a = none → h'.get? a = some (tupObj [vf, .bytes b tb]) → Keep [] [box] s.heap h' → h'.get? box = some (boxO lst (k + 4) t' nb) → R (.ok (.ret (.ref a))) { s with heap := h', toks := tk' })
    (hg : ∀ b o, s.heap.get? b = some o → b ∉ ([(box, boxO lst k t nb)] : List (Addr × Obj)).map (·.1) → g.get? b = some o) (F : Fr g L h' m) (N : News g L h' news)
    (ma : (a, tupObj [.ref af, .bytes (hb ++ pb) tb]) ∈ news) (mb : (box, boxO lst (k + 1 + 1 + 1 + 1) t4 nb) ∈ news) (hm : ∀ p ∈ nw, p ∈ news ∧ p.2 ≠ boxO lst (k + 1 + 1 + 1 + 1) t4 nb)
    (hD : DatIn nw (.ref af) d) (hhs : KBw.bInts hb = hs) (hp : KBw.bInts pb = pl) (hR : Right d (hs ++ pl)) : R (.ok (.ret (.ref a))) { s with heap := h', toks := tk } := by
  have fa := fresh1 hg N ma mb tup_ne
  refine hret a (.ref af) d (hb ++ pb) tb nw t4 h' tk (hs ++ pl) (KBw.ints_app hhs hp) hR hD (fun p hp => fresh1 hg N (hm p hp).1 mb (hm p hp).2) fa.1 fa.2 (keep_fr hg F (one_ex N mb)) ?_
  have e := (N _ mb).1
  have : k + 1 + 1 + 1 + 1 = k + 4 := by omega
  dsimp only at e
  rw [e, this]
theorem nw_one {a : Addr} {o ob : Obj} {news : List (Addr × Obj)} (m : (a, o) ∈ news) (h : o ≠ ob) : ∀ p ∈ [(a, o)], p ∈ news ∧ p.2 ≠ ob := fun p hp => by
  rw [List.mem_singleton.mp hp]; exact ⟨m, h⟩
theorem nw_three {p1 p2 p3 : Addr × Obj} {ob : Obj} {news : List (Addr × Obj)} (m1 : p1 ∈ news) (m2 : p2 ∈ news) (m3 : p3 ∈ news) (h1 : p1.2 ≠ ob) (h2 : p2.2 ≠ ob) (h3 : p3.2 ≠ ob) : ∀ p ∈ [p1, p2, p3], p ∈ news ∧ p.2 ≠ ob := fun p hp => by
  rcases List.mem_cons.mp hp with rfl | hp
  · exact ⟨m1, h1⟩
  rcases List.mem_cons.mp hp with rfl | hp
  · exact ⟨m2, h2⟩
  · rw [List.mem_singleton.mp hp]; exact ⟨m3, h3⟩
theorem headOf_len {a b c : Int} : (headOf a b c).length ≤ 5 := by
  unfold headOf
  rw [List.length_append]
  split
  · simp
  · split <;> simp
theorem headOf_as {hb : Array UInt8} {a b c : Int} (h : KBw.bInts hb = headOf a b c) : ∃ hs, KBw.bInts hb = hs ∧ hs.length ≤ 5 ∧ hs = headOf a b c := ⟨_, h, headOf_len, rfl⟩
theorem ite_yes {c : Prop} [Decidable c] {X Y : Prop} (hc : c) (h : X) : if c then X else Y := by rw [if_pos hc]; exact h
theorem ite_no {c : Prop} [Decidable c] {X Y : Prop} (hc : ¬ c) (h : Y) : if c then X else Y := by rw [if_neg hc]; exact h
theorem fr_pin {g h : Heap} {L : Addr} {m : Str → Option Value} {k : Str} {v : Value} (F : Fr g L h m) (hk : m k = some v) : Fr g L h (fun y => if y = k then some v else m y) :=
  fr_same F fun y => by
    by_cases q : y = k
    · subst q; simp [hk]
    · simp [q]
/-- what holds behind the ifs of _law_right -/
inductive RightJ (s : Shared) (g : Heap) (L box lst : Addr) (k : Int) (t4 : Tok) (nb : Nat) (d2 : Int) (s' : Shared) : Prop
  | mk (kd : Int) (tk : Tok) (af : Addr) (d : Dat) (pb : Array UInt8) (pt : Tok) (pl : List Int) (u2 : Tok) (nw : List (Addr × Obj)) (m0 : Str → Option Value) (h2 : Heap) (tk2 : Nat) (e : s' = { s with heap := h2, toks := tk2 }) (k0 : 0 ≤ kd) (k1 : kd < 64) (hp : KBw.bInts pb = pl) (hl : pl.length ≤ 20)
      (hD : DatIn nw (.ref af) d) (hne : ∀ p ∈ nw, p.2 ≠ boxO lst (k + 1 + 1 + 1 + 1) t4 nb) (hR : Right d (headOf kd d2 (pl.length : Nat) ++ pl))
      (F : Fr g L h2 (fun y => if y = Str.ofString "kind" then some (Value.int kd tk) else if y = Str.ofString "frame" then some (Value.ref af) else if y = Str.ofString "payload" then some (Value.bytes pb pt) else if y = Str.ofString "wide" then some (Value.int d2 u2) else m0 y))
      (N : News g L h2 ((box, boxO lst (k + 1 + 1 + 1 + 1) t4 nb) :: nw)) : RightJ s g L box lst k t4 nb d2 s'
section
local macro_rules | `(tactic| k_steps) => `(tactic| repeat' ((fail_if_success (with_reducible show Joined _ _ _)); (first | (k_unfold; (try dsimp only)) | (k_end; kc_close) | (dsimp only; walk1) | walk1 | (leave1; (try dsimp only)) | fail "no step")))
local macro_rules | `(tactic| walk_at "ite") => `(tactic| (first | (with_reducible refine ite_yes ?hc ?_; (case hc => decide)) | (with_reducible refine ite_no ?hc ?_; (case hc => decide))))
local macro_rules | `(tactic| walk_at "exec Assign") => `(tactic| ((fail_if_success (with_reducible rename Stopped => hstop)); (with_reducible show wpAny _ _ (exec (Stmt.Assign [Expr.Tuple _ _ _] (Expr.Tuple (Expr.Name _ _ :: _) _ _) _) _) _ _ _); (refine Halt.mk ?_)))
local macro_rules | `(tactic| walk_at "call ref") => `(tactic| ((first | (with_reducible show wpAny _ _ (call (Value.ref 150) _) _ _ _) | (with_reducible show wpAny _ _ (call (Value.ref 157) _) _ _ _)); (refine Halt.mk ?_)))
set_option maxHeartbeats 4000000 in
theorem right_spec {w : World} {base : Heap} {mean : ExcName → Option Value} {mg mb : Str → Option Value} {dp un : Nat} {gd : Option (List Code)} {l : List Env} {n : Nat} {s : Shared} {R : Result → Shared → Prop}
    {box lst : Addr} {vs : List Value} {ns : List Int} {k : Int} {t : Tok} {nb : Nat}
    (C : Cx w base mean mg mb (ar dp un gd l) l (n + 2) s.heap) (hb : Own base l s.heap [(box, boxO lst k t nb)]) (hl : s.heap.IsList lst vs.toArray) (ne : lst ≠ box)
    (hi : IntsAre vs ns) (hlen : ns.length ≤ 2 ^ 20) (hk : 0 ≤ k) (hk2 : k < 900)
    (hret : ∀ a vf d b tb nw t' h' tk' ks, KBw.bInts b = ks → Right d ks → DatIn nw vf d → Laid s.heap h' nw → s.heap.get? a = none → h'.get? a = some (tupObj [vf, .bytes b tb]) → Keep [] [box] s.heap h' → h'.get? box = some (boxO lst (k + 4) t' nb) → R (.ok (.ret (.ref a))) { s with heap := h', toks := tk' }) :
    codeAny (model PG w) (ar dp un gd l) (.call (.ref 162) ⟨[.ref box], []⟩) R s := by
  refine enterC C hb (by k_is) (by k_is) (binds := [(Str.ofString "box", Value.ref box)]) (BindsTo.of_eq rfl) rfl (by decide +kernel) (fun g L h₁ tk cells hg hg' hsz hL F N Y B X T hlt => ?_)
  k_cells Y
  simp only [List.cons_append, List.nil_append] at N
  try dsimp only
  have hgl := list_in hl hg ne
  have nb1 : L + 1 ≠ box := Nat.ne_of_gt (Nat.lt_succ_of_lt (hlt _ (.head _)))
  k_steps
  (with_reducible rename Fr _ _ _ _ => F'); (with_reducible rename News _ _ _ _ => N')
  refine wpAny_call (drawn_spec (n := n) (C.deeperC B F' ?hk) (own_ofC B N' (fun p hp => .tail _ hp)) (list_up hgl F') ne hi hlen (by omega) (by omega) (by decide) (by decide) (fun d1 u1 t1 h1 tk1 d10 d11 K1 e1 => ?_))
  case hk => rfl
  obtain ⟨F1, N1⟩ := drawn_next (pre := [_]) (post := []) F' N' K1 e1 (fun p hp => by rw [List.mem_singleton.mp hp]; exact nb1)
  simp only [List.cons_append, List.nil_append] at N1
  clear F' N'
  k_steps
  (with_reducible rename Fr _ _ _ _ => F'); (with_reducible rename News _ _ _ _ => N')
  refine wpAny_call (drawn_spec (n := n) (C.deeperC B F' ?hk) (own_ofC B N' (fun p hp => .tail _ hp)) (list_up hgl F') ne hi hlen (by omega) (by omega) (by decide) (by decide) (fun d2 u2 t2 h2 tk2 d20 d21 K2 e2 => ?_))
  case hk => rfl
  obtain ⟨F2, N2⟩ := drawn_next (pre := [_]) (post := []) F' N' K2 e2 (fun p hp => by rw [List.mem_singleton.mp hp]; exact nb1)
  simp only [List.cons_append, List.nil_append] at N2
  clear F' N'
  k_steps
  (with_reducible rename Fr _ _ _ _ => F'); (with_reducible rename News _ _ _ _ => N')
  refine wpAny_call (drawn_spec (n := n) (C.deeperC B F' ?hk) (own_ofC B N' (fun p hp => .tail _ hp)) (list_up hgl F') ne hi hlen (by omega) (by omega) (by decide) (by decide) (fun d3 u3 t3 h3 tk3 d30 d31 K3 e3 => ?_))
  case hk => rfl
  obtain ⟨F3, N3⟩ := drawn_next (pre := [_]) (post := []) F' N' K3 e3 (fun p hp => by rw [List.mem_singleton.mp hp]; exact nb1)
  simp only [List.cons_append, List.nil_append] at N3
  clear F' N'
  k_steps
  (with_reducible rename Fr _ _ _ _ => F'); (with_reducible rename News _ _ _ _ => N')
  refine wpAny_call (drawn_spec (n := n) (C.deeperC B F' ?hk) (own_ofC B N' (fun p hp => .tail _ hp)) (list_up hgl F') ne hi hlen (by omega) (by omega) (by decide) (by decide) (fun d4 u4 t4 h4 tk4 d40 d41 K4 e4 => ?_))
  case hk => rfl
  obtain ⟨F4, N4⟩ := drawn_next (pre := [_]) (post := []) F' N' K4 e4 (fun p hp => by rw [List.mem_singleton.mp hp]; exact nb1)
  simp only [List.cons_append, List.nil_append] at N4
  clear F' N'
  k_steps
  (with_reducible rename Fr _ _ _ _ => F5); (with_reducible rename News _ _ _ _ => N5)
  (with_reducible rename KBa.In (List.map _ _) => hIn)
  have d42 : d4 < 64 := by omega
  have hpl : (List.map (fun k' => d4 + k') (rangeKs 0 (d3 - 0).toNat)).length = (d3 - 0).toNat := by simp [rangeKs_length]
  (with_reducible rename IntsAre _ (List.map _ _) => hI8)
  clear hI8
  obtain ⟨ts, m5, F5p⟩ : ∃ (ts : Tok) (m5 : Str → Option Value), Fr g L _ (fun y => if y = Str.ofString "form" then some (Value.int d1 u1) else if y = Str.ofString "wide" then some (Value.int d2 u2) else if y = Str.ofString "size" then some (Value.int d3 u3) else if y = Str.ofString "some" then some (Value.bytes (byteArr (List.map (fun k' => d4 + k') (rangeKs 0 (d3 - 0).toNat))) ts) else m5 y) :=
    ⟨_, _, fr_pin (fr_pin (fr_pin (fr_pin F5 (k := Str.ofString "some") rfl) (k := Str.ofString "size") rfl) (k := Str.ofString "wide") rfl) (k := Str.ofString "form") rfl⟩
  clear F5
  generalize List.map (fun k' => d4 + k') (rangeKs 0 (d3 - 0).toNat) = ps at hIn hpl F5p
  refine join_two (RightJ s g L box lst k t4 nb d2) ?a (fun s' hJ => ?b)
  case b =>
    obtain ⟨kd, tk0, af, d, pb, pt, pl, u9, nw, m0, h5, tk5, rfl, k0, k1, hp, hl, hD, hne, hR, F7, N7⟩ := hJ
    clear hIn hpl F5p N5
    have hstop : Stopped := trivial
    k_steps
    refine wpAny_call (head_spec (n := n) (C.deeperC B F7 ?hk) k0 k1 d20 d21 (by omega) (by omega) (fun hb ht h6 tk6 hhb K6 => ?_))
    case hk => rfl
    have F6 := fr_keep F7 K6 (fun q => nomatch q) (fun _ _ _ q => nomatch q)
    have N6 := news_keep N7 K6 (fun _ _ q => nomatch q)
    clear F7 N7
    obtain ⟨hs, hhs, hhl, hhe⟩ := headOf_as hhb
    clear hhb
    k_steps
    (with_reducible rename Fr _ _ _ _ => F7); (with_reducible rename News _ _ _ _ => N7)
    exact right_end (s := s) (nw := nw) hret hg F7 N7 (by k_mem) (by k_mem) (fun p hp => ⟨.tail _ (.tail _ hp), hne p hp⟩) hD hhs hp (by rw [hhe]; exact hR)
  case a =>
    have hforms : d1 = 0 ∨ d1 = 1 ∨ d1 = 2 ∨ d1 = 3 ∨ d1 = 4 ∨ d1 = 5 ∨ d1 = 6 := by omega
    have hstop : Stopped := trivial
    refine fold_wp ?_
    intro AA qk ek
    refine fold_fr F5p N5 ?_
    clear F5p N5
    intro mm nn F5 N5
    rcases hforms with rfl | rfl | rfl | rfl | rfl | rfl | rfl
    all_goals
      k_steps
      refine ⟨rfl, ?_⟩
      (dsimp only; refine fold_wp ?_; intro AB qk2 ek2)
      k_steps
      all_goals refine ⟨rfl, ?_⟩
    all_goals
      (with_reducible rename Fr _ _ _ _ => F7); (with_reducible rename News _ _ _ _ => N7)
      have F7p := fr_pin (fr_pin (fr_pin (fr_pin F7 (k := Str.ofString "wide") rfl) (k := Str.ofString "payload") rfl) (k := Str.ofString "frame") rfl) (k := Str.ofString "kind") rfl
    · exact ⟨_, _, _, _, _, _, _, _, [_], _, _, _, rfl, (by omega), (by omega), (KBa.ints_make hIn), (by rw [hpl]; omega), (DatIn.tuple (.head _) (.cons (.str _ _) (.cons (.bytes _ _) .nil))), (all_cons tup_ne all_nil), right_data hIn (by rw [hpl]; omega) d20 d21, F7p, (nPick N7 (by k_mem) (nPick N7 (by k_mem) (fun _ q => nomatch q)))⟩
    · exact ⟨_, _, _, _, _, _, _, _, [_], _, _, _, rfl, (by omega), (by omega), (KBa.ints_make hIn), (by rw [hpl]; omega), (DatIn.tuple (.head _) (.cons (.str _ _) (.cons (.bytes _ _) .nil))), (all_cons tup_ne all_nil), right_headers hIn (by rw [hpl]; omega) d20 d21, F7p, (nPick N7 (by k_mem) (nPick N7 (by k_mem) (fun _ q => nomatch q)))⟩
    · exact ⟨_, _, _, _, _, _, [33 + d3, d4], _, [_, _, _], _, _, _, rfl, (by omega), (by omega), (KBa.ints_make (ns := [33 + d3, d4]) (in_cons (by omega) (by omega) (in_one d40 d42))), (by simp), (DatIn.tuple (.head _) (.cons (.str _ _) (.cons (.list (vs := [_]) (.tail _ (.head _)) (.cons (.tuple (.tail _ (.tail _ (.head _))) (.cons (.int _ _) (.cons (.int _ _) .nil))) .nil)) .nil))), (all_cons tup_ne (all_cons one_ne (all_cons tup_ne all_nil))), right_settings (by omega) (by omega) d40 d42 d20 d21, F7p, (nPick N7 (by k_mem) (nPick N7 (by k_mem) (nPick N7 (by k_mem) (nPick N7 (by k_mem) (fun _ q => nomatch q)))))⟩
    · exact ⟨_, _, _, _, _, _, (d4 :: ps), _, [_], _, _, _, rfl, (by omega), (by omega), (KBw.ints_app (KBa.ints_make (ns := [d4]) (in_one d40 d42)) (KBa.ints_make hIn)), (by rw [List.length_cons, hpl]; omega), (DatIn.tuple (.head _) (.cons (.str _ _) (.cons (.int _ _) (.cons (.bytes _ _) .nil)))), (all_cons tup_ne all_nil), right_push d40 d42 hIn (by rw [hpl]; omega) d20 d21, F7p, (nPick N7 (by k_mem) (nPick N7 (by k_mem) (fun _ q => nomatch q)))⟩
    · exact ⟨_, _, _, _, _, _, [d4], _, [_], _, _, _, rfl, (by omega), (by omega), (KBa.ints_make (ns := [d4]) (in_one d40 d42)), (by simp), (DatIn.tuple (.head _) (.cons (.str _ _) (.cons (.int _ _) .nil))), (all_cons tup_ne all_nil), right_only (.inr (.inl ⟨rfl, rfl⟩)) d40 d42 d20 d21, F7p, (nPick N7 (by k_mem) (nPick N7 (by k_mem) (fun _ q => nomatch q)))⟩
    · exact ⟨_, _, _, _, _, _, [d4], _, [_], _, _, _, rfl, (by omega), (by omega), (KBa.ints_make (ns := [d4]) (in_one d40 d42)), (by simp), (DatIn.tuple (.head _) (.cons (.str _ _) (.cons (.int _ _) .nil))), (all_cons tup_ne all_nil), right_only (.inl ⟨rfl, rfl⟩) d40 d42 d20 d21, F7p, (nPick N7 (by k_mem) (nPick N7 (by k_mem) (fun _ q => nomatch q)))⟩
    · exact ⟨_, _, _, _, _, _, [d4], _, [_], _, _, _, rfl, (by omega), (by omega), (KBa.ints_make (ns := [d4]) (in_one d40 d42)), (by simp), (DatIn.tuple (.head _) (.cons (.str _ _) (.cons (.int _ _) .nil))), (all_cons tup_ne all_nil), right_only (.inr (.inr ⟨rfl, rfl⟩)) d40 d42 d20 d21, F7p, (nPick N7 (by k_mem) (nPick N7 (by k_mem) (fun _ q => nomatch q)))⟩
    · exact ⟨_, _, _, _, _, _, _, _, [_], _, _, _, rfl, (by omega), (by omega), (KBa.ints_make hIn), (by rw [hpl]; omega), (DatIn.tuple (.head _) (.cons (.str _ _) (.cons (.int _ _) (.cons (.bytes _ _) .nil)))), (all_cons tup_ne all_nil), right_unknown (by omega) (by omega) hIn (by rw [hpl]; omega) d20 d21, F7p, (nPick N7 (by k_mem) (nPick N7 (by k_mem) (fun _ q => nomatch q)))⟩
end
end Mine
end

section
open PySem PySem.W PySem.Calls PyProof.Rows
namespace Mine
section
variable {prog : Program} {w : World} {A : Around} {E : Value → Shared → Prop} {s : Shared}
theorem int_no_bytes : typeLookup (.type "int") "__bytes__" = pure none := by rw [typeLookup_type, builtinLookup_eq_fast]; kernel_rfl
theorem bytes_new_int {n : Int} {t : Tok} {Q : Value → Shared → Prop} (h0 : 0 ≤ n) (h1 : n < 1000)
    (hQ : ∀ t' k, Q (.bytes (Array.replicate n.toNat 0) t') { s with toks := k }) :
    codeAny (model prog w) A (.call (.builtin "bytes.__new__") ⟨[.type "bytes", .int n t], []⟩) (wants Q E) s := by
  refine codeAny_of_tree ?_
  show wpAny _ A.in1 (do checkBuiltinCall "bytes.__new__" ⟨[.type "bytes", .int n t], []⟩; again (.builtin "bytes.__new__" ⟨[.type "bytes", .int n t], []⟩)) _ _ s
  refine wpAny_bind (wpAny_of_eq (F.bm_newCall _) (wpAny_pure ⟨plainId_quiet F.bm_plain _, codeAny_builtin F.bm_entry ?_⟩))
  rw [Around.under_plainId F.bm_plain _]
  unfold Builtin.«bytes.__new__»
  refine wpAny_bind (wpAny_of_eq (a := true) rfl ?_)
  refine bm_if_false rfl ?_
  refine wpAny_bind (wpAny_of_eq F.bm_sub ?_)
  refine bm_if_false rfl ?_
  refine wpAny_bind (wpAny_of_eq (F.bm_bind _) ?_)
  refine wpAny_bind (wpAny_of_eq (a := ()) rfl ?_)
  refine wpAny_bind (wpAny_of_eq (a := ()) rfl ?_)
  refine bm_if_false rfl ?_
  refine wpAny_bind (wpAny_specialOf (typeIs_int s n t) int_no_bytes ?_)
  refine wpAny_bind (wpAny_of_eq (a := false) rfl ?_)
  refine bm_if_false rfl ?_
  refine wpAny_bind (wpAny_specialOf (typeIs_int s n t) F.slot_int_index.lookup ?_)
  refine bm_if_false rfl ?_
  refine wpAny_bind (wpAny_attempt (wpAny_of_eq (rfl : asIndex (.int n t) = pure n) ?_))
  dsimp only
  refine bm_if_false (by simp [Builtin.Bytes.fitsIndex]; omega) ?_
  rw [if_neg (by omega), if_neg (by omega)]
  refine bm_if_false (by simp only [Builtin.Bytes.tooLong, decide_eq_false_iff_not, sizeLine_eq]; omega) ?_
  first
    | (refine wpAny_bind (wpAny_mkBytes ?_ (by rw [Array.size_replicate, sizeLine_eq]; omega)))
    | (refine wpAny_bind (wpAny_rule ?_); refine wpAny_bind (wpAny_mkBytes ?_ (by rw [Array.size_replicate, sizeLine_eq]; omega)))
  show wpAny _ _ (if (Value.type "bytes" == Value.type "bytes") = true then _ else _) _ _ _
  refine bm_if_true (by decide) ?_
  first
    | exact wpAny_pure (hQ _ _)
    | exact wpAny_bind (wpAny_pure (wpAny_pure (hQ _ _)))
theorem call_bytes_int {n : Int} {t : Tok} {Q : Value → Shared → Prop} (h0 : 0 ≤ n) (h1 : n < 1000)
    (hQ : ∀ t' k, Q (.bytes (Array.replicate n.toNat 0) t') { s with toks := k }) : wpAny (model prog w) A (call (.type "bytes") [.int n t]) Q E s := by
  refine callType_codes (Q₁ := fun obj s₁ => s₁.TypeIs obj "bytes" ∧ Q obj s₁) F.bm_called (F.bm_typeCall _) F.entry_object_init
    (bytes_new_int h0 h1 fun t' k => ⟨PySem.W.typeIs_bytes _ _ _, hQ t' k⟩) fun obj s₁ h₁ => ?_
  exact ⟨h₁.1, F.args_object_init_2 obj _, object_init_meets F.bm_called.init.lookup F.bm_called.made (by decide) prog w A.in1 _ s₁ ⟨h₁.1, rfl, h₁.2⟩⟩
theorem call_bytes_int' {n : Int} {t : Tok} {Q : Value → Shared → Prop} (h0 : 0 ≤ n) (h1 : n < 1000)
    (hQ : ∀ b zs t' k, KBw.bInts b = zs → zs.length = n.toNat → Q (.bytes b t') { s with toks := k }) : wpAny (model prog w) A (call (.type "bytes") [.int n t]) Q E s :=
  call_bytes_int h0 h1 fun t' k => hQ _ _ t' k rfl (by simp [KBw.bInts])
end
end Mine
end

section
open PySem PySem.W PySem.Calls PyProof.Rows PySem.Spec
namespace Mine

/-- one of a list's ints, which one is not said -/
theorem pick {prog : Program} {w : World} {A : Around} {E : Value → Shared → Prop} {s : Shared} {a : Addr} {vs : List Value} {ns : List Int} {k : Int} {u : Tok} {value slice : PySem.Expr} {Q : Value → Shared → Prop} (hL : s.heap.IsList a vs.toArray) (hi : IntsAre vs ns) (h0 : 0 ≤ k) (h1 : k < vs.length) (h2 : vs.length < 1000)
    (h : ∀ i t, i ∈ ns → Q (.int i t) s)
    (hs : subscripted slice false (.ref a) (.int k u) = operate [.ref a, .int k u] (getItem (.ref a) (.int k u)) := by with_unfolding_all rfl) :
    wpAny (model prog w) A (subscriptTail value slice (.ref a) (.int k u)) Q E s := by
  have hk : k.toNat < vs.length := by omega
  have hv : ∃ i t, vs[k.toNat]? = some (.int i t) ∧ i ∈ ns := by
    generalize k.toNat = j at hk
    clear h hs h0 h1 h2 hL
    induction hi generalizing j with
    | nil => exact absurd hk (Nat.not_lt_zero _)
    | cons _ _ _ ih =>
      cases j with
      | zero => exact ⟨_, _, rfl, .head _⟩
      | succ j =>
        obtain ⟨i, t, e, m⟩ := ih j (by simpa using hk)
        exact ⟨i, t, e, .tail _ m⟩
  obtain ⟨i, t, e, m⟩ := hv
  exact tail_any hL.typeIs slot_list_getitem.lookup (wpAny_getItem_list hL h0 (by omega) (by simpa using e) (h i t m)) hs
theorem fmod_in {a b : Int} (h : 0 < b) : 0 ≤ a.fmod b ∧ a.fmod b < b := ⟨Int.fmod_nonneg_of_pos _ h, Int.fmod_lt_of_pos _ h⟩

/-- octets that are refused as soon as `many` of them are there -/
def Wrong (ks : List Int) (many : Nat) (code : Int) : Prop :=
  (∃ kind wide size z, 0 ≤ kind ∧ kind < 64 ∧ 0 ≤ wide ∧ wide < 3 ∧ 0 ≤ size ∧ size < 64 ∧ z.length ≤ 25 ∧ ks = headOf kind wide size ++ z ∧ many = (headOf kind wide size).length ∧ (kind ∈ ([2, 6, 8, 9] : List Int) ∧ code = 261 ∨ kind ∉ ([2, 6, 8, 9] : List Int) ∧ 20 < size ∧ code = 263)) ∨
  ∃ kind wide pl, 0 ≤ kind ∧ kind < 64 ∧ kind ∉ ([2, 6, 8, 9] : List Int) ∧ 0 ≤ wide ∧ wide < 3 ∧ pl.length ≤ 20 ∧ KBa.In pl ∧ ks = headOf kind wide (pl.length : Nat) ++ pl ∧ many = ks.length ∧ payloadOf kind pl = .bad code
theorem wrong_pl {kind wide sz code : Int} {pl hs : List Int} (hhe : hs = headOf kind wide sz) (hsz : sz = (pl.length : Nat)) (k0 : 0 ≤ kind) (k1 : kind < 64) (ko : kind ∉ ([2, 6, 8, 9] : List Int)) (w0 : 0 ≤ wide) (w1 : wide < 3) (hl : pl.length ≤ 20) (hp : KBa.In pl) (h : payloadOf kind pl = .bad code) : Wrong (hs ++ pl) (hs.length + pl.length) code :=
  .inr ⟨kind, wide, pl, k0, k1, ko, w0, w1, hl, hp, by rw [hhe, hsz], by simp, h⟩
theorem wrong_hd {kind wide size code : Int} {hs z : List Int} (hhe : hs = headOf kind wide size) (k0 : 0 ≤ kind) (k1 : kind < 64) (w0 : 0 ≤ wide) (w1 : wide < 3) (s0 : 0 ≤ size) (s1 : size < 64) (hz : z.length ≤ 25)
    (h : kind ∈ ([2, 6, 8, 9] : List Int) ∧ code = 261 ∨ kind ∉ ([2, 6, 8, 9] : List Int) ∧ 20 < size ∧ code = 263) : Wrong (hs ++ z) hs.length code := .inl ⟨kind, wide, size, z, k0, k1, w0, w1, s0, s1, hz, by rw [hhe], by rw [hhe], h⟩
theorem set_twice {d : Int} (h0 : 0 ≤ d) (h1 : d < 64) : payloadOf 4 [33, 1, 33, d] = .bad 265 := by
  show (if (0:Int) ≤ 33 ∧ (33:Int) < 64 ∧ (0:Int) ≤ 1 ∧ (1:Int) < 64 ∧ 0 ≤ d ∧ d < 64 ∧ (33:Int) = 33 then PR.bad 265 else PR.odd) = _
  rw [if_pos ⟨by decide, by decide, by decide, by decide, h0, h1, rfl⟩]
theorem set_old {o : Int} (h : o ∈ ([0, 2, 3, 4, 5] : List Int)) (h0 : 0 ≤ o) (h1 : o < 64) : payloadOf 4 [o, 1] = .bad 265 := by
  show (if 0 ≤ o ∧ o < 64 ∧ (0:Int) ≤ 1 ∧ (1:Int) < 64 then (if o ∈ ([0, 2, 3, 4, 5] : List Int) then PR.bad 265 else PR.frame (.tuple [.str (Str.ofString "settings"), .list [.tuple [.int o, .int 1]]])) else PR.odd) = _
  rw [if_pos ⟨h0, h1, by decide, by decide⟩, if_pos h]
theorem only_bad {kind : Int} {pl : List Int} (hk : kind ∈ ([3, 7, 13] : List Int)) (h : onlyOf pl = none) : payloadOf kind pl = .bad 262 := by
  have e : ∀ nm, onlyR nm pl = .bad 262 := fun nm => by unfold onlyR; rw [h]
  simp only [List.mem_cons, List.not_mem_nil, or_false] at hk
  rcases hk with rfl | rfl | rfl <;> exact e _
theorem only_new {kind : Int} (h : kind ∈ ([3, 7, 13] : List Int)) : kind ∉ ([2, 6, 8, 9] : List Int) := by
  simp only [List.mem_cons, List.not_mem_nil, or_false] at h ⊢
  omega
theorem only_long {d : Int} (h0 : 0 ≤ d) (h1 : d < 64) : onlyOf [d, 1] = none := by
  unfold onlyOf
  rw [varint_one (a := d) rfl h0 h1]
  rfl
theorem in_64 : KBa.In [64] := fun n hn => by rw [List.mem_singleton.mp hn]; decide
theorem wrong_end {g h' : Heap} {L box lst a : Addr} {m : Str → Option Value} {k : Int} {t t4 tb tm tc : Tok} {nb tk many : Nat} {code M : Int} {s : Shared} {R : Result → Shared → Prop} {news : List (Addr × Obj)} {ob : Array UInt8} {ks : List Int}
    (hret : ∀ a b tb many tm code tc t' h' tk' ks, KBw.bInts b = ks → Wrong ks many code → s.heap.get? a = none → h'.get? a = some (tupObj [.bytes b tb, .int (many : Nat) tm, .int code tc]) → Keep [] [box] s.heap h' → h'.get? box = some (boxO lst (k + 2) t' nb) → R (.ok (.ret (.ref a))) { s with heap := h', toks := tk' })
    (hg : ∀ b o, s.heap.get? b = some o → b ∉ ([(box, boxO lst k t nb)] : List (Addr × Obj)).map (·.1) → g.get? b = some o) (F : Fr g L h' m) (N : News g L h' news)
    (ma : (a, tupObj [.bytes ob tb, .int M tm, .int code tc]) ∈ news) (mb : (box, boxO lst (k + 1 + 1) t4 nb) ∈ news) (hp : KBw.bInts ob = ks) (hM : M = (many : Nat)) (hR : Wrong ks many code) : R (.ok (.ret (.ref a))) { s with heap := h', toks := tk } := by
  subst hM
  have fa := fresh1 hg N ma mb tup_ne
  refine hret a ob tb many tm code tc t4 h' tk ks hp hR fa.1 fa.2 (keep_fr hg F (one_ex N mb)) ?_
  have e := (N _ mb).1
  have : k + 1 + 1 = k + 2 := by omega
  dsimp only at e
  rw [e, this]

/-- what holds when a row is picked -/
inductive WrongJ (s : Shared) (g : Heap) (L box lst : Addr) (k : Int) (t4 : Tok) (nb : Nat) (d1 which : Int) (v : Value) (s' : Shared) : Prop
  | mk (a : Addr) (kd : Int) (tk tb u1 tw : Tok) (pb : Array UInt8) (pl : List Int) (m0 : Str → Option Value) (h2 : Heap) (tk2 : Nat) (hv : v = .ref a) (e : s' = { s with heap := h2, toks := tk2 }) (k0 : 0 ≤ kd) (k1 : kd < 64) (ko : kd ∉ ([2, 6, 8, 9] : List Int)) (hp : KBw.bInts pb = pl) (hl : pl.length ≤ 20) (hin : KBa.In pl)
      (hbad : payloadOf kd pl = .bad (if which < 4 then 265 else 262)) (F : Fr g L h2 (fun y => if y = Str.ofString "wide" then some (Value.int d1 u1) else if y = Str.ofString "which" then some (Value.int which tw) else m0 y))
      (N : News g L h2 ((a, tupObj [.int kd tk, .bytes pb tb]) :: (box, boxO lst (k + 1 + 1) t4 nb) :: [])) : WrongJ s g L box lst k t4 nb d1 which v s'
section
local macro_rules | `(tactic| k_steps) => `(tactic| repeat' ((fail_if_success (with_reducible show WrongJ _ _ _ _ _ _ _ _ _ _ _ _)); (first | (k_unfold; (try dsimp only)) | (k_end; kc_close) | (dsimp only; walk1) | walk1 | (leave1; (try dsimp only)) | fail "no step")))
local macro_rules | `(tactic| walk_at "ite") => `(tactic| (first | (with_reducible refine ite_yes ?hc ?_; (case hc => decide)) | (with_reducible refine ite_no ?hc ?_; (case hc => decide))))
local macro_rules | `(tactic| walk_at "ite") => `(tactic| (with_reducible refine ite_no ?hc ?_; (case hc => (rw [decide_eq_true_iff]; omega))))
local macro_rules | `(tactic| walk_at "subscriptTail") => `(tactic| ((with_reducible show wpAny _ _ (subscriptTail _ _ (Value.ref _) (Value.int (_ - _) _)) _ _ _); (fail_if_success (with_reducible rename Stopped => hstop)); (refine Halt.mk ?_)))
local macro_rules | `(tactic| walk_at "subscriptTail") => `(tactic| ((with_reducible show wpAny _ _ (subscriptTail _ _ (Value.ref _) (Value.int (Int.fmod _ _) _)) _ _ _); (refine Halt.mk ?_)))
local macro_rules | `(tactic| walk_at "call ref") => `(tactic| ((first | (with_reducible show wpAny _ _ (call (Value.ref 150) _) _ _ _) | (with_reducible show wpAny _ _ (call (Value.ref 157) _) _ _ _)); (refine Halt.mk ?_)))
set_option maxHeartbeats 4000000 in
theorem wrong_spec {w : World} {base : Heap} {mean : ExcName → Option Value} {mg mb : Str → Option Value} {dp un : Nat} {gd : Option (List Code)} {l : List Env} {n : Nat} {s : Shared} {R : Result → Shared → Prop}
    {box lst : Addr} {vs : List Value} {ns : List Int} {k which : Int} {t tw : Tok} {nb : Nat}
    (C : Cx w base mean mg mb (ar dp un gd l) l (n + 2) s.heap) (hb : Own base l s.heap [(box, boxO lst k t nb)]) (hl : s.heap.IsList lst vs.toArray) (ne : lst ≠ box)
    (hi : IntsAre vs ns) (hlen : ns.length ≤ 2 ^ 20) (hk : 0 ≤ k) (hk2 : k < 900) (hw : 0 ≤ which) (hw2 : which < 8)
    (hret : ∀ a b tb many tm code tc t' h' tk' ks, KBw.bInts b = ks → Wrong ks many code → s.heap.get? a = none → h'.get? a = some (tupObj [.bytes b tb, .int (many : Nat) tm, .int code tc]) → Keep [] [box] s.heap h' → h'.get? box = some (boxO lst (k + 2) t' nb) → R (.ok (.ret (.ref a))) { s with heap := h', toks := tk' }) :
    codeAny (model PG w) (ar dp un gd l) (.call (.ref 169) ⟨[.ref box, .int which tw], []⟩) R s := by
  refine enter C hb (by k_is) (by k_is) (binds := [(Str.ofString "box", Value.ref box), (Str.ofString "which", Value.int which tw)]) (BindsTo.of_eq rfl) (locs rfl) (fun g L h₁ hg hg' hsz hL F N B X T => ?_) (by decide)
  have hgl := list_in hl hg ne
  k_steps
  (with_reducible rename Fr _ _ _ _ => F'); (with_reducible rename News _ _ _ _ => N')
  refine wpAny_call (drawn_spec (n := n) (C.deeper B F' ?hk) (own_of B N' (fun p hp => hp)) (list_up hgl F') ne hi hlen (by omega) (by omega) (by decide) (by decide) (fun d1 u1 t1 h1 tk1 d10 d11 K1 e1 => ?_))
  case hk => rfl
  obtain ⟨F1, N1⟩ := drawn_next (pre := []) (post := []) F' N' K1 e1 (fun p hp => nomatch hp)
  simp only [List.nil_append] at N1
  clear F' N'
  k_steps
  (with_reducible rename Fr _ _ _ _ => F'); (with_reducible rename News _ _ _ _ => N')
  refine wpAny_call (drawn_spec (n := n) (C.deeper B F' ?hk) (own_of B N' (fun p hp => hp)) (list_up hgl F') ne hi hlen (by omega) (by omega) (by decide) (by decide) (fun d2 u2 t2 h2 tk2 d20 d21 K2 e2 => ?_))
  case hk => rfl
  obtain ⟨F2, N2⟩ := drawn_next (pre := []) (post := []) F' N' K2 e2 (fun p hp => nomatch hp)
  simp only [List.nil_append] at N2
  clear F' N'
  k_steps
  (with_reducible rename Fr _ _ _ _ => F'); (with_reducible rename News _ _ _ _ => N')
  refine pick (ns := [3, 7, 13]) (vs := [_, _, _]) ⟨_, (N' _ (.head _)).1, rfl, _, rfl⟩ (.cons _ _ (.cons _ _ (.cons _ _ .nil))) (fmod_in (by decide)).1 (fmod_in (b := 3) (by decide)).2 (by simp) (fun only to hon => ?_)
  have ho : 0 ≤ only ∧ only < 64 := by
    have : only = 3 ∨ only = 7 ∨ only = 13 := by simpa using hon
    omega
  obtain ⟨ho0, ho1⟩ := ho
  have hwhich : which = 0 ∨ which = 1 ∨ 2 ≤ which := by omega
  rcases hwhich with rfl | rfl | hw3
  rotate_right
  · k_steps
    (with_reducible rename Fr _ _ _ _ => F'); (with_reducible rename News _ _ _ _ => N')
    refine pick (ns := [0, 2, 3, 4, 5]) (vs := [_, _, _, _, _]) ⟨_, (N' _ (.head _)).1, rfl, _, rfl⟩ (.cons _ _ (.cons _ _ (.cons _ _ (.cons _ _ (.cons _ _ .nil))))) (fmod_in (by decide)).1 (fmod_in (b := 5) (by decide)).2 (by simp) (fun old to2 hold => ?_)
    have ho2 : 0 ≤ old ∧ old < 64 := by
      have : old = 0 ∨ old = 2 ∨ old = 3 ∨ old = 4 ∨ old = 5 := by simpa using hold
      omega
    obtain ⟨ho20, ho21⟩ := ho2
    k_steps
    (with_reducible rename Fr _ _ _ _ => FR); (with_reducible rename News _ _ _ _ => NR)
    have d22 : d2 < 64 := by omega
    refine join_at (WrongJ s g L box lst k t2 nb d1 which) ?a (fun v s' hJ => ?b)
    case b =>
      clear FR NR
      obtain ⟨a, kd, tk0, tb0, u9, tw9, pb, pl, m0, h5, tk5, rfl, rfl, k0, k1, ko, hp, hl, hin, hbad, F5, N5⟩ := hJ
      have hstop : Stopped := trivial
      (try dsimp only)
      k_steps
      (with_reducible rename Fr _ _ _ _ => F5); (with_reducible rename News _ _ _ _ => N5)
      refine wpAny_call (head_spec (n := n) (C.deeper B F5 ?hk) k0 k1 d10 d11 (by omega) (by omega) (fun hb ht h6 tk6 hhb K6 => ?_))
      case hk => rfl
      have F6 := fr_keep F5 K6 (fun q => nomatch q) (fun _ _ _ q => nomatch q)
      have N6 := news_keep N5 K6 (fun _ _ q => nomatch q)
      clear F5 N5
      obtain ⟨hs, hhs, hhl, hhe⟩ := headOf_as hhb
      clear hhb
      k_steps
      all_goals ((with_reducible rename Fr _ _ _ _ => F7); (with_reducible rename News _ _ _ _ => N7))
      · rw [if_pos (by omega)] at hbad
        exact wrong_end (s := s) hret hg F7 N7 (by k_mem) (by k_mem) (KBw.ints_app hhs hp) rfl (wrong_pl hhe rfl k0 k1 ko d10 d11 hl hin hbad)
      · rw [if_neg (by omega)] at hbad
        exact wrong_end (s := s) hret hg F7 N7 (by k_mem) (by k_mem) (KBw.ints_app hhs hp) rfl (wrong_pl hhe rfl k0 k1 ko d10 d11 hl hin hbad)
    case a =>
      have hwhich : which = 2 ∨ which = 3 ∨ which = 4 ∨ which = 5 ∨ which = 6 ∨ which = 7 := by omega
      have hstop : Stopped := trivial
      have FRp := fr_pin (fr_pin FR (k := Str.ofString "which") rfl) (k := Str.ofString "wide") rfl
      rcases hwhich with rfl | rfl | rfl | rfl | rfl | rfl
      all_goals k_steps
      · exact ⟨_, 4, _, _, _, _, _, _, _, _, _, rfl, rfl, by decide, by decide, by decide, (KBa.ints_make (ns := [33, 1, 33, d2]) (in_cons (by decide) (by decide) (in_cons (by decide) (by decide) (in_cons (by decide) (by decide) (in_one d20 d22))))), by simp, (in_cons (by decide) (by decide) (in_cons (by decide) (by decide) (in_cons (by decide) (by decide) (in_one d20 d22)))), set_twice d20 d22, FRp, (nPick NR (by k_mem) (nPick NR (by k_mem) (fun _ q => nomatch q)))⟩
      · exact ⟨_, 4, _, _, _, _, _, _, _, _, _, rfl, rfl, by decide, by decide, by decide, (KBa.ints_make (ns := [old, 1]) (in_cons ho20 ho21 (in_one (by decide) (by decide)))), by simp, (in_cons ho20 ho21 (in_one (by decide) (by decide))), set_old hold ho20 ho21, FRp, (nPick NR (by k_mem) (nPick NR (by k_mem) (fun _ q => nomatch q)))⟩
      · exact ⟨_, only, _, _, _, _, _, _, _, _, _, rfl, rfl, ho0, ho1, (only_new hon), (KBa.ints_make (ns := [d2, 1]) (in_cons d20 d22 (in_one (by decide) (by decide)))), by simp, (in_cons d20 d22 (in_one (by decide) (by decide))), only_bad hon (only_long d20 d22), FRp, (nPick NR (by k_mem) (nPick NR (by k_mem) (fun _ q => nomatch q)))⟩
      · exact ⟨_, only, _, _, _, _, _, _, _, _, _, rfl, rfl, ho0, ho1, (only_new hon), (KBa.ints_make (ns := [64]) in_64), by simp, in_64, only_bad hon (by decide), FRp, (nPick NR (by k_mem) (nPick NR (by k_mem) (fun _ q => nomatch q)))⟩
      · exact ⟨_, only, _, _, _, _, _, _, _, _, _, rfl, rfl, ho0, ho1, (only_new hon), (KBa.ints_make (ns := []) (fun _ q => nomatch q)), by simp, (fun _ q => nomatch q), only_bad hon (by decide), FRp, (nPick NR (by k_mem) (nPick NR (by k_mem) (fun _ q => nomatch q)))⟩
      · exact ⟨_, 5, _, _, _, _, _, _, _, _, _, rfl, rfl, by decide, by decide, by decide, (KBa.ints_make (ns := []) (fun _ q => nomatch q)), by simp, (fun _ q => nomatch q), rfl, FRp, (nPick NR (by k_mem) (nPick NR (by k_mem) (fun _ q => nomatch q)))⟩
  all_goals
    k_steps
    (with_reducible rename Fr _ _ _ _ => F'); (with_reducible rename News _ _ _ _ => N')
    refine pick (ns := [2, 6, 8, 9]) (vs := [_, _, _, _]) ⟨_, (N' _ (.head _)).1, rfl, _, rfl⟩ (.cons _ _ (.cons _ _ (.cons _ _ (.cons _ _ .nil)))) (fmod_in (by decide)).1 (fmod_in (b := 4) (by decide)).2 (by simp) (fun old to2 hold => ?_)
    have ho2 : 0 ≤ old ∧ old < 64 := by
      have : old = 2 ∨ old = 6 ∨ old = 8 ∨ old = 9 := by simpa using hold
      omega
    obtain ⟨ho20, ho21⟩ := ho2
    have hm2 := fmod_in (a := d2) (b := 2) (by decide)
    k_steps
    (with_reducible rename Fr _ _ _ _ => F5); (with_reducible rename News _ _ _ _ => N5)
    refine wpAny_call (head_spec (n := n) (C.deeper B F5 ?hk) (by omega) (by omega) (by omega) (by omega) (by decide) (by decide) (fun hb ht h6 tk6 hhb K6 => ?_))
    case hk => rfl
    have F6 := fr_keep F5 K6 (fun q => nomatch q) (fun _ _ _ q => nomatch q)
    have N6 := news_keep N5 K6 (fun _ _ q => nomatch q)
    clear F5 N5
    obtain ⟨hs, hhs, hhl, hhe⟩ := headOf_as hhb
    clear hhb
    k_steps
    refine call_bytes_int' (by decide) (by decide) fun zb zs zt zk hzb hzl => ?_
    k_steps
  all_goals ((with_reducible rename Fr _ _ _ _ => F7); (with_reducible rename News _ _ _ _ => N7))
  · exact wrong_end (s := s) hret hg F7 N7 (by k_mem) (by k_mem) (KBw.ints_app hhs hzb) rfl (wrong_hd hhe ho20 ho21 d10 d11 (by decide) (by decide) (by rw [hzl]; decide) (.inl ⟨hold, rfl⟩))
  · exact wrong_end (s := s) hret hg F7 N7 (by k_mem) (by k_mem) (KBw.ints_app hhs hzb) rfl (wrong_hd hhe (by omega) (by omega) d10 d11 (by decide) (by decide) (by rw [hzl]; decide) (.inr ⟨by simp only [List.mem_cons, List.not_mem_nil, or_false]; omega, by decide, rfl⟩))
end
end Mine
end

section
open PySem PySem.W PySem.Calls PyProof.Rows PySem.Spec
namespace Mine
theorem varint_two {kind : Int} {q : List Int} (h0 : 0 ≤ kind) (h1 : kind < 64) : varintOf (64 :: kind :: q) 0 = some (kind, 2) := by
  unfold varintOf wholeOf
  rw [if_neg (by simp)]
  simp only [List.getD_cons_zero, show sizeOf 64 = 2 from rfl, List.drop_zero]
  rw [if_neg (by simp)]
  simp only [List.take_succ_cons, List.take_zero, Option.map_some, fold256, List.foldl_cons, List.foldl_nil]
  congr 2
  omega
theorem varint_four {kind : Int} {q : List Int} (h0 : 0 ≤ kind) (h1 : kind < 64) : varintOf (128 :: 0 :: 0 :: kind :: q) 0 = some (kind, 4) := by
  unfold varintOf wholeOf
  rw [if_neg (by simp)]
  simp only [List.getD_cons_zero, show sizeOf 128 = 4 from rfl, List.drop_zero]
  rw [if_neg (by simp)]
  simp only [List.take_succ_cons, List.take_zero, Option.map_some, fold256, List.foldl_cons, List.foldl_nil]
  congr 2
  omega
theorem head_cases {kind wide size : Int} (w0 : 0 ≤ wide) (w1 : wide < 3) : headOf kind wide size = [kind, size] ∨ headOf kind wide size = [64, kind, size] ∨ headOf kind wide size = [128, 0, 0, kind, size] := by
  have : wide = 0 ∨ wide = 1 ∨ wide = 2 := by omega
  rcases this with rfl | rfl | rfl
  · exact .inl rfl
  · exact .inr (.inl rfl)
  · exact .inr (.inr rfl)
theorem varints {kind wide size : Int} (k0 : 0 ≤ kind) (k1 : kind < 64) (w0 : 0 ≤ wide) (w1 : wide < 3) (s0 : 0 ≤ size) (s1 : size < 64) (q : List Int) :
    ∃ i, varintOf (headOf kind wide size ++ q) 0 = some (kind, i) ∧ varintOf (headOf kind wide size ++ q) i = some (size, (headOf kind wide size).length) := by
  rcases head_cases (kind := kind) (size := size) w0 w1 with h | h | h <;> rw [h]
  · exact ⟨1, varint_one (i := 0) rfl k0 k1, varint_one (i := 1) rfl s0 s1⟩
  · exact ⟨2, varint_two k0 k1, varint_one (i := 2) rfl s0 s1⟩
  · exact ⟨4, varint_four k0 k1, varint_one (i := 4) rfl s0 s1⟩
theorem next_head {kind wide size : Int} (k0 : 0 ≤ kind) (k1 : kind < 64) (w0 : 0 ≤ wide) (w1 : wide < 3) (s0 : 0 ≤ size) (s1 : size < 64) (q : List Int) :
    nextOf (headOf kind wide size ++ q) = if kind ∈ ([2, 6, 8, 9] : List Int) then .bad 261 else if 20 < size then .bad 263 else if (q.length : Int) < size then .more
      else match payloadOf kind (q.take size.toNat) with
        | .frame d => .got d (q.drop size.toNat)
        | .bad c => .bad c
        | .odd => .odd := by
  obtain ⟨i, a, b⟩ := varints k0 k1 w0 w1 s0 s1 q
  rw [next_of a b]
  have e1 : (headOf kind wide size ++ q).drop (headOf kind wide size).length = q := by simp
  have e2 : (headOf kind wide size ++ q).drop ((headOf kind wide size).length + size.toNat) = q.drop size.toNat := by
    rw [← List.drop_drop, e1]
  rw [e1, e2]
  have e3 : (((headOf kind wide size ++ q).length : Int) < (headOf kind wide size).length + size) ↔ ((q.length : Int) < size) := by
    rw [List.length_append]
    omega
  by_cases h : (q.length : Int) < size
  · rw [if_pos h, if_pos (e3.mpr h)]
  · rw [if_neg h, if_neg fun x => h (e3.mp x)]
    first | done | rfl
theorem varint_nil : varintOf [] 0 = none := rfl
theorem more0 {ks : List Int} (h : varintOf ks 0 = none) : nextOf ks = .more := by unfold nextOf; rw [h]
theorem next_cut {kind wide size : Int} (k0 : 0 ≤ kind) (k1 : kind < 64) (w0 : 0 ≤ wide) (w1 : wide < 3) {n : Nat} (hn : n < (headOf kind wide size).length) :
    nextOf ((headOf kind wide size).take n) = .more := by
  rcases head_cases (kind := kind) (size := size) w0 w1 with h | h | h <;> rw [h] at hn ⊢ <;> simp only [List.length_cons, List.length_nil] at hn
  · have : n = 0 ∨ n = 1 := by omega
    rcases this with rfl | rfl
    · exact more0 rfl
    · exact next_more2 (z := 1) (varint_one (i := 0) rfl k0 k1) rfl
  · have : n = 0 ∨ n = 1 ∨ n = 2 := by omega
    rcases this with rfl | rfl | rfl
    · exact more0 rfl
    · exact more0 rfl
    · exact next_more2 (z := 2) (varint_two k0 k1) rfl
  · have : n = 0 ∨ n = 1 ∨ n = 2 ∨ n = 3 ∨ n = 4 := by omega
    rcases this with rfl | rfl | rfl | rfl | rfl
    · exact more0 rfl
    · exact more0 rfl
    · exact more0 rfl
    · exact more0 rfl
    · exact next_more2 (z := 4) (varint_four k0 k1) rfl

/-- a frame's octets, however cut, whatever stands behind -/
def Good (ks : List Int) (d : Dat) : Prop := (∀ n, n < ks.length → nextOf (ks.take n) = .more) ∧ ∀ q, nextOf (ks ++ q) = .got d q
/-- refused as soon as `many` octets are there -/
def Bad (ks : List Int) (many : Nat) (c : Int) : Prop := many ≤ ks.length ∧ (∀ n, n < many → nextOf (ks.take n) = .more) ∧ ∀ q, nextOf (ks.take many ++ q) = .bad c

theorem cut_full {kind wide : Int} {pl : List Int} (k0 : 0 ≤ kind) (k1 : kind < 64) (ko : kind ∉ ([2, 6, 8, 9] : List Int)) (w0 : 0 ≤ wide) (w1 : wide < 3) (hl : pl.length ≤ 20) {n : Nat} (hn : n < (headOf kind wide (pl.length : Nat) ++ pl).length) :
    nextOf ((headOf kind wide (pl.length : Nat) ++ pl).take n) = .more := by
  by_cases h : n < (headOf kind wide (pl.length : Nat)).length
  · rw [List.take_append_of_le_length (Nat.le_of_lt h)]
    exact next_cut k0 k1 w0 w1 h
  · rw [List.length_append] at hn
    rw [List.take_append, List.take_of_length_le (by omega), next_head k0 k1 w0 w1 (by omega) (by omega), if_neg ko, if_neg (by omega), if_pos]
    rw [List.length_take]
    omega
theorem whole_next {kind wide : Int} {pl : List Int} (k0 : 0 ≤ kind) (k1 : kind < 64) (ko : kind ∉ ([2, 6, 8, 9] : List Int)) (w0 : 0 ≤ wide) (w1 : wide < 3) (hl : pl.length ≤ 20) (q : List Int) :
    nextOf (headOf kind wide (pl.length : Nat) ++ pl ++ q) = match payloadOf kind pl with
        | .frame d => .got d q
        | .bad c => .bad c
        | .odd => .odd := by
  rw [List.append_assoc, next_head k0 k1 w0 w1 (by omega) (by omega), if_neg ko, if_neg (by omega), if_neg (by rw [List.length_append]; omega)]
  simp

/-- a line of frames, what stands behind them: octets that are refused once `many` of them are there, or nothing -/
def octs (F : List (List Int × Dat)) (X : List Int) : List Int := match F with
  | [] => X
  | (ks, _) :: F => ks ++ octs F X
def taken (F : List (List Int × Dat)) (n : Nat) : List Dat := match F with
  | [] => []
  | (ks, d) :: F => if n < ks.length then [] else d :: taken F (n - ks.length)
def restOf (F : List (List Int × Dat)) (X : List Int) (n : Nat) : List Int := match F with
  | [] => X.take n
  | (ks, _) :: F => if n < ks.length then ks.take n else restOf F X (n - ks.length)
def lenF (F : List (List Int × Dat)) : Nat := match F with
  | [] => 0
  | (ks, _) :: F => ks.length + lenF F
/-- what stands behind: nothing, or octets that are refused -/
def Tail (X : List Int) (b : Option (Nat × Int)) : Prop := match b with
  | none => X = []
  | some (many, c) => ∃ ks Y, X = ks ++ Y ∧ Bad ks many c
def codeAt (b : Option (Nat × Int)) (n : Nat) : Option Int := match b with
  | none => none
  | some (many, c) => if many ≤ n then some c else none

theorem tail_takes {X : List Int} {b : Option (Nat × Int)} (h : Tail X b) (n : Nat) : Takes (X.take n) [] (X.take n) (codeAt b n) := by
  cases b with
  | none =>
    have e : X = [] := h
    subst e
    rw [List.take_nil]
    exact Takes.stop (more0 rfl)
  | some p =>
    obtain ⟨many, c⟩ := p
    obtain ⟨ks, Y, rfl, hl, hm, hb⟩ := h
    by_cases hn : many ≤ n
    · rw [show codeAt (some (many, c)) n = some c from if_pos hn]
      refine Takes.bad ?_
      have e : (ks ++ Y).take n = ks.take many ++ ((ks ++ Y).take n).drop many := by
        conv => lhs; rw [← List.take_append_drop many ((ks ++ Y).take n)]
        congr 1
        rw [List.take_take, Nat.min_eq_left hn, List.take_append_of_le_length hl]
      rw [e]
      exact hb _
    · rw [show codeAt (some (many, c)) n = none from if_neg hn]
      refine Takes.stop ?_
      rw [List.take_append_of_le_length (by omega)]
      exact hm n (by omega)
def codeF (F : List (List Int × Dat)) (b : Option (Nat × Int)) (n : Nat) : Option Int := if lenF F ≤ n then codeAt b (n - lenF F) else none
theorem takes_all {X : List Int} {b : Option (Nat × Int)} (hX : Tail X b) : ∀ (F : List (List Int × Dat)), (∀ p ∈ F, Good p.1 p.2) → ∀ n, Takes ((octs F X).take n) (taken F n) (restOf F X n) (codeF F b n)
  | [], _, n => by
    rw [show codeF [] b n = codeAt b n from if_pos (Nat.zero_le n)]
    exact tail_takes hX n
  | (ks, d) :: F, hF, n => by
    have hg := hF (ks, d) (.head _)
    show Takes ((ks ++ octs F X).take n) (if n < ks.length then [] else d :: taken F (n - ks.length)) (if n < ks.length then ks.take n else restOf F X (n - ks.length)) _
    by_cases hn : n < ks.length
    · rw [if_pos hn, if_pos hn, List.take_append_of_le_length (by omega), show codeF ((ks, d) :: F) b n = none from if_neg (by show ¬ ks.length + lenF F ≤ n; omega)]
      exact Takes.stop (hg.1 n hn)
    · rw [if_neg hn, if_neg hn, List.take_append, List.take_of_length_le (by omega)]
      refine Takes.step (hg.2 _) ?_
      have e : codeF ((ks, d) :: F) b n = codeF F b (n - ks.length) := by
        show (if ks.length + lenF F ≤ n then codeAt b (n - (ks.length + lenF F)) else none) = if lenF F ≤ n - ks.length then codeAt b (n - ks.length - lenF F) else none
        by_cases h : ks.length + lenF F ≤ n
        · rw [if_pos h, if_pos (by omega), Nat.sub_sub]
        · rw [if_neg h, if_neg (by omega)]
      rw [e]
      exact takes_all hX F (fun p hp => hF p (.tail _ hp)) _
theorem takes_on {X : List Int} {b : Option (Nat × Int)} (hX : Tail X b) : ∀ (F : List (List Int × Dat)), (∀ p ∈ F, Good p.1 p.2) → ∀ a m, codeF F b a = none →
    ∃ ds, Takes (restOf F X a ++ ((octs F X).drop a).take m) ds (restOf F X (a + m)) (codeF F b (a + m)) ∧ taken F (a + m) = taken F a ++ ds
  | [], hF, a, m, _ => by
    refine ⟨[], ?_, rfl⟩
    show Takes (X.take a ++ (X.drop a).take m) _ _ _
    rw [show X.take a ++ (X.drop a).take m = X.take (a + m) by rw [List.take_add]]
    exact takes_all hX [] hF (a + m)
  | (ks, d) :: F, hF, a, m, hc => by
    by_cases ha : a < ks.length
    · refine ⟨taken ((ks, d) :: F) (a + m), ?_, ?_⟩
      · have e : restOf ((ks, d) :: F) X a ++ ((octs ((ks, d) :: F) X).drop a).take m = (octs ((ks, d) :: F) X).take (a + m) := by
          rw [List.take_add]
          congr 1
          show (if a < ks.length then ks.take a else _) = (ks ++ octs F X).take a
          rw [if_pos ha, List.take_append_of_le_length (by omega)]
        rw [e]
        exact takes_all hX _ hF (a + m)
      · rw [show taken ((ks, d) :: F) a = [] from if_pos ha]
        rfl
    · have sh : ∀ c, codeF ((ks, d) :: F) c = codeF ((ks, d) :: F) c := fun _ => rfl
      have e : ∀ n, ks.length ≤ n → codeF ((ks, d) :: F) b n = codeF F b (n - ks.length) := fun n hn => by
        show (if ks.length + lenF F ≤ n then codeAt b (n - (ks.length + lenF F)) else none) = if lenF F ≤ n - ks.length then codeAt b (n - ks.length - lenF F) else none
        by_cases h : ks.length + lenF F ≤ n
        · rw [if_pos h, if_pos (by omega), Nat.sub_sub]
        · rw [if_neg h, if_neg (by omega)]
      rw [e a (by omega)] at hc
      obtain ⟨ds, T, q⟩ := takes_on hX F (fun p hp => hF p (.tail _ hp)) (a - ks.length) m hc
      refine ⟨ds, ?_, ?_⟩
      · rw [e (a + m) (by omega), show restOf ((ks, d) :: F) X a = restOf F X (a - ks.length) from if_neg ha, show restOf ((ks, d) :: F) X (a + m) = restOf F X (a + m - ks.length) from if_neg (by omega),
          show (octs ((ks, d) :: F) X).drop a = (octs F X).drop (a - ks.length) by
            show (ks ++ octs F X).drop a = _
            rw [List.drop_append, List.drop_eq_nil_of_le (by omega), List.nil_append], show a + m - ks.length = a - ks.length + m by omega]
        exact T
      · rw [show taken ((ks, d) :: F) (a + m) = d :: taken F (a + m - ks.length) from if_neg (by omega), show taken ((ks, d) :: F) a = d :: taken F (a - ks.length) from if_neg ha, show a + m - ks.length = a - ks.length + m by omega, q]
        rfl

/-- the frames that are told of, by their ends -/
def filt : List Dat → List Int → Int → List Dat
  | d :: ds, e :: es, a => if e ≤ a then d :: filt ds es a else filt ds es a
  | _, _, _ => []
def endsOf (o : Nat) : List (List Int × Dat) → List Int
  | [] => []
  | (ks, _) :: F => ((o + ks.length : Nat) : Int) :: endsOf (o + ks.length) F
theorem ends_ge : ∀ (F : List (List Int × Dat)) (o : Nat), ∀ e ∈ endsOf o F, (o : Int) ≤ e
  | [], _, _, h => nomatch h
  | (ks, d) :: F, o, e, h => by
    rcases List.mem_cons.mp h with rfl | h
    · omega
    · have := ends_ge F (o + ks.length) e h
      omega
theorem filt_none : ∀ (ds : List Dat) (es : List Int) (a : Int), (∀ e ∈ es, a < e) → filt ds es a = []
  | [], _, _, _ => by simp [filt]
  | _ :: _, [], _, _ => rfl
  | d :: ds, e :: es, a, h => by
    have he := h e (.head _)
    show (if e ≤ a then d :: filt ds es a else filt ds es a) = []
    rw [if_neg (by omega)]
    exact filt_none ds es a fun x hx => h x (.tail _ hx)
theorem filt_taken (xd : List Dat) (xe : List Int) : ∀ (F : List (List Int × Dat)) (o n : Nat), (∀ e ∈ xe, ((o + n : Nat) : Int) < e) → filt (F.map (·.2) ++ xd) (endsOf o F ++ xe) ((o + n : Nat) : Int) = taken F n
  | [], o, n, h => filt_none _ _ _ h
  | (ks, d) :: F, o, n, h => by
    show (if ((o + ks.length : Nat) : Int) ≤ ((o + n : Nat) : Int) then d :: filt (F.map (·.2) ++ xd) (endsOf (o + ks.length) F ++ xe) _ else filt (F.map (·.2) ++ xd) (endsOf (o + ks.length) F ++ xe) _) = if n < ks.length then [] else d :: taken F (n - ks.length)
    by_cases hn : n < ks.length
    · rw [if_neg (by omega), if_pos hn]
      refine filt_none _ _ _ fun e he => ?_
      rcases List.mem_append.mp he with he | he
      · have := ends_ge F (o + ks.length) e he
        omega
      · exact h e he
    · rw [if_pos (by omega), if_neg hn]
      congr 1
      have e : o + n = o + ks.length + (n - ks.length) := by omega
      rw [e]
      exact filt_taken xd xe F (o + ks.length) (n - ks.length) (by rw [← e]; exact h)

/-- what `_law_is_heard` hears: True -/
inductive Hears (ds : List Dat) (es : List Int) (stop : Option Int) (code : Int) : List Int → List Dat → Int → List (List Int) → Prop
  | done {rest : List Int} {told : List Dat} {a : Int} : Hears ds es stop code rest told a []
  | goes {rest rest' p : List Int} {told new : List Dat} {a : Int} {ps : List (List Int)} : Takes (rest ++ p) new rest' none → rest.length + p.length < 1000 → new.length < 1000 → (∀ s, stop = some s → a + p.length < s) → told ++ new = filt ds es (a + p.length) →
      Hears ds es stop code rest' (told ++ new) (a + p.length) ps → Hears ds es stop code rest told a (p :: ps)
  | stops {rest rest' p : List Int} {told new : List Dat} {a s : Int} {ps : List (List Int)} : Takes (rest ++ p) new rest' (some code) → rest.length + p.length < 1000 → new.length < 1000 → stop = some s → s ≤ a + p.length → Hears ds es stop code rest told a (p :: ps)

theorem rest_len {X : List Int} : ∀ (F : List (List Int × Dat)) (n : Nat), (restOf F X n).length ≤ (octs F X).length
  | [], n => by show (X.take n).length ≤ X.length; rw [List.length_take]; omega
  | (ks, d) :: F, n => by
    show (if n < ks.length then ks.take n else restOf F X (n - ks.length)).length ≤ (ks ++ octs F X).length
    have := rest_len F (n - ks.length) (X := X)
    rw [List.length_append]
    split
    · rw [List.length_take]; omega
    · omega
theorem taken_len : ∀ (F : List (List Int × Dat)) (n : Nat), (taken F n).length ≤ F.length
  | [], n => Nat.le_refl _
  | (ks, d) :: F, n => by
    show (if n < ks.length then [] else d :: taken F (n - ks.length)).length ≤ F.length + 1
    have := taken_len F (n - ks.length)
    split
    · exact Nat.zero_le _
    · rw [List.length_cons]; omega
theorem hears_all {X : List Int} {b : Option (Nat × Int)} {F : List (List Int × Dat)} {xd : List Dat} {xe : List Int} {stop : Option Int} {code : Int} (hX : Tail X b) (hF : ∀ p ∈ F, Good p.1 p.2) (hO : (octs F X).length < 500) (hFl : F.length < 1000)
    (hb : match b with | none => stop = none ∧ xe = [] | some (many, c) => stop = some ((lenF F + many : Nat) : Int) ∧ c = code ∧ ∀ e ∈ xe, ((lenF F + many : Nat) : Int) ≤ e) :
    ∀ (ps : List (List Int)) (a : Nat), codeF F b a = none → (octs F X).drop a = ps.flatten → Hears (F.map (·.2) ++ xd) (endsOf 0 F ++ xe) stop code (restOf F X a) (taken F a) (a : Int) ps
  | [], _, _, _ => .done
  | p :: ps, a, hc, hp => by
    obtain ⟨new, T, q⟩ := takes_on hX F hF a p.length hc
    have hp' : ((octs F X).drop a).take p.length = p := by rw [hp]; simp
    rw [hp'] at T
    have hp2 : (octs F X).drop (a + p.length) = ps.flatten := by rw [← List.drop_drop, hp]; simp
    have hl1 : (restOf F X a).length + p.length < 1000 := by
      have h1 := rest_len F a (X := X)
      have h2 := congrArg List.length hp
      rw [List.length_drop, List.flatten_cons, List.length_append] at h2
      omega
    have hl2 : new.length < 1000 := by
      have h1 := taken_len F (a + p.length)
      rw [q, List.length_append] at h1
      omega
    cases e : codeF F b (a + p.length) with
    | none =>
      rw [e] at T
      have hlt : ∀ many c, b = some (many, c) → a + p.length < lenF F + many := fun many c hbe => by
        subst hbe
        unfold codeF codeAt at e
        by_cases h1 : lenF F ≤ a + p.length
        · rw [if_pos h1] at e
          dsimp only at e
          by_cases h2 : many ≤ a + p.length - lenF F
          · rw [if_pos h2] at e; cases e
          · omega
        · omega
      have ih := hears_all (xd := xd) hX hF hO hFl hb ps (a + p.length) e hp2
      rw [q] at ih
      refine Hears.goes T hl1 hl2 (fun s hs => ?_) ?_ ih
      · cases b with
        | none => rw [hb.1] at hs; cases hs
        | some x =>
          obtain ⟨many, c⟩ := x
          have := hlt many c rfl
          rw [hb.1] at hs; cases hs
          omega
      · rw [← q]
        have h := filt_taken xd xe F 0 (a + p.length) (fun x hx => by
          cases b with
          | none => rw [hb.2] at hx; cases hx
          | some y =>
            obtain ⟨many, c⟩ := y
            have := hlt many c rfl
            have := hb.2.2 x hx
            omega)
        rw [← h]
        congr 1
        omega
    | some c =>
      rw [e] at T
      cases b with
      | none => unfold codeF codeAt at e; split at e <;> cases e
      | some x =>
        obtain ⟨many, c'⟩ := x
        unfold codeF codeAt at e
        split at e
        · dsimp only at e
          split at e
          · cases e
            have hce := hb.2.1
            subst hce
            exact Hears.stops T hl1 hl2 hb.1 (by omega)
          · cases e
        · cases e
end Mine
end

section
open PySem PySem.W PySem.Calls PyProof.Rows PySem.Spec
namespace Mine
theorem right_good {ks : List Int} {d : Dat} (h : Right d ks) : Good ks d := by
  obtain ⟨kind, wide, pl, k0, k1, ko, w0, w1, hl, hp, rfl, e⟩ := h
  refine ⟨fun n hn => cut_full k0 k1 ko w0 w1 hl hn, fun q => ?_⟩
  rw [whole_next k0 k1 ko w0 w1 hl q, e]
theorem right_len {ks : List Int} {d : Dat} (h : Right d ks) : ks.length ≤ 25 := by
  obtain ⟨kind, wide, pl, k0, k1, ko, w0, w1, hl, hp, rfl, e⟩ := h
  have := headOf_len (a := kind) (b := wide) (c := (pl.length : Nat))
  rw [List.length_append]
  omega
theorem wrong_bad {ks : List Int} {many : Nat} {c : Int} (h : Wrong ks many c) : Bad ks many c := by
  rcases h with ⟨kind, wide, size, z, k0, k1, w0, w1, s0, s1, hz, rfl, rfl, h⟩ | ⟨kind, wide, pl, k0, k1, ko, w0, w1, hl, hp, rfl, rfl, e⟩
  · refine ⟨by simp, fun n hn => ?_, fun q => ?_⟩
    · rw [List.take_append_of_le_length (Nat.le_of_lt hn)]
      exact next_cut k0 k1 w0 w1 hn
    · rw [List.take_append_of_le_length (Nat.le_refl _), List.take_length, next_head k0 k1 w0 w1 s0 s1]
      rcases h with ⟨h, rfl⟩ | ⟨h, h2, rfl⟩
      · rw [if_pos h]
      · rw [if_neg h, if_pos h2]
  · refine ⟨Nat.le_refl _, fun n hn => cut_full k0 k1 ko w0 w1 hl hn, fun q => ?_⟩
    rw [List.take_length, whole_next k0 k1 ko w0 w1 hl q, e]
theorem wrong_len {ks : List Int} {many : Nat} {c : Int} (h : Wrong ks many c) : ks.length ≤ 30 := by
  rcases h with ⟨kind, wide, size, z, k0, k1, w0, w1, s0, s1, hz, rfl, rfl, h⟩ | ⟨kind, wide, pl, k0, k1, ko, w0, w1, hl, hp, rfl, rfl, e⟩
  · have := headOf_len (a := kind) (b := wide) (c := size)
    rw [List.length_append]
    omega
  · have := headOf_len (a := kind) (b := wide) (c := (pl.length : Nat))
    rw [List.length_append]
    omega
end Mine
end

section
open PySem PySem.W PySem.Calls PyProof.Rows PySem.SeqAt
namespace Mine
/-- data of a depth -/
def dOk : Nat → Dat → Bool
  | n + 1, .tuple ds => ds.all (dOk n)
  | n + 1, .list ds => ds.all (dOk n)
  | 0, .tuple _ => false
  | 0, .list _ => false
  | _, _ => true
theorem all_at {nw : List (Addr × Obj)} : ∀ {vs : List Value} {ds : List Dat}, DatAll nw vs ds → ∀ (j : Nat) (h : j < vs.length), ∃ d, ds[j]? = some d ∧ DatIn nw vs[j] d
  | _, _, .nil, j, h => absurd h (Nat.not_lt_zero _)
  | _, _, .cons hd r, 0, _ => ⟨_, rfl, hd⟩
  | _, _, .cons _ r, j + 1, h => by
    obtain ⟨d, e, x⟩ := all_at r j (Nat.lt_of_succ_lt_succ h)
    exact ⟨d, e, x⟩
theorem rc_bytes {A : Around} {s : Shared} {b : Array UInt8} {t u : Tok} : RcAt A s (.bytes b t) (.bytes b u) true := fun prog w E Q h =>
  richCompare_gives (op := .Eq) (T := "bytes") rfl rfl FB.slot_bytes_eq FB.entry_bytes_eq (FB.args_bytes_eq_2 _ _) (gives_bytes_eq b b t u) (fun x => nomatch x) (by rw [beq_self_eq_true]; exact h)
theorem eq_bytes_same {A : Around} {s : Shared} {b : Array UInt8} {t u : Tok} : EqAt A s (.bytes b t) (.bytes b u) true := fun prog w E Q h => by
  unfold eqBool
  refine wpAny_holding ?_
  refine wpAny_ite_split (fun _ => wpAny_bind (wpAny_rule (wpAny_pure h))) (fun _ => ?_)
  exact wpAny_bind (rc_bytes prog w E _ (wpAny_truthy_bool h))
theorem all_true (n : Nat) : (List.range n).all (fun _ => true) = true := List.all_eq_true.mpr fun _ _ => rfl
section
variable {s : Shared} {n1 n2 : List (Addr × Obj)}
theorem eq_dat (S1 : ∀ p ∈ n1, s.heap.get? p.1 = some p.2) (S2 : ∀ p ∈ n2, s.heap.get? p.1 = some p.2) : ∀ (n : Nat) (A : Around) {v v' : Value} {d : Dat}, dOk n d = true → DatIn n1 v d → DatIn n2 v' d → A.units + n < cLine → EqAt A s v v' true := by
  intro n
  have all : ∀ (A : Around) (n : Nat), (∀ {v v' : Value} {d : Dat}, dOk n d = true → DatIn n1 v d → DatIn n2 v' d → EqAt A s v v' true) → ∀ {vs vs' : List Value} {ds : List Dat}, ds.all (dOk n) = true → DatAll n1 vs ds → DatAll n2 vs' ds →
      ∀ j (h1 : j < vs.toArray.size) (h2 : j < vs'.toArray.size), EqAt A s vs.toArray[j] vs'.toArray[j] ((fun _ => true) j) := by
    intro A n ih vs vs' ds hd D1 D2 j h1 h2
    obtain ⟨d, e, x⟩ := all_at D1 j (by simpa using h1)
    obtain ⟨d', e', x'⟩ := all_at D2 j (by simpa using h2)
    rw [e] at e'; cases e'
    have := List.all_eq_true.mp hd d (List.mem_of_getElem? e)
    simpa using ih this x x'
  induction n with
  | zero =>
    intro A v v' d hd D1 D2 hu
    cases D1 with
    | none => cases D2; exact EqAt.same _
    | bool b => cases D2; exact EqAt.same _
    | int i t => cases D2 with | int _ u => simpa using EqAt.int_int (A := A) (s := s) i t i u
    | str x t => cases D2 with | str _ u => simpa using EqAt.str_str (A := A) (s := s) x t x u
    | bytes b t => cases D2 with | bytes _ u => exact eq_bytes_same
    | tuple _ _ => cases hd
    | list _ _ => cases hd
  | succ n ih =>
    intro A v v' d hd D1 D2 hu
    cases D1 with
    | none => cases D2; exact EqAt.same _
    | bool b => cases D2; exact EqAt.same _
    | int i t => cases D2 with | int _ u => simpa using EqAt.int_int (A := A) (s := s) i t i u
    | str x t => cases D2 with | str _ u => simpa using EqAt.str_str (A := A) (s := s) x t x u
    | bytes b t => cases D2 with | bytes _ u => exact eq_bytes_same
    | tuple h1 r1 => cases D2 with | tuple h2 r2 =>
      rename_i a vs k ds a' vs' k'
      by_cases hll : a = a'
      · subst hll; exact EqAt.same _
      · have T1 : s.heap.IsTuple a vs.toArray := ⟨_, S1 _ h1, rfl, _, rfl⟩
        have T2 : s.heap.IsTuple a' vs'.toArray := ⟨_, S2 _ h2, rfl, _, rfl⟩
        have q := RcAt.tuples (A := A) T1 T2 (by omega) (e := fun _ => true) (all A.in1 n (fun hd x y => ih A.in1 hd x y (by show A.units + 1 + n < _; omega)) hd r1 r2)
        have l : vs.toArray.size = vs'.toArray.size := by have a := r1.length; have b := r2.length; simp; omega
        rw [l] at q
        rw [all_true, beq_self_eq_true, Bool.true_and] at q
        exact EqAt.of_refs hll q
    | list h1 r1 => cases D2 with | list h2 r2 =>
      rename_i a vs k ds a' vs' k'
      by_cases hll : a = a'
      · subst hll; exact EqAt.same _
      · have T1 : s.heap.IsList a vs.toArray := ⟨_, S1 _ h1, rfl, _, rfl⟩
        have T2 : s.heap.IsList a' vs'.toArray := ⟨_, S2 _ h2, rfl, _, rfl⟩
        have l : vs.toArray.size = vs'.toArray.size := by have a := r1.length; have b := r2.length; simp; omega
        have q := RcAt.lists (A := A) T1 T2 l (by omega) (e := fun _ => true) (all A.in1 n (fun hd x y => ih A.in1 hd x y (by show A.units + 1 + n < _; omega)) hd r1 r2)
        rw [all_true] at q
        exact EqAt.of_refs hll q

theorem ne_dat {prog : Program} {w : World} {A : Around} {E : Value → Shared → Prop} {Q : Value → Shared → Prop} {a b : Addr} {vs vs' : List Value} {ds : List Dat} {n : Nat}
    (S1 : ∀ p ∈ n1, s.heap.get? p.1 = some p.2) (S2 : ∀ p ∈ n2, s.heap.get? p.1 = some p.2) (T1 : s.heap.IsList a vs.toArray) (T2 : s.heap.IsList b vs'.toArray) (D1 : DatAll n1 vs ds) (D2 : DatAll n2 vs' ds)
    (hd : ∀ d ∈ ds, dOk n d = true) (hu : A.units + 1 + n < cLine) (h : Q (.bool false) s) : wpAny (model prog w) A (compareOp .NotEq (.ref a) (.ref b)) Q E s := by
  have l : vs.toArray.size = vs'.toArray.size := by have a := D1.length; have b := D2.length; simp; omega
  have q := RcNeAt.lists (A := A) T1 T2 l (by omega) (e := fun _ => true) (fun j h1 h2 => by
    obtain ⟨d, e, x⟩ := all_at D1 j (by simpa using h1)
    obtain ⟨d', e', x'⟩ := all_at D2 j (by simpa using h2)
    rw [e] at e'; cases e'
    simpa using eq_dat S1 S2 n A.in1 (hd d (List.mem_of_getElem? e)) x x' hu)
  have q' : RcNeAt A s (.ref a) (.ref b) false := by rw [all_true] at q; exact q
  exact q' prog w E Q h
end
end Mine
end

section
open PySem PySem.W PySem.Calls PyProof.Rows PySem.Spec PyProof.Rows.LCg
namespace Mine
/-- the values whose ends are not beyond -/
def zfilt : List Value → List Int → Int → List Value
  | x :: xs, e :: es, a => if e ≤ a then x :: zfilt xs es a else zfilt xs es a
  | _, _, _ => []
theorem zfilt_drop {xs : List Value} {es : List Int} {a : Int} {i : Nat} {x : Value} {e : Int} (hx : xs[i]? = some x) (he : es[i]? = some e) :
    zfilt (xs.drop i) (es.drop i) a = (if e ≤ a then [x] else []) ++ zfilt (xs.drop (i + 1)) (es.drop (i + 1)) a := by
  have h1 := (List.getElem?_eq_some_iff.mp hx).1
  have h2 := (List.getElem?_eq_some_iff.mp he).1
  rw [List.drop_eq_getElem_cons h1, List.drop_eq_getElem_cons h2]
  have e1 := (List.getElem?_eq_some_iff.mp hx).2
  have e2 := (List.getElem?_eq_some_iff.mp he).2
  rw [e1, e2]
  show (if e ≤ a then x :: _ else _) = _
  split <;> rfl
theorem zfilt_end {xs : List Value} {es : List Int} {a : Int} {i : Nat} (h : min xs.length es.length ≤ i) : zfilt (xs.drop i) (es.drop i) a = [] := by
  by_cases h1 : xs.length ≤ i
  · rw [List.drop_eq_nil_of_le h1]; simp [zfilt]
  · rw [show es.drop i = [] from List.drop_eq_nil_of_le (by omega)]
    cases xs.drop i <;> rfl
theorem zfilt_length : ∀ (xs : List Value) (es : List Int) (a : Int), (zfilt xs es a).length ≤ xs.length
  | [], _, _ => by simp [zfilt]
  | _ :: _, [], _ => by simp [zfilt]
  | x :: xs, e :: es, a => by
    have := zfilt_length xs es a
    show (if e ≤ a then x :: zfilt xs es a else zfilt xs es a).length ≤ _
    split <;> simp <;> omega

/-- what zip(frames, ends) has made -/
def ZSrc (A : Around) (s : Shared) (h₀ : Heap) (L : Addr) (m : Str → Option Value) (news : List (Addr × Obj)) (l1 l2 : Addr) (xs ys : List Value) (xv : Value) (s₁ : Shared) : Prop :=
  ∃ (B : Nat) (h' : Heap) (tk : Nat), xv = .ref (B + 4) ∧ s₁ = { s with heap := h', toks := tk } ∧ A.handled = none ∧ IsZip h' (B + 4) (B + 2) (B + 3) .none ∧ IsPair h' (B + 2) (.ref B) (.ref (B + 1)) ∧ IsPair h' (B + 3) .none .none ∧ h'.IsListIter B l1 0 ∧ h'.IsListIter (B + 1) l2 0 ∧
    h'.IsList l1 xs.toArray ∧ h'.IsList l2 ys.toArray ∧ l1 < B ∧ l2 < B ∧ L < B ∧ (∀ p ∈ news, p.1 < B) ∧ h'.objs.size = B + 5 ∧ h₀.objs.size ≤ B ∧ Fr h₀ L h' m ∧ News h₀ L h' news

/-- what holds between two turns of such a comprehension -/
inductive ZipJ (s : Shared) (h₀ : Heap) (L : Addr) (m : Str → Option Value) (news : List (Addr × Obj)) (xs : List Value) (es : List Int) (av : Int) (St : Nat → Heap → Prop) (D C : Addr) (n k : Nat) (s' : Shared) : Prop
  | mk (h' : Heap) (tk i : Nat) (ys' : List Value) (m' : Str → Option Value) (e : s' = { s with heap := h', toks := tk }) (hi : i ≤ n) (hk : k = n + 1 - i) (hcat : ys' ++ zfilt (xs.drop i) (es.drop i) av = zfilt xs es av) (hyl : ys'.length ≤ i) (hst : St i h') (F : Fr h₀ L h' m) (hC : h'.Ns C m') (N : News h₀ L h' ((D, lst ys') :: news)) : ZipJ s h₀ L m news xs es av St D C n k s'
section
variable {prog : Program} {w : World} {A : Around} {E : Value → Shared → Prop} {s : Shared} {h₀ : Heap} {L : Addr} {m : Str → Option Value} {env : Env} {news : List (Addr × Obj)}
theorem zsrc {l1 l2 : Addr} {xs ys : List Value} {n1 n2 : Nat} (hh : A.handled = none) (F : Fr h₀ L s.heap m) (N : News h₀ L s.heap news) (m1 : (l1, W.listOf xs.toArray n1) ∈ news) (m2 : (l2, W.listOf ys.toArray n2) ∈ news) :
    wpAny (model prog w) A (call (.type "zip") [.ref l1, .ref l2]) (ZSrc A s h₀ L m news l1 l2 xs ys) E s := by
  have hl1 : s.heap.IsList l1 xs.toArray := ⟨_, (N _ m1).1, rfl, _, rfl⟩
  have hl2 : s.heap.IsList l2 ys.toArray := ⟨_, (N _ m2).1, rfl, _, rfl⟩
  refine call_zip_2 hl1 hl2 fun h' hz hTI hTO hi1 hi2 hsz hk => ?_
  exact ⟨_, h', s.toks, rfl, rfl, hh, hz, hTI, hTO, hi1, hi2, hl1.at fun o e => hk _ o e, hl2.at fun o e => hk _ o e, Heap.lt_size (N _ m1).1, Heap.lt_size (N _ m2).1, F.ns.lt, fun p hp => Heap.lt_size (N p hp).1, hsz,
    Nat.le_trans F.above (Nat.le_of_lt F.ns.lt), F.keeps hk, N.grown hk⟩

theorem zip_comp {elt iter c : PySem.Expr} {a b : Str} {pa pb tp : Pos} {kk : Nat} {scope : Scope} {cl : List (Str × Addr)} {pos : Pos} {Q : Value → Shared → Prop} {l1 l2 : Addr} {xs ys : List Value} {es : List Int} {av : Int} (hF₀ : Fr h₀ L s.heap m) (hN₀ : News h₀ L s.heap news)
    (hclos : closureFor scope env = pure cl) (hcell : ∀ y ∈ scope.names, y.2 ≠ .cell) (hkind : scope.kind = .function)
    (hnames : ∀ y ∈ scope.names, y.2 = .local → scope.names.lookup y.1 = some .local) (hxa : scope.names.lookup a = some .local) (hxb : scope.names.lookup b = some .local) (hab : ¬ a = b)
    (hys : IntsAre ys es) (hsz : xs.length ≤ 1000)
    (h : wpAny (model prog w) A (eval iter env) (ZSrc A s h₀ L m news l1 l2 xs ys) E s)
    (test : ∀ (h : Heap) (C : Addr) (oC : Obj) (m₂ : Str → Option Value) (tk : Nat) (x : Value) (e : Int) (te : Tok) (E' : Value → Shared → Prop), NsObj oC m₂ → m₂ a = some x → m₂ b = some (.int e te) → Fr h₀ L h m → News h₀ L h ((C, oC) :: news) →
      wpAny (model prog w) A (isTrue c (compEnvC scope cl C env) (eval c (compEnvC scope cl C env))) (fun ok s₃ => ok = decide (e ≤ av) ∧ ∃ tk', s₃ = { s with heap := h, toks := tk' }) E' { s with heap := h, toks := tk })
    (helt : ∀ (h : Heap) (C : Addr) (oC : Obj) (m₂ : Str → Option Value) (tk : Nat) (x : Value) (E' : Value → Shared → Prop), NsObj oC m₂ → m₂ a = some x → Fr h₀ L h m → News h₀ L h ((C, oC) :: news) →
      wpAny (model prog w) A (eval elt (compEnvC scope cl C env)) (fun y s₃ => y = x ∧ ∃ tk', s₃ = { s with heap := h, toks := tk' }) E' { s with heap := h, toks := tk })
    (fin : ∀ D h tk, Fr h₀ L h m → News h₀ L h ((D, lst (zfilt xs es av)) :: news) → (∀ p ∈ news, p.1 ≠ D) → Q (.ref D) { s with heap := h, toks := tk })
    (hs : ∀ x, foldedSetIterable iter env x = pure x := by intro _; rfl) :
    wpAny (model prog w) A (eval (.ListComp elt [⟨.Tuple [.Name a pa, .Name b pb] kk tp, iter, [c], 0⟩] scope pos) env) Q E s := by
  rw [eval_ListComp]
  refine wpAny_comprehension_free (use := none) rfl hs hclos hkind hnames (wpAny_mono h (fun xv s₁ h₁ => ?_) fun _ _ e => e)
  obtain ⟨B, hz', tkz, rfl, rfl, hh, hz, hTI, hTO, hi1, hi2, hl1, hl2, hlt1, hlt2, hLB, hnB, hsize, hgB, F, N⟩ := h₁
  refine wpAny_pyIter_zip hz ?_
  have Dz : ZipApart (B + 4) (B + 2) (B + 3) B (B + 1) l1 l2 := ktu_apart _ _ _ hlt1 hlt2
  have W := KTurns.ofWalksU (prog := prog) (w := w) (elts := [.Name a pa, .Name b pb]) (k := kk) (pos := tp) (WalksT.zip2 (prog := prog) (w := w) hh _ _ _ _ _ _ _ Dz xs.toArray ys.toArray).toU
  have hst : IsZip hz' (B + 4) (B + 2) (B + 3) .none ∧ IsPair hz' (B + 2) (.ref B) (.ref (B + 1)) ∧ (∃ a b, IsPair hz' (B + 3) a b) ∧ hz'.IsListIter B l1 0 ∧ hz'.IsListIter (B + 1) l2 0 ∧ hz'.IsList l1 xs.toArray ∧ hz'.IsList l2 ys.toArray := ⟨hz, hTI, ⟨_, _, hTO⟩, hi1, hi2, hl1, hl2⟩
  have hself : ∀ (i : Nat) (s₃ : Shared) (Q' : Value → Shared → Prop) (E' : Value → Shared → Prop), (IsZip s₃.heap (B + 4) (B + 2) (B + 3) .none) → Q' (.ref (B + 4)) s₃ → wpAny (model prog w) A (pyIter (.ref (B + 4))) Q' E' s₃ := fun i s₃ Q' E' z q => wpAny_pyIter_zip z q
  generalize hfp : [B + 4, B + 2, B + 3, B, B + 1, l1, l2] = fp at W
  generalize hwr : [B + 4, B + 3, B, B + 1] = wr at W
  have hfpB : ∀ b ∈ fp, b < B + 5 := fun b hb => by
    rw [← hfp] at hb
    have hb' : b = B + 4 ∨ b = B + 2 ∨ b = B + 3 ∨ b = B ∨ b = B + 1 ∨ b = l1 ∨ b = l2 := by simpa using hb
    have t1 : @LT.lt Nat _ l1 B := hlt1
    have t2 : @LT.lt Nat _ l2 B := hlt2
    show @LT.lt Nat _ b (B + 5)
    rcases hb' with e | e | e | e | e | e | e <;> rw [e] <;> first | exact Nat.lt_of_lt_of_le t1 (Nat.le_add_right _ _) | exact Nat.lt_of_lt_of_le t2 (Nat.le_add_right _ _) | exact Nat.lt_succ_self _ | (show @LT.lt Nat _ _ _; omega)
  have hwrB : ∀ b ∈ wr, B ≤ b := fun b hb => by
    rw [← hwr] at hb
    have hb' : b = B + 4 ∨ b = B + 3 ∨ b = B ∨ b = B + 1 := by simpa using hb
    show @LE.le Nat _ B b
    rcases hb' with e | e | e | e <;> rw [e] <;> first | exact Nat.le_refl _ | exact Nat.le_add_right _ _
  obtain ⟨St, Md, W, hst⟩ : ∃ (St : Nat → Heap → Prop) (Md : Nat → Value → Heap → Prop), KTurns prog w A (.Tuple [.Name a pa, .Name b pb] kk tp) (B + 4) fp wr (min xs.toArray.size ys.toArray.size)
      (fun i v h => ∃ T vals, v = .ref T ∧ (∃ x y, xs.toArray[i]? = some x ∧ ys.toArray[i]? = some y ∧ vals = #[x, y]) ∧ h.IsTuple T vals) Md St ∧ St 0 hz' := ⟨_, _, W, hst⟩
  generalize hn : min xs.toArray.size ys.toArray.size = n at W
  have hyl : ys.length = es.length := hys.length
  have hn' : n = min xs.length es.length := by rw [← hn, ← hyl]; simp
  refine wpAny_newObj_type (wpAny_newFunctionEnv hcell (by intro y hy; simp at hy) (fun h₁ hns₁ hsb₁ => ?_) hkind)
  dsimp only at hns₁ hsb₁ ⊢
  generalize hH2 : hz'.push { cls := .type "list", dict := none, data := .seq ([] : List Value).toArray } = H2 at hns₁ hsb₁ ⊢
  have hC : H2.objs.size = hz'.objs.size + 1 := by rw [← hH2, Heap.size_push]
  have hDC : hz'.objs.size ≠ H2.objs.size := by rw [hC]; exact Nat.ne_of_lt (Nat.lt_succ_self _)
  have below : ∀ b, b < hz'.objs.size → b ≠ H2.objs.size ∧ b ≠ hz'.objs.size := fun b hb => ⟨by rw [hC]; exact Nat.ne_of_lt (Nat.lt_succ_of_lt hb), Nat.ne_of_lt hb⟩
  have hDf : hz'.objs.size ∉ fp := fun hm => Nat.lt_irrefl _ (hsize ▸ hfpB _ hm)
  have hCf : H2.objs.size ∉ fp := fun hm => by
    have q := hfpB _ hm
    rw [hC, hsize] at q
    exact Nat.lt_irrefl _ (Nat.lt_of_succ_lt q)
  have old : ∀ b o, hz'.get? b = some o → h₁.get? b = some o := fun b o e => hsb₁.extBut b o (below b (Heap.lt_size e)).1 (Heap.get?_push_of_some _ (hH2 ▸ Heap.get?_push_of_some _ e))
  have hacc : h₁.get? hz'.objs.size = some (lst []) := hsb₁.extBut _ _ hDC (Heap.get?_push_of_some _ (hH2 ▸ Heap.get?_push_size _ rfl))
  have hst₁ := W.frame _ _ _ hst fun b _ o e => old b o e
  have fresh : ∀ a, hz'.objs.size ≤ a → hz'.get? a = none := fun a ha => Heap.get?_none_of_le ha
  have fresh₀ : ∀ a, hz'.objs.size ≤ a → h₀.get? a = none := fun a ha => by
    cases e : h₀.get? a with
    | none => rfl
    | some o' => have := F.keep a o' e; rw [fresh a ha] at this; cases this
  have hD₀ : h₀.get? hz'.objs.size = none := fresh₀ _ (Nat.le_refl _)
  have hC₀ : h₀.get? H2.objs.size = none := fresh₀ _ (by rw [hC]; exact Nat.le_succ _)
  have hLlt : L < hz'.objs.size := F.ns.lt
  have hDL : hz'.objs.size ≠ L := Ne.symm (below L hLlt).2
  have hCL : H2.objs.size ≠ L := Ne.symm (below L hLlt).1
  have offN : ∀ p ∈ news, p.1 ≠ H2.objs.size ∧ p.1 ≠ hz'.objs.size ∧ p.1 ∉ wr := fun p hp => ⟨(below _ (Heap.lt_size (N p hp).1)).1, (below _ (Heap.lt_size (N p hp).1)).2, fun hm => Nat.lt_irrefl _ (Nat.lt_of_lt_of_le (hnB p hp) (hwrB _ hm))⟩
  have hwr₀ : ∀ b ∈ wr, h₀.get? b = none := fun b hb => Heap.get?_none_of_le (Nat.le_trans hgB (hwrB b hb))
  have hLw : L ∉ wr := fun hm => Nat.lt_irrefl _ (Nat.lt_of_lt_of_le hLB (hwrB _ hm))
  have hCw : H2.objs.size ∉ wr := fun hm => hCf (W.sub _ hm)
  have hDw : hz'.objs.size ∉ wr := fun hm => hDf (W.sub _ hm)
  have loop : ∀ s₃ : Shared, s₃ = { s with heap := h₁, toks := tkz + ([] : List (Str × Value)).length } →
      codeAny (model prog w) A (.compLoop (.ListComp elt [⟨.Tuple [.Name a pa, .Name b pb] kk tp, iter, [c], 0⟩] scope pos) 0 (.ref (B + 4)) (.ref hz'.objs.size) (compEnvC scope cl H2.objs.size env))
        (compPost (model prog w) A E none Q (.ref hz'.objs.size) H2.objs.size) s₃ := by
    rintro s₃ rfl
    refine kct_loop
      (ZipJ s h₀ L m news xs es av St hz'.objs.size H2.objs.size n) ?_ (n + 1)
      ⟨h₁, _, 0, [], _, rfl, Nat.zero_le _, rfl, by simp, Nat.zero_le _, hst₁, F.keeps old, hns₁, fun p hp => ?_⟩
    · rintro k s' ⟨h', tk, i, ys', m', rfl, hi, rfl, hcat, hyl', hst', F', hnC, N'⟩
      by_cases hlt : i < n
      · refine W.item i _ _ _ hlt hst' fun v h₂ tk₂ hMd hk₂ => ?_
        refine W.go i v _ _ _ hMd fun h₃ hP hst₃ hk₃ => ?_
        obtain ⟨T, vals, rfl, ⟨x, y, hx, hy, rfl⟩, hT⟩ := hP
        have hx' : xs[i]? = some x := by simpa using hx
        have hy' : ys[i]? = some y := by simpa using hy
        obtain ⟨e, te, rfl, he⟩ := IntsAre.at hys i y hy'
        have up₃ : ∀ c o, c ∉ wr → h'.get? c = some o → h₃.get? c = some o := fun c o hc q => hk₃ c o hc (hk₂ c o hc q)
        refine kcp_assign (env := compEnvC scope cl H2.objs.size env) hh hT (lookup_relabel_local hxa) (lookup_relabel_local hxb) (by simp [compEnvC, relabel, hkind]) (hnC.at' fun o q => up₃ _ o hCw q) fun h₄ tk₄ hn₄ hs₄ => ?_
        have up : ∀ c o, c ∉ wr → c ≠ H2.objs.size → h'.get? c = some o → h₄.get? c = some o := fun c o h1 h2 q => hs₄ c o h2 (up₃ c o h1 q)
        have hst₄ : St (i + 1) h₄ := W.frame _ _ _ hst₃ fun b hb o q => hs₄ b o (fun z => hCf (by have z' : b = H2.objs.size := z; rw [← z']; exact hb)) q
        obtain ⟨oC, heC, hoC⟩ := ns_obj hn₄
        have F₄ : Fr h₀ L h₄ m := ⟨F'.ns.at' fun o q => up _ o hLw (Ne.symm hCL) q, fun c o q => up c o (fun z => by rw [hwr₀ c z] at q; cases q) (fun z => by rw [z, hC₀] at q; cases q) (F'.keep c o q), F'.above⟩
        have N₄ : News h₀ L h₄ ((H2.objs.size, oC) :: (hz'.objs.size, lst ys') :: news) := fun q hq => by
          rcases List.mem_cons.mp hq with rfl | hq
          · exact ⟨heC, hCL, hC₀⟩
          · have z := N' q hq
            refine ⟨up _ _ ?_ ?_ z.1, z.2⟩
            · rcases List.mem_cons.mp hq with rfl | hq
              · exact hDw
              · exact (offN q hq).2.2
            · rcases List.mem_cons.mp hq with rfl | hq
              · exact hDC
              · exact (offN q hq).1
        have N₅ : News h₀ L h₄ ((H2.objs.size, oC) :: news) := fun q hq => by
          rcases List.mem_cons.mp hq with rfl | hq
          · exact N₄ _ (.head _)
          · exact N₄ _ (.tail _ (.tail _ hq))
        have drop : zfilt (xs.drop i) (es.drop i) av = (if e ≤ av then [x] else []) ++ zfilt (xs.drop (i + 1)) (es.drop (i + 1)) av := zfilt_drop hx' he
        refine wpAny_mono (test h₄ H2.objs.size oC _ _ x e te _ hoC (by simp [hab]) (by simp) F₄ N₅) (fun ok s₅ h₅ => ?_) fun _ _ z => z
        obtain ⟨rfl, tk₅, rfl⟩ := h₅
        by_cases hle : e ≤ av
        · rw [if_pos (by simpa using hle)]
          rw [if_pos hle] at drop
          refine wpAny_mono (helt h₄ H2.objs.size oC _ _ x _ hoC (by simp [hab]) F₄ N₅) (fun y s₆ h₆ => ?_) fun _ _ z => z
          obtain ⟨rfl, tk₆, rfl⟩ := h₆
          refine append_at (hsz := by show ys'.toArray.size ≤ sizeLine; rw [List.size_toArray, sizeLine_eq]; omega) (N₄ _ (.tail _ (.head _))).1 fun h₆ hs₆ hD₆ => ?_
          refine ⟨n + 1 - (i + 1), by omega, h₆, tk₆, i + 1, ys' ++ [y], _, rfl, hlt, rfl, ?_, by simp; omega, W.frame _ _ _ hst₄ fun b hb o q => hs₆.extBut b o (fun z => hDf (z ▸ hb)) q, F₄.change hs₆ hDL hD₀, (hoC.ns heC).sameBut hs₆ (Ne.symm hDC), fun q hq => ?_⟩
          · rw [← hcat, drop]; simp
          · rcases List.mem_cons.mp hq with rfl | hq
            · exact ⟨hD₆.trans (congrArg some (lst_snoc ys' y)), hDL, hD₀⟩
            · exact ⟨hs₆.extBut _ _ (offN q hq).2.1 (N₄ q (.tail _ (.tail _ hq))).1, (N₄ q (.tail _ (.tail _ hq))).2⟩
        · rw [if_neg (by simpa using hle)]
          rw [if_neg hle] at drop
          refine ⟨n + 1 - (i + 1), by omega, h₄, tk₅, i + 1, ys', _, rfl, hlt, rfl, ?_, by omega, hst₄, F₄, hoC.ns heC, fun q hq => N₄ q (.tail _ hq)⟩
          rw [← hcat, drop]; rfl
      · obtain rfl : i = n := Nat.le_antisymm hi (Nat.not_lt.mp hlt)
        rw [zfilt_end (by omega), List.append_nil] at hcat
        subst hcat
        refine W.done _ _ _ hst' fun h₂ tk₂ hk₂ => ?_
        have F₂ : Fr h₀ L h₂ m := ⟨F'.ns.at' fun o q => hk₂ _ o hLw q, fun c o q => hk₂ c o (fun z => by rw [hwr₀ c z] at q; cases q) (F'.keep c o q), F'.above⟩
        have N₂ : News h₀ L h₂ ((hz'.objs.size, lst (zfilt xs es av)) :: news) := fun q hq => by
          refine ⟨hk₂ _ _ ?_ (N' q hq).1, (N' q hq).2⟩
          rcases List.mem_cons.mp hq with rfl | hq
          · exact hDw
          · exact (offN q hq).2.2
        refine ⟨m', hnC.at' fun o q => hk₂ _ o hCw q, fun h'' hs'' => fin _ h'' tk₂ (F₂.change hs'' hCL hC₀) (fun q hq => ⟨hs''.extBut _ _ ?_ (N₂ q hq).1, (N₂ q hq).2⟩) fun q hq => (offN q hq).2.1⟩
        rcases List.mem_cons.mp hq with rfl | hq
        · exact hDC
        · exact (offN q hq).1
    · rcases List.mem_cons.mp hp with rfl | hp
      · exact ⟨hacc, hDL, hD₀⟩
      · exact ⟨old _ _ (N p hp).1, (N p hp).2⟩
  exact codeAny_compStart_list (loop _ rfl) (wpAny_pyIter_zip (old _ _ hz) (loop _ rfl))
end
end Mine
end

section
open PySem PySem.W PySem.Calls PyProof.Rows PySem.Spec
namespace Mine
section
variable {prog : Program} {w : World} {A : Around} {E : Value → Shared → Prop} {s : Shared} {env : Env} {x : Str} {px : Pos} {body : List Stmt} {Q : Flow → Shared → Prop}
/-- a for over a list that stays, by what holds of the items that are left -/
theorem for_list {I p : Addr} {items : List Value} {J : List Value → Shared → Prop} (hh : A.handled = none) (hE : PassesOwn (model prog w) A env E)
    (hJ : ∀ pre rest s', pre ++ rest = items → J rest s' → s'.heap.IsListIter I p pre.length ∧ s'.heap.IsList p items.toArray)
    (step : ∀ pre v rest s' h', pre ++ v :: rest = items → J (v :: rest) s' → h'.IsListIter I p (pre.length + 1) → (∀ b o, b ≠ I → s'.heap.get? b = some o → h'.get? b = some o) →
      wpAny (model prog w) A (assign (.Name x px) env v) (fun _ s₂ => wpAny (model prog w) A (execs body env) (fun f s₃ => match f with | .next => Halt (J rest s₃) | .cont => Halt (J rest s₃) | .brk => Q .next s₃ | .ret v => Q (.ret v) s₃) E s₂) E { s' with heap := h' })
    (done : ∀ s' h', J [] s' → (∀ b o, b ≠ I → s'.heap.get? b = some o → h'.get? b = some o) → Q .next { s' with heap := h' }) (h : J items s) :
    codeAny (model prog w) A (.forLoop (.Name x px) (.ref I) body [] env) (fun r s' => match r with | .ok f => Q f s' | .error e => cameBackBy (model prog w) A env E e s') s := by
  refine codeAny_forLoop_any (fun k s' => ∃ pre rest, pre ++ rest = items ∧ k = rest.length + 1 ∧ J rest s') ?_ (items.length + 1) ⟨[], items, rfl, rfl, h⟩
  rintro k s' ⟨pre, rest, hcat, rfl, hj⟩
  obtain ⟨hit, hl⟩ := hJ pre rest s' hcat hj
  cases rest with
  | nil =>
    rw [List.append_nil] at hcat
    refine wpAny_pyNext_list_end hh hit hl (by rw [← hcat]; simp) fun h' he => ?_
    exact wpAny_execs_nil (done s' h' hj he)
  | cons v rest =>
    refine wpAny_pyNext_list_item (x := v) hit hl (by rw [← hcat]; simp) fun h' hit' hs => ?_
    refine wpAny_of_eq (a := ()) rfl ?_
    refine wpAny_passesOwn hE (wpAny_mono (step pre v rest s' h' hcat hj hit' fun b o hb e => hs.extBut b o hb e) (fun _ s₂ h₂ => wpAny_passesOwn hE (wpAny_mono h₂ (fun f s₃ h₃ => ?_) fun _ _ z => z)) fun _ _ z => z)
    cases f with
    | next => exact ⟨rest.length + 1, by simp, pre ++ [v], rest, by rw [← hcat]; simp, rfl, h₃⟩
    | cont => exact ⟨rest.length + 1, by simp, pre ++ [v], rest, by rw [← hcat]; simp, rfl, h₃⟩
    | brk => exact h₃
    | ret v => exact h₃
end
end Mine
end

section
open PySem PySem.W PySem.Calls PyProof.Rows PySem.Spec
namespace Mine
/-- apart from the cell, the iterator and the stream -/
def Off4 (c I x dx q : Nat) : Prop := @Ne Nat q c ∧ @Ne Nat q I ∧ @Ne Nat q x ∧ @Ne Nat q dx
theorem Off4.lt {c I x dx q : Nat} (h : q < c) (h1 : c < dx) (h2 : dx < x) (h3 : x < I) : Off4 c I x dx q := ⟨by omega, by omega, by omega, by omega⟩
theorem iter_next {g h h' : Heap} {L I : Addr} {m : Str → Option Value} {pre post : List (Addr × Obj)} {oI oI' : Obj} (F : Fr g L h m) (N : News g L h (pre ++ (I, oI) :: post)) (hk : ∀ b o, b ≠ I → h.get? b = some o → h'.get? b = some o) (e : h'.get? I = some oI')
    (hd : ∀ p ∈ pre ++ post, p.1 ≠ I) : Fr g L h' m ∧ News g L h' (pre ++ (I, oI') :: post) := by
  have hI := N (I, oI) (List.mem_append.mpr (.inr (.head _)))
  refine ⟨LCg.fr_but F (fun b o hb e => hk b o (fun q => hb (List.mem_singleton.mpr q)) e) (Ne.symm hI.2.1) hI.2.2, fun p hp => ?_⟩
  rcases List.mem_append.mp hp with hp | hp
  · have := N p (List.mem_append.mpr (.inl hp))
    exact ⟨hk _ _ (hd p (List.mem_append.mpr (.inl hp))) this.1, this.2⟩
  rcases List.mem_cons.mp hp with rfl | hp
  · exact ⟨e, hI.2⟩
  · have := N p (List.mem_append.mpr (.inr (.tail _ hp)))
    exact ⟨hk _ _ (hd p (List.mem_append.mpr (.inr hp))) this.1, this.2⟩
/-- what stands behind a call that has changed the stream alone -/
theorem behind {g h h' : Heap} {L x dx : Addr} {fs : List Addr} {o o' : Obj} {R : List (Addr × Obj)} (N : News g L h ((x, instObj 139 dx) :: (dx, o) :: R)) (K : Keep fs [x, dx] h h') (hfs : ∀ q ∈ R, q.1 ∉ fs) (hoff : ∀ q ∈ R, q.1 ≠ x ∧ q.1 ≠ dx)
    (e1 : h'.get? x = some (instObj 139 dx)) (e2 : h'.get? dx = some o') : ∀ q ∈ (x, instObj 139 dx) :: (dx, o') :: R, h'.get? q.1 = some q.2 ∧ q.1 ≠ L ∧ g.get? q.1 = none := fun q hq => by
  rcases List.mem_cons.mp hq with rfl | hq
  · exact ⟨e1, (N _ (.head _)).2⟩
  rcases List.mem_cons.mp hq with rfl | hq
  · exact ⟨e2, (N (dx, o) (.tail _ (.head _))).2⟩
  · exact ⟨K.get (N q (.tail _ (.tail _ hq))).1 (hfs q hq) (by simp [hoff q hq]), (N q (.tail _ (.tail _ hq))).2⟩
end Mine
namespace Mine
theorem keep_end {h g h' base : Heap} {l : List Env} {L : Addr} {m : Str → Option Value} {own : List (Addr × Obj)} (G : Gro (adrs l) (own.map (·.1)) h g) (F : Fr g L h' m) (ho : Own base l h own) (hst : ∀ q ∈ own, h'.get? q.1 = some q.2) : Keep (adrs l) [] h h' := fun b o e => by
  obtain ⟨o', e', k⟩ := G.keep F (fun b hb => by obtain ⟨q, hq, rfl⟩ := List.mem_map.mp hb; exact ⟨_, hst q hq⟩) b o e
  by_cases hb : b ∈ own.map (·.1)
  · obtain ⟨q, hq, rfl⟩ := List.mem_map.mp hb
    rw [(ho q hq).1] at e
    cases e
    exact ⟨_, hst q hq, fun _ => ⟨fun _ => rfl, _, rfl⟩⟩
  · exact ⟨o', e', fun _ => k hb⟩
theorem News.of_sub {g h : Heap} {L : Addr} {a b : List (Addr × Obj)} (N : News g L h a) (s : ∀ p ∈ b, p ∈ a) : News g L h b := fun p hp => N p (s p hp)
theorem filt_mem : ∀ (ds : List Dat) (es : List Int) (a : Int), ∀ d ∈ filt ds es a, d ∈ ds
  | [], es, a, d, h => by simp [filt] at h
  | _ :: _, [], _, _, h => nomatch h
  | x :: ds, e :: es, a, d, h => by
    have h' : d ∈ (if e ≤ a then x :: filt ds es a else filt ds es a) := h
    split at h'
    · rcases List.mem_cons.mp h' with rfl | h'
      · exact .head _
      · exact .tail _ (filt_mem ds es a d h')
    · exact .tail _ (filt_mem ds es a d h')
theorem filt_len : ∀ (ds : List Dat) (es : List Int) (a : Int), (filt ds es a).length ≤ ds.length
  | [], es, a => by simp [filt]
  | _ :: _, [], _ => by simp [filt]
  | x :: ds, e :: es, a => by
    have := filt_len ds es a
    show (if e ≤ a then x :: filt ds es a else filt ds es a).length ≤ _
    split <;> simp <;> omega
theorem zfilt_all {nw : List (Addr × Obj)} : ∀ {vs : List Value} {ds : List Dat}, DatAll nw vs ds → ∀ (es : List Int) (a : Int), DatAll nw (zfilt vs es a) (filt ds es a)
  | _, _, .nil, es, a => by simp only [zfilt, filt]; exact .nil
  | _, _, .cons _ _, [], _ => .nil
  | _, _, .cons (v := v) (vs := vs) (d := d) (ds := ds) hd r, e :: es, a => by
    show DatAll nw (if e ≤ a then v :: zfilt vs es a else zfilt vs es a) (if e ≤ a then d :: filt ds es a else filt ds es a)
    split
    · exact .cons hd (zfilt_all r es a)
    · exact zfilt_all r es a
end Mine
end

section
open PySem PySem.W PySem.Calls PyProof.Rows PySem.Spec Builtin Builtin.ObjectAttr
namespace Mine
theorem exc_ga : Slot "Exception" "__getattribute__" "BaseException.__getattribute__" := .of (owner := "BaseException") (n := "__getattribute__") (by rw [typeLookup_type, builtinLookup_eq_fast]; kernel_rfl) (by decide +kernel) (by decide +kernel) (by decide +kernel)
    (by first | exact .inl (by decide +kernel) | exact .inr (by decide +kernel)) (by rw [isSubtype_type]; kernel_rfl)
theorem exc_gattr : typeLookup (.type "Exception") "__getattr__" = pure none := by rw [typeLookup_type, builtinLookup_eq_fast]; kernel_rfl
theorem ga_kind : builtinKind "BaseException.__getattribute__" = some .slot := by decide +kernel
theorem ga_split : splitId "BaseException.__getattribute__" = some ("BaseException", "__getattribute__") := by decide +kernel
section
variable {prog : Program} {w : World} {A : Around} {E : Value → Shared → Prop} {h : Heap} {g : Array GenState} {d : Drawn} {t : Nat} {os : OsState} {C N fI x D : Addr} {mA : Str → Option Value} {v : Value} {o : Obj}
theorem exc_entry {tk : Tok} {Q : Fin → Shared → Prop} {nm : String} {ad : Addr} {t1 t2 : Tok} {mN : Str → Option Value} (hC : h.get? C = some (clsObj nm C N ad t1 t2)) (hN : h.Ns N mN) (hna : mN "code" = none)
    (hx : h.get? x = some o) (hc : o.cls = .ref C) (hdi : o.dict = some D) (hnc : ∀ c, o.data ≠ .cls c) (hns : h.Ns D mA) (hv : mA "code" = some v) (hq : Q (.done (.ret v)) ⟨h, g, d, t, os⟩) :
    wpAny (model prog w) A (Builtin.«object.__getattribute__» ⟨[.ref x, .str "code" tk], []⟩) Q E ⟨h, g, d, t, os⟩ := by
  have SF := PySem.F.store_Exception
  have hB := exc_none "code" (by simp)
  unfold Builtin.«object.__getattribute__»
  repeat (first | (with_reducible refine wpAny_loadPart_at hx ?_; rw [hc]) | (with_reducible refine wpAny_typeLookup_exc hC hN SF.mro hB ?_; rw [hna]) | wp_step)
  split
  · rename_i c hcd
    exact absurd hcd (hnc c)
  unfold instanceDict
  repeat (first | (with_reducible refine wpAny_loadPart_at hx ?_; rw [hc]) | with_reducible refine wpAny_loadPart_at hC ?_ | wp_step)
  rw [hdi]
  repeat (first | (with_reducible refine wpAny_nsGet hns ?_; rw [hv]) | wp_step)
  exact hq

theorem exc_check {nm : String} {ad : Addr} {t1 t2 tk : Tok} {M : Model} {Q : Unit → Shared → Prop} (hC : h.get? C = some (clsObj nm C N ad t1 t2)) (hx : h.get? x = some o) (hc : o.cls = .ref C) (hq : Q () ⟨h, g, d, t, os⟩) :
    wpAny M A (checkBuiltinCall "BaseException.__getattribute__" ⟨[.ref x, .str "code" tk], []⟩) Q E ⟨h, g, d, t, os⟩ := by
  have hcB : (Value.ref C :: excMro).contains (.type "BaseException") = true := by simp
  have ha := F.args_bexc_ga (.ref x) (.str "code" tk)
  simp only [checkBuiltinCall, ga_kind, ga_split]
  refine wpAny_bind ?_
  · unfold isInstance
    repeat (first | (with_reducible refine wpAny_loadPart_at hx ?_; rw [hc]) | (with_reducible refine wpAny_isSubtype_exc hC ?_; rw [hcB]) | wp_step)
    cases hsig : Manifest.signature? "BaseException.__getattribute__" with
    | none => exact hq
    | some sig => exact hq

theorem exc_call {tk : Tok} {R : Result → Shared → Prop} {nm : String} {ad : Addr} {t1 t2 : Tok} {mN : Str → Option Value} (hC : h.get? C = some (clsObj nm C N ad t1 t2)) (hN : h.Ns N mN) (hna : mN "code" = none)
    (hx : h.get? x = some o) (hc : o.cls = .ref C) (hdi : o.dict = some D) (hnc : ∀ c, o.data ≠ .cls c) (hns : h.Ns D mA) (hv : mA "code" = some v) (hq : R (.ok (.ret v)) ⟨h, g, d, t, os⟩) :
    codeAny (model prog w) A (.call (.builtin "BaseException.__getattribute__") ⟨[.ref x, .str "code" tk], []⟩) R ⟨h, g, d, t, os⟩ :=
  codeAny_call_builtin exc_ga.plain F.entry_bexc_ga (exc_check hC hx hc (exc_entry hC hN hna hx hc hdi hnc hns hv hq))

theorem exc_attr {expr : Bool} {c : Int} {tc : Tok} {Q : Value → Shared → Prop} (K : ExcCls h C N fI) (hx : h.get? x = some o) (hc : o.cls = .ref C) (hdi : o.dict = some D) (hnc : ∀ c, o.data ≠ .cls c) (hns : h.Ns D mA) (hv : mA "code" = some (.int c tc))
    (hq : Q (.int c tc) ⟨h, g, d, t + 1, os⟩) : wpAny (model prog w) A (getAttr (.ref x) "code" expr) Q E ⟨h, g, d, t, os⟩ := by
  obtain ⟨⟨nm, ad, t1, t2, hC⟩, ⟨mN, hN, -, hno⟩, -⟩ := K
  have SF := PySem.F.store_Exception
  have hna : mN "code" = none := hno _ (by simp)
  have hnga : mN "__getattribute__" = none := hno _ (by simp)
  have hngt : mN "__getattr__" = none := hno _ (by simp)
  have hga := exc_ga.lookup
  have hgt := exc_gattr
  have f3 := exc_ga.bind (.ref x)
  have hx0 : (expr && onTheHeap (Value.builtin "BaseException.__getattribute__")) = false := by cases expr <;> rfl
  unfold getAttr getAttrBy
  repeat (first | (with_reducible refine wpAny_loadPart_at hx ?_; rw [hc]) | (with_reducible refine wpAny_typeLookup_exc hC hN SF.mro hga ?_; rw [hnga]) | (with_reducible refine wpAny_typeLookup_exc hC hN SF.mro hgt ?_; rw [hngt]) | wp_step)
  refine exc_call hC hN hna hx hc hdi hnc hns hv ?_
  exact wpAny_pure hq
end
end Mine
end

section
open PySem PySem.W PySem.Calls PyProof.Rows PySem.Spec
namespace Mine
/-- an exception whose code can be read -/
def ExcAt (h : Heap) (e C : Addr) (c : Int) (tc : Tok) : Prop := ∃ oe D mA, h.get? e = some oe ∧ oe.cls = .ref C ∧ oe.dict = some D ∧ (∃ vs, oe.data = .fields vs) ∧ h.Ns D mA ∧ mA "code" = some (.int c tc)
theorem fly_at {h : Heap} {e C T : Addr} {mA : Str → Option Value} {fl : Value} {c : Int} {tc : Tok} (X : Fly h e C T mA fl) (hv : mA "code" = some (.int c tc)) : ExcAt h e C c tc := by
  obtain ⟨⟨oe, vs, d, he, hc, hdi, hd, h1, hw, hns⟩, -, -⟩ := X
  exact ⟨oe, d, mA, he, hc, hdi, ⟨vs, hd⟩, hns.ns, hv⟩
/-- another name of the frame is stored -/
theorem ExcAt.stored {h h' : Heap} {e C L : Addr} {c : Int} {tc : Tok} {m : Str → Option Value} {n : Str} {v : Value} (X : ExcAt h e C c tc) (hn : h.Ns L m) (hn' : h'.Ns L (fun y => if y = n then some v else m y)) (hs : Heap.SameBut L h h') (hne : n ≠ "code") : ExcAt h' e C c tc := by
  obtain ⟨oe, D, mA, he, hc, hdi, ⟨vs, hd⟩, hns, hv⟩ := X
  have heL : e ≠ L := fun q => by
    obtain ⟨o, es, ep, eo, hod, _⟩ := hn
    rw [← q, he] at eo
    cases eo
    rw [hd] at hod
    cases hod
  have he' : h'.get? e = some oe := hs.extBut e oe heL he
  by_cases q : D = L
  · subst q
    refine ⟨oe, D, _, he', hc, hdi, ⟨vs, hd⟩, hn', ?_⟩
    obtain ⟨o, es, ep, eo, hod, _, hm⟩ := hn
    obtain ⟨o2, es2, ep2, eo2, hod2, _, hm2⟩ := hns
    rw [eo] at eo2
    cases eo2
    rw [hod] at hod2
    cases hod2
    have hb : ¬ (Str.ofString "code" = n) := fun z => hne z.symm
    show (if Str.ofString "code" = n then some v else m (Str.ofString "code")) = _
    rw [if_neg hb, ← hm, hm2]
    exact hv
  · exact ⟨oe, D, mA, he', hc, hdi, ⟨vs, hd⟩, hns.at' fun o e => hs.extBut D o q e, hv⟩
theorem at_code {prog : Program} {w : World} {A : Around} {E : Value → Shared → Prop} {s : Shared} {e C N fI : Addr} {expr : Bool} {c : Int} {tc : Tok} {Q : Value → Shared → Prop} (K : ExcCls s.heap C N fI) (X : ExcAt s.heap e C c tc)
    (hq : Q (.int c tc) { s with toks := s.toks + 1 }) : wpAny (model prog w) A (getAttr (.ref e) "code" expr) Q E s := by
  obtain ⟨oe, D, mA, he, hc, hdi, ⟨vs, hd⟩, hns, hv⟩ := X
  obtain ⟨h, g, dr, t, os⟩ := s
  exact exc_attr K he hc hdi (fun c q => by rw [hd] at q; cases q) hns hv hq
section
variable {prog : Program} {w : World} {A : Around} {E : Value → Shared → Prop} {s : Shared} {base h₀ : Heap} {env : Env} {outer : List Env} {ch : List Addr} {L e C N fI : Addr} {mA : Str → Option Value}
  {t : Expr} {n : Str} {b₀ : Stmt} {suite : List Stmt} {pos : Pos} {rest : List ExceptHandler} {Q : Flow → Shared → Prop}
/-- an own exception, caught by its very class, under a name -/
theorem caught1 (hfr : A.frames = some (env :: outer)) (hl : s.heap.FunFrames base (env :: outer)) (hf : env.frame = some L) (X : Raised (adrs (env :: outer)) ch h₀ s.heap e C mA)
    (k : ∀ h' T, Keep (adrs (env :: outer)) ch h₀ h' → h₀.get? e = none → h₀.get? T = none → Fly h' e C T mA .none →
      wpAny (model prog w) (A.mark (some (.ref e))) (eval t env) (fun c s₁ => Halt (c = .ref C ∧ s₁.heap = h' ∧ ExcCls h' C N fI ∧ ∀ h₂, Keep (adrs (env :: outer)) ch h₀ h₂ → Fly h₂ e C T mA .none →
        wpAny (model prog w) (A.mark (some (.ref e))) (storeName env n (.ref e)) (fun _ s₃ => wpAny (model prog w) (A.mark (some (.ref e))) (execs (b₀ :: suite) env)
          (fun f s₄ => wpAny (model prog w) A (do bindName env n .none; unbindBehindTheSuite env n pos) (fun _ s₅ => Q f s₅) E s₄) (fun _ _ => False) s₃) (fun _ _ => False) { s₁ with heap := h₂ })) E { s with heap := h' })
    (hE : PassesOwnAt (model prog w) (A.mark (some (.ref e))) A env E) :
    wpAny (model prog w) A (noteFrame (.ref e) env) (fun _ s₂ => wpAny (model prog w) A (setFlight (.ref e) none) (fun _ s₃ =>
      wpAny (model prog w) A (handleBy (.ref e) env (.ExceptHandler (some t) (some n) (b₀ :: suite) pos :: rest)) Q E s₃) E s₂) E s := by
  have hn := X.2.1
  refine noted hfr hl hf X fun h₁ T K₁ nT F₁ L₁ _ => ?_
  refine flight F₁ fun h₂ K₂ F₂ => ?_
  have nT' : ∀ {b o}, h₀.get? b = some o → b ∈ ch ∨ b ∈ [T] → b ∈ ch := fun q m => m.elim id fun z => by rw [List.mem_singleton.mp z, nT] at q; cases q
  have K₂' : Keep (adrs (env :: outer)) ch h₀ h₂ := K₁.trans K₂ (fun b o q m => m.elim id fun z => nomatch z) (fun b o q m => nT' q m)
  refine wpAny_handleBy_cons (codeAny_handlers_test (wpAny_mono (wpAny_passesOwnAt hE (k h₂ T K₂' hn nT F₂)) (fun c s₁ h₁ => ?_) fun _ _ y => y)) (by intro q; cases q)
  obtain ⟨rfl, hs, ⟨⟨nm, ad, t1, t2, hC⟩, -, -⟩, hk⟩ := h₁
  obtain ⟨⟨oe, vs, d, he, hcls, -⟩, -, -⟩ := id F₂
  obtain ⟨hh, g, dr, tk, os⟩ := s₁
  dsimp only at hs
  subst hs
  refine wpAny_excMatches_sub_self hC he hcls (by simp) (codeAny_handlers_suite_as ?_)
  refine flight F₂ fun h₃ K₃ F₃ => ?_
  refine wpAny_mono (hk h₃ (K₂'.trans K₃ (fun b o q m => m.elim id fun z => nomatch z) (fun b o q m => nT' q m)) F₃) (fun _ s₃ h₃ => ?_) fun _ _ z => z.elim
  exact wpAny_mono h₃ (fun _ _ z => z) fun _ _ z => z.elim
end
end Mine
end

section
open PySem PySem.W PySem.Calls PyProof.Rows PySem.Spec
namespace Mine
section
set_option maxHeartbeats 4000000 in
theorem strm_init {w : World} {base : Heap} {mean : ExcName → Option Value} {mg mb : Str → Option Value} {A : Around} {l : List Env} {n : Nat} {s : Shared} {R : Result → Shared → Prop} {x dx : Addr} {t : Tok}
    (C : Cx w base mean mg mb A l (n + 1) s.heap) (ho : Own base l s.heap [(x, instObj 139 dx), (dx, dictOf [] 0)]) (hlt : @LT.lt Nat _ dx x)
    (hret : ∀ h' tk' k1 k2 b tb, Keep [] [x, dx] s.heap h' → h'.get? x = some (instObj 139 dx) → h'.get? dx = some (strmD w k1 k2 t b tb) → KBw.bInts b = [] → R (.ok (.ret .none)) { s with heap := h', toks := tk' }) :
    codeAny (model PG w) A (.call (.ref 115) ⟨[.ref x, .int 20 t], []⟩) R s := by
  refine enter C ho (by k_is) (by k_is) (binds := [(Str.ofString "self", Value.ref x), (Str.ofString "most", Value.int 20 t)]) (BindsTo.of_eq rfl) (locs rfl) (fun g L h₁ hg hg' hsz hL F N B X T => ?_) (by decide)
  k_steps
  (with_reducible rename Fr _ _ _ _ => F'); (with_reducible rename News _ _ _ _ => N')
  exact hret _ _ _ _ #[] _ (keep_fr hg F' (two_ex N' (by k_mem) (by k_mem))) (N' _ (.head _)).1 (N' _ (.tail _ (.head _))).1 rfl
theorem stream_new {w : World} {base : Heap} {mean : ExcName → Option Value} {mg mb : Str → Option Value} {A : Around} {l : List Env} {n : Nat} {s : Shared} {g : Heap} {L : Addr} {m : Str → Option Value} {t : Tok} {Q E : Value → Shared → Prop}
    (C : Cx w base mean mg mb A l (n + 2) s.heap) (F : Fr g L s.heap m) (X : (hd.heap_39 w.params).In g)
    (hret : ∀ x dx h' tk' k1 k2 b tb, (∀ b o, s.heap.get? b = some o → b < dx) → @LT.lt Nat _ dx x → s.heap.get? x = none → s.heap.get? dx = none → Keep [] [] s.heap h' → h'.get? x = some (instObj 139 dx) → h'.get? dx = some (strmD w k1 k2 t b tb) → KBw.bInts b = [] → Q (.ref x) { s with heap := h', toks := tk' }) :
    wpAny (model PG w) A (call (.ref 139) [.int 20 t]) Q E s := by
  obtain ⟨hh, gs, d, tk, os⟩ := s
  have X' : (hd.heap_39 w.params).In hh := X.keeps F.keep
  have k : ∀ b o, hh.get? b = some o → ((hh.push emptyDict).push (instObj 139 hh.objs.size)).get? b = some o := fun b o e => Heap.get?_push_of_some _ (Heap.get?_push_of_some _ e)
  have hd0 : hh.get? hh.objs.size = none := Heap.get?_none_of_le (Nat.le_refl _)
  have hx0 : hh.get? (hh.objs.size + 1) = none := Heap.get?_none_of_le (Nat.le_succ _)
  have hdx : ((hh.push emptyDict).push (instObj 139 hh.objs.size)).get? hh.objs.size = some emptyDict := by heap_get
  have hx : ((hh.push emptyDict).push (instObj 139 hh.objs.size)).get? (hh.objs.size + 1) = some (instObj 139 hh.objs.size) := by heap_get
  have nb : ∀ {b : Addr}, hh.get? b = none → base.get? b = none ∧ b ∉ adrs l := fun {b} e => by
    constructor
    · cases q : base.get? b with
      | none => rfl
      | some o => have := C.below.stays b o q; rw [e] at this; cases this
    · intro m
      obtain ⟨_, o, ho, _⟩ := C.below.frames.mem m
      rw [e] at ho; cases ho
  refine wpAny_call (make_core (makes_of X' (by k_is)) (looks_findIn X' (by k_is)) (fun self => bind_fn X' self (by k_is)) (.inl rfl) ?_)
  refine strm_init (dx := hh.objs.size) (n := n) (C.under_make k) (fun p hp => ?_) (Nat.lt_succ_self _) fun h' tk' k1 k2 b tb K e1 e2 hb => ⟨rfl, ?_⟩
  · rcases List.mem_cons.mp hp with rfl | hp
    · exact ⟨hx, nb hx0⟩
    · rw [List.mem_singleton.mp hp]; exact ⟨hdx, nb hd0⟩
  · refine hret _ _ h' tk' k1 k2 b tb (fun _ _ e => Heap.lt_size e) (Nat.lt_succ_self _) hx0 hd0 ((Keep.of_all (fs := []) (ch := []) k).trans K (fun _ _ _ m => m.elim id id) fun b o q m => m.elim id fun z => ?_) e1 e2 hb
    rcases List.mem_cons.mp z with z | z
    · rw [z, hx0] at q; cases q
    · rw [List.mem_singleton.mp z, hd0] at q; cases q
end
end Mine
end

section
open PySem PySem.W PySem.Calls PyProof.Rows PySem.Spec
namespace Mine
/-- the pieces, as bytes -/
inductive BytesAre : List Value → List (List Int) → Prop
  | nil : BytesAre [] []
  | cons {b : Array UInt8} {t : Tok} {ks : List Int} {vs : List Value} {ps : List (List Int)} : KBw.bInts b = ks → BytesAre vs ps → BytesAre (.bytes b t :: vs) (ks :: ps)
theorem BytesAre.snoc {b : Array UInt8} {t : Tok} {ks : List Int} (hb : KBw.bInts b = ks) : ∀ {vs : List Value} {ps : List (List Int)}, BytesAre vs ps → BytesAre (vs ++ [.bytes b t]) (ps ++ [ks])
  | _, _, .nil => .cons hb .nil
  | _, _, .cons h r => .cons h (BytesAre.snoc hb r)
section
variable {prog : Program} {w : World} {A : Around} {h₀ : Heap} {L : Addr} {m : Str → Option Value} {env : Env} {elt : PySem.Expr} {x : Str} {scope : Scope} {cl : List (Str × Addr)} {s : Shared} {Fin : List Value → List (Addr × Obj) → Prop} {news : List (Addr × Obj)}
/-- what a turn of such a comprehension gives -/
def Piece (h₀ : Heap) (L : Addr) (m : Str → Option Value) (ks : List Int) (news : List (Addr × Obj)) (s : Shared) (y : Value) (s₂ : Shared) : Prop :=
  ∃ b t' h' tk', y = .bytes b t' ∧ KBw.bInts b = ks ∧ s₂ = { s with heap := h', toks := tk' } ∧ Fr h₀ L h' m ∧ News h₀ L h' news
theorem rest_bytes {n : Nat} (f : Nat → List Int)
    (turn : ∀ (i : Nat) (t : Tok) I oI C oC D m₂ ys h tk (E' : Value → Shared → Prop), i < n → LCg.NsObj oC m₂ → m₂ x = some (.int (i : Int) t) → Fr h₀ L h m → News h₀ L h ((I, oI) :: (C, oC) :: (D, LCg.lst ys) :: news) →
      wpAny (model prog w) A (eval elt (compEnvC scope cl C env)) (Piece h₀ L m (f i) ((I, oI) :: (C, oC) :: (D, LCg.lst ys) :: news) { s with heap := h, toks := tk }) E' { s with heap := h, toks := tk })
    (fin : ∀ ys, BytesAre ys ((List.range n).map f) → Fin ys news) : LCg.CompRest prog w A h₀ L m env elt x scope cl s (fun _ => True) (fun i v => ∃ t, v = .int (0 + (i : Int)) t) Fin n 0 [] news := by
  have key : ∀ (j i : Nat) (ys : List Value), i + j = n → BytesAre ys ((List.range i).map f) → LCg.CompRest prog w A h₀ L m env elt x scope cl s (fun _ => True) (fun i v => ∃ t, v = .int (0 + (i : Int)) t) Fin j i ys news := by
    intro j
    induction j with
    | zero =>
      intro i ys hi hy
      have e : i = n := by omega
      subst e
      exact LCg.CompRest.zero (fin ys hy)
    | succ j ih =>
      intro i ys hi hy
      refine LCg.CompRest.succ ?_
      intro v I oI C oC D m₂ h tk E' hv hC hx F N off ne
      obtain ⟨t, rfl⟩ := hv
      rw [Int.zero_add] at hx
      refine wpAny_mono (turn i t I oI C oC D m₂ ys h tk E' (by omega) hC hx F N) (fun y s₂ hq => ?_) fun _ _ e => e
      obtain ⟨b, t', h', tk', rfl, hb, rfl, F', N'⟩ := hq
      refine ⟨h', tk', news, rfl, F', N', off, trivial, ih (i + 1) _ (by omega) ?_⟩
      rw [List.range_succ, List.map_append]
      exact hy.snoc hb
  exact key n 0 [] (by omega) .nil
end
theorem cut_one {al : List Int} {i : Nat} (hi : i < al.length) : List.take (clipAt al.length ((i : Int) + 1) - min i al.length) (List.drop (min i al.length) al) = (al.drop i).take 1 := by
  have e : clipAt al.length ((i : Int) + 1) = i + 1 := by
    rw [clip_nat (by omega) (by omega)]
    rfl
  rw [e, Nat.min_eq_left (Nat.le_of_lt hi), Nat.add_sub_cancel_left]
end Mine
end

section
open PySem PySem.W PySem.Calls PyProof.Rows PySem.Spec
namespace Mine
def optV : Option Int → Value → Prop
  | none, v => v = .none
  | some i, v => ∃ t, v = .int i t
/-- what holds between two pieces -/
inductive HearJ (w : World) (base : Heap) (l : List Env) (dp un : Nat) (gd : Option (List Code)) (s : Shared) (g : Heap) (L I x dx p fa ea : Addr) (pvs : List Value) (np : Nat) (fvs : List Value) (nf : Nat) (evs : List Value) (ne : Nat) (nw : List (Addr × Obj))
    (sv cv : Value) (ds : List Dat) (es : List Int) (stop : Option Int) (code : Int) (k1 k2 tke : Tok) (rest : List Value) (s' : Shared) : Prop
  | mk (a : Int) (rs : List Int) (told : List Dat) (tvs : List Value) (ph : List (List Int)) (D : Addr) (nt : Nat) (b : Array UInt8) (tb ta : Tok) (oc oI : Obj) (m0 : Str → Option Value) (g2 h2 : Heap) (tk2 : Nat) (tl : List (Addr × Obj))
      (e : s' = { s with heap := h2, toks := tk2 }) (hB : BytesAre rest ph) (hH : Hears ds es stop code rs told a ph) (hb : KBw.bInts b = rs) (hD : DatAll tl tvs told) (htl : told.length ≤ 1000) (hnt : ∀ q ∈ nw, q ∈ tl) (hoff : ∀ q ∈ tl, Off4 (L + 1) I x dx q.1) (hoD : Off4 (L + 1) I x dx D)
      (hoc : oc.data = .cell (some (.int a ta))) (hit : h2.IsListIter I p (pvs.length - rest.length)) (ha : 0 ≤ a) (T2 : KtsTurn (adrs l) g g2) (B2 : Below (ar dp un gd l) base l g2)
      (F2 : Fr g2 L h2 (fun y => if y = Str.ofString "told" then some (Value.ref D) else if y = Str.ofString "stream" then some (Value.ref x) else if y = Str.ofString "frames" then some (Value.ref fa) else if y = Str.ofString "ends" then some (Value.ref ea)
        else if y = Str.ofString "stop" then some sv else if y = Str.ofString "code" then some cv else m0 y))
      (N2 : News g2 L h2 ((x, instObj 139 dx) :: (dx, strmD w k1 k2 tke b tb) :: (I, oI) :: (L + 1, oc) :: (D, W.listOf tvs.toArray nt) :: (p, W.listOf pvs.toArray np) :: (fa, W.listOf fvs.toArray nf) :: (ea, W.listOf evs.toArray ne) :: tl)) : HearJ w base l dp un gd s g L I x dx p fa ea pvs np fvs nf evs ne nw sv cv ds es stop code k1 k2 tke rest s'
section
local macro_rules | `(tactic| k_all) => `(tactic| with_reducible assumption)
local macro_rules | `(tactic| k_steps) => `(tactic| repeat' ((fail_if_success (with_reducible show Joined _ _ _)); (first | (k_unfold; (try dsimp only)) | (k_end; kc_close) | walk1 | (dsimp only; walk1) | (leave1; (try dsimp only)) | fail "no step")))
local macro_rules | `(tactic| walk_at "exec Assign") => `(tactic| ((with_reducible show wpAny _ _ (exec (Stmt.Assign [Expr.Name _ _] (Expr.BoolOp _ _ _) _) _) _ _ _); (fail_if_success (with_reducible rename Stopped => hstp)); (refine Halt.mk ?_)))
local macro_rules | `(tactic| walk_at "getAttr ref") => `(tactic| ((with_reducible show wpAny _ (Around.mark _ _) (getAttr (Value.ref _) _ _) _ _ _); (refine Halt.mk ?_)))
local macro_rules | `(tactic| walk_at "compareOp NotEq ref ref") => `(tactic| (refine Halt.mk ?_))
local macro_rules | `(tactic| walk_at "eval ListComp") => `(tactic| (refine Halt.mk ?_))
local macro_rules | `(tactic| walk_at "exec Try") => `(tactic| (refine wpAny_Try_except ?_))
local macro_rules | `(tactic| walk_at "exec For Name Name cons nil") => `(tactic| (refine Halt.mk ?_))
local macro_rules | `(tactic| walk_at "call ref") => `(tactic| ((first | (with_reducible show wpAny _ _ (call (Value.ref 139) _) _ _ _) | (with_reducible show wpAny _ _ (call (Value.ref 122) _) _ _ _)); (refine Halt.mk ?_)))
local macro_rules | `(tactic| walk_at "pyIter ref") => `(tactic| (refine Halt.mk ?_))
set_option maxHeartbeats 4000000 in
theorem heard_spec {w : World} {base : Heap} {mean : ExcName → Option Value} {mg mb : Str → Option Value} {dp un : Nat} {gd : Option (List Code)} {l : List Env} {n : Nat} {s : Shared} {R : Result → Shared → Prop}
    {p fa ea : Addr} {pvs fvs evs : List Value} {np nf ne : Nat} {ps : List (List Int)} {ds : List Dat} {es : List Int} {nw : List (Addr × Obj)} {sv cv : Value} {stop : Option Int} {code : Int}
    (C : Cx w base mean mg mb (ar dp un gd l) l (n + 20) s.heap) (ho : Own base l s.heap ((p, W.listOf pvs.toArray np) :: (fa, W.listOf fvs.toArray nf) :: (ea, W.listOf evs.toArray ne) :: nw))
    (hP : BytesAre pvs ps) (hF : DatAll nw fvs ds) (hEs : IntsAre evs es) (hH : Hears ds es stop code [] [] 0 ps) (hdl : ds.length ≤ 1000) (hdk : ∀ d ∈ ds, dOk 8 d = true) (hstop : optV stop sv) (hcode : stop = none ∧ cv = .none ∨ ∃ t, cv = .int code t)
    (hret : ∀ h' tk', Keep (adrs l) [] s.heap h' → R (.ok (.ret (.bool true))) { s with heap := h', toks := tk' }) :
    codeAny (model PG w) (ar dp un gd l) (.call (.ref 174) ⟨[.ref p, .ref fa, .ref ea, sv, cv], []⟩) R s := by
  refine enterC C ho (by k_is) (by k_is) (binds := [(Str.ofString "pieces", Value.ref p), (Str.ofString "frames", Value.ref fa), (Str.ofString "ends", Value.ref ea), (Str.ofString "stop", sv), (Str.ofString "code", cv)]) (BindsTo.of_eq rfl) rfl (by decide +kernel) (fun g L h₁ tke cells hg hg' hsz hL F N Y B X T hlt => ?_)
  k_cells Y
  rename_i oc dc
  simp only [List.cons_append, List.nil_append] at N
  try dsimp only
  k_steps
  (with_reducible rename Fr _ _ _ _ => F1); (with_reducible rename News _ _ _ _ => N1)
  refine stream_new (C.deeperC B F1 ?hk) F1 X fun x dx h2 tk2 k1 k2 b0 tb0 hnew hlx hx0 hdx0 K2 ex edx hb0 => ?_
  case hk => rfl
  have F2 := fr_keep F1 K2 (fun q => nomatch q) (fun _ _ _ q => nomatch q)
  have N2 := news_add F1 (news_add F1 (news_keep N1 K2 fun _ _ q => nomatch q) hdx0 edx) hx0 ex
  have l1 : ∀ q ∈ (L + 1, oc) :: (p, W.listOf pvs.toArray np) :: (fa, W.listOf fvs.toArray nf) :: (ea, W.listOf evs.toArray ne) :: nw, q.1 < dx := fun q hq => hnew _ _ (N1 q hq).1
  k_lt l1
  have l0 : ∀ q ∈ (p, W.listOf pvs.toArray np) :: (fa, W.listOf fvs.toArray nf) :: (ea, W.listOf evs.toArray ne) :: nw, q.1 < L + 1 := fun q hq => Nat.lt_succ_of_lt (hlt q hq)
  have hnw1 : ∀ q ∈ nw, q.1 ≠ L + 1 := fun q hq => Nat.ne_of_lt (l0 q (.tail _ (.tail _ (.tail _ hq))))
  have l00 := l0
  k_lt l0
  k_steps
  refine wpAny_For ?_
  k_steps
  (with_reducible rename Fr _ _ _ _ => F3); (with_reducible rename News _ _ _ _ => N3)
  rename_i D0 hha lD0 T0 hhb lT0 hhc hhd hhe hf oc1 dc1
  refine wpAny_pyIter_list (items := pvs.toArray) ⟨_, (N3 (p, W.listOf pvs.toArray np) (by k_mem)).1, rfl, _, rfl⟩ ?_
  have F4 := F3.push { cls := .type "list_iterator", data := .fields #[.ref p, .int 0 0] }
  have N4 := N3.push F3 { cls := .type "list_iterator", data := .fields #[.ref p, .int 0 0] }
  have hI := fun (q : Addr × Obj) hq => Heap.lt_size (N3 q hq).1
  k_lt hI
  obtain ⟨hI1, hI2, hI3, hI4, hI5, hI6, hI7, hI8, hI9⟩ := hI
  refine for_list (I := hf.objs.size) (p := p) (items := pvs) (J := HearJ w base l dp un gd s g L hf.objs.size x dx p fa ea pvs np fvs nf evs ne nw sv cv ds es stop code k1 k2 tke)
    ?hh ?hE ?hJ ?step ?done ?start
  case hh => rfl
  case hE => first | passes_own | with_unfolding_all passes_own
  case hJ =>
    rintro pre rest s' hcat ⟨a, rs, told, tvs, ph, D, nt, b, tb, ta, oc, oI, m0, g2, h2, tk2, tl, rfl, hB, hH, hb, hD, htl, hnt, hoff, hoD, hoc, hit, ha, T2, B2, F2, N2⟩
    have : pvs.length - rest.length = pre.length := by rw [← hcat]; simp
    rw [this] at hit
    exact ⟨hit, _, (N2 (p, W.listOf pvs.toArray np) (by k_mem)).1, rfl, _, rfl⟩
  case done =>
    rintro s' h' ⟨a, rs, told, tvs, ph, D, nt, b, tb, ta, oc, oI, m0, g2, h2, tk2, tl, rfl, hB, hH, hb, hD, htl, hnt, hoff, hoD, hoc, hit, ha, T2, B2, F2, N2⟩ hk
    have hIN := N2 (hf.objs.size, oI) (.tail _ (.tail _ (.head _)))
    have F5 := LCg.fr_but F2 (fun b o hb e => hk b o (fun q => hb (List.mem_singleton.mpr q)) e) (Ne.symm hIN.2.1) hIN.2.2
    have hst : ∀ q ∈ (p, W.listOf pvs.toArray np) :: (fa, W.listOf fvs.toArray nf) :: (ea, W.listOf evs.toArray ne) :: nw, h'.get? q.1 = some q.2 := fun q hq => by
      have hin : q ∈ (x, instObj 139 dx) :: (dx, strmD w k1 k2 tke b tb) :: (hf.objs.size, oI) :: (L + 1, oc) :: (D, W.listOf tvs.toArray nt) :: (p, W.listOf pvs.toArray np) :: (fa, W.listOf fvs.toArray nf) :: (ea, W.listOf evs.toArray ne) :: tl := by
        refine .tail _ (.tail _ (.tail _ (.tail _ (.tail _ ?_))))
        rcases List.mem_cons.mp hq with rfl | hq
        · exact .head _
        rcases List.mem_cons.mp hq with rfl | hq
        · exact .tail _ (.head _)
        rcases List.mem_cons.mp hq with rfl | hq
        · exact .tail _ (.tail _ (.head _))
        · exact .tail _ (.tail _ (.tail _ (hnt q hq)))
      exact hk _ _ (Off4.lt (l00 q hq) l1.1 hlx hI3).2.1 (N2 q hin).1
    dsimp only
    k_steps
    dsimp only
    exact hret _ _ (keep_end ((Gro.of_all (fs := adrs l) hg).turn T2) F5 ho hst)
  case start =>
    have F4p := fr_pin (fr_pin (fr_pin (fr_pin (fr_pin (fr_pin F4 (k := Str.ofString "code") (v := cv) rfl) (k := Str.ofString "stop") (v := sv) rfl) (k := Str.ofString "ends") (v := .ref ea) rfl) (k := Str.ofString "frames") (v := .ref fa) rfl) (k := Str.ofString "stream") (v := .ref x) rfl) (k := Str.ofString "told") (v := .ref D0) rfl
    have hit0 : (hf.push { cls := .type "list_iterator", data := .fields #[.ref p, .int 0 0] }).IsListIter hf.objs.size p (pvs.length - pvs.length) := by rw [Nat.sub_self]; exact ⟨_, Heap.get?_push_size _ rfl, rfl, rfl⟩
    exact ⟨0, [], [], [], ps, D0, 0, b0, tb0, _, oc1, { cls := .type "list_iterator", data := .fields #[.ref p, .int 0 0] }, _, g, _, _, nw, rfl, hP, hH, hb0, .nil, by simp, fun _ q => q, fun q hq => Off4.lt (l00 q (.tail _ (.tail _ (.tail _ hq)))) l1.1 hlx hI3, ⟨by omega, by omega, by omega, by omega⟩, dc1, hit0, Int.le_refl _, KtsTurn.refl, B, F4p, (nPick N4 (by k_mem) (nPick N4 (by k_mem) (nPick N4 (by k_mem) (nPick N4 (by k_mem) (nPick N4 (by k_mem) (nPick N4 (by k_mem) (nPick N4 (by k_mem) (nPick N4 (by k_mem) (News.of_sub N4 (fun q hq => by repeat' (first | exact hq | refine List.Mem.tail _ ?_)))))))))))⟩
  case step =>
    rintro pre v rest s' h' hcat ⟨a, rs, told, tvs, ph, D, nt, b, tb, ta, oc2, oI, m0, g2, h2, tk2, tl, rfl, hB, hH2, hb, hD, htl, hnt, hoff, hoD, hoc, hit, ha, T2, B2, F2, N2⟩ hit' hk
    have X2 := C.kin.keeps B2.stays
    have Tg2 := C.top.keeps B2.stays
    have hla := l00 (p, W.listOf pvs.toArray np) (.head _)
    have hlb := l00 (fa, W.listOf fvs.toArray nf) (.tail _ (.head _))
    have hlc := l00 (ea, W.listOf evs.toArray ne) (.tail _ (.tail _ (.head _)))
    obtain ⟨oI', hI'⟩ : ∃ o, h'.get? hf.objs.size = some o := by obtain ⟨o, e, _⟩ := hit'; exact ⟨o, e⟩
    obtain ⟨F5, N5⟩ := iter_next (pre := [_, _]) F2 N2 hk hI' (all_cons (Nat.ne_of_lt hI3) (all_cons (Nat.ne_of_lt hI4) (all_cons (Nat.ne_of_lt hI5) (all_cons hoD.2.1 (all_cons (Nat.ne_of_lt hI6) (all_cons (Nat.ne_of_lt hI7) (all_cons (Nat.ne_of_lt hI8) (fun q hq => (hoff q hq).2.1))))))))
    simp only [List.cons_append, List.nil_append] at N5
    obtain ⟨hoD1, hoD2, hoD3, hoD4⟩ := hoD
    have hnwc : ∀ q ∈ tl, q.1 ≠ L + 1 := fun q hq => (hoff q hq).1
    clear F2 N2
    cases hB with | cons hbk hB' =>
    rename_i b2 t2 ks2 ph'
    have hl0 : rs.length + ks2.length < 1000 := by cases hH2 <;> assumption
    have hl2 : ks2.length < 1000 := by omega
    have hcase : (∃ new rest', Takes (rs ++ ks2) new rest' none ∧ new.length < 1000 ∧ told ++ new = filt ds es (a + ks2.length) ∧ Hears ds es stop code rest' (told ++ new) (a + ks2.length) ph' ∧
        (stop = none ∧ sv = .none ∨ ∃ st ts, stop = some st ∧ sv = .int st ts ∧ ¬ st ≤ a + ks2.length)) ∨
        ∃ new rest' st ts, Takes (rs ++ ks2) new rest' (some code) ∧ new.length < 1000 ∧ stop = some st ∧ sv = .int st ts ∧ st ≤ a + ks2.length := by
      cases hH2 with
      | goes T _ hn hlt hc hr =>
        refine .inl ⟨_, _, T, hn, hc, hr, ?_⟩
        cases stop with
        | none => exact .inl ⟨rfl, hstop⟩
        | some st => obtain ⟨ts, e⟩ := hstop; have := hlt st rfl; exact .inr ⟨st, ts, rfl, e, by omega⟩
      | stops T _ hn hs hle =>
        subst hs
        obtain ⟨ts, e⟩ := hstop
        exact .inr ⟨_, _, _, ts, T, hn, rfl, e, hle⟩
    clear hH2
    k_steps
    (with_reducible rename Fr g2 _ _ _ => F5); (with_reducible rename News g2 _ _ _ => N5)
    refine join_flag F5 N5 s (Str.ofString "is_due") (fun b => (b = false ∧ ∃ new rest', Takes (rs ++ ks2) new rest' none ∧ new.length < 1000 ∧ told ++ new = filt ds es (a + ks2.length) ∧ Hears ds es stop code rest' (told ++ new) (a + ks2.length) ph') ∨ (b = true ∧ ∃ new rest' st, Takes (rs ++ ks2) new rest' (some code) ∧ new.length < 1000 ∧ stop = some st)) ?flag ?on
    case flag =>
      have hstp : Stopped := trivial
      rcases hcase with ⟨new, rest', hT, hn, hfil, hgo, ⟨rfl, rfl⟩ | ⟨st, ts, rfl, rfl, hdue⟩⟩ | ⟨new, rest', st, ts, hT, hn, rfl, rfl, hdue⟩
      all_goals k_steps
      all_goals ((with_reducible rename Fr g2 _ _ _ => F6); (with_reducible rename News g2 _ _ _ => N6))
      · exact ⟨rfl, .mk _ _ _ rfl (.inl ⟨rfl, new, rest', hT, hn, hfil, hgo⟩) F6 N6⟩
      · rw [decide_eq_false hdue] at F6
        exact ⟨rfl, .mk _ _ _ rfl (.inl ⟨rfl, new, rest', hT, hn, hfil, hgo⟩) F6 N6⟩
      · rw [decide_eq_true hdue] at F6
        exact ⟨rfl, .mk _ _ _ rfl (.inr ⟨rfl, new, rest', st, hT, hn, rfl⟩) F6 N6⟩
    clear hcase
    rintro s' ⟨b9, h9, tk9, rfl, hP, F6, N6⟩
    clear F5 N5
    have hstp : Stopped := trivial
    dsimp only
    rcases hP with ⟨rfl, new, rest', hT, hn, hfil, hgo⟩ | ⟨rfl, new, rest', st, hT, hn, rfl⟩
    all_goals k_steps
    all_goals
      (with_reducible rename Fr g2 _ _ _ => F6); (with_reducible rename News g2 _ _ _ => N6)
      refine wpAny_call (take_spec (n := n + 3) hT hn (C.deeperC B2 F6 ?hk) (own_ofC B2 N6 (fun q hq => by
        rcases List.mem_cons.mp hq with rfl | hq
        · exact .head _
        · rw [List.mem_singleton.mp hq]; exact .tail _ (.head _))) hlx hb hbk hl0 (fun D2 vs2 nn2 nw2 h8 tk8 b8 tb8 hr DA DN DG Lw K8 e1 e2 hb8 => ?_) (fun e h8 tk8 mA c tc hr X8 hc => ?_))
      case hk => rfl
    rotate_left
    · cases hr
    · cases hr
    · cases hr
      rcases hcode with ⟨q, -⟩ | ⟨tcv, rfl⟩
      · cases q
      refine caught1 (N := 30) (fI := 28) (ch := [x, dx]) (C.deeperC (n := n + 19) B2 F6 ?hk).below.stack (X8.1.frames (C.deeperC (n := n + 19) B2 F6 ?hk).below.frames fun b hb m => ?_) rfl X8 (fun h9 T K9 n1 n2 FL9 => ?_) ?hE
      case hk => rfl
      case hE => first | passes_own | with_unfolding_all passes_own
      · rcases List.mem_cons.mp m with rfl | m
        · exact not_adrC B2 N6 (.head _) hb
        · rw [List.mem_singleton.mp m] at hb
          exact not_adrC B2 N6 (.tail _ (.head _)) hb
      have hxd : ∀ b ∈ [x, dx], g2.get? b = none ∧ b ≠ L := fun b hb => (two_off N6 (.head _) (.tail _ (.head _)) b hb).symm
      obtain ⟨g9, T9, F9, B9, X9, Tg9⟩ := reground F6 B2 C.kin C.top K9 hxd
      have N9 : News g9 L h9 [] := fun _ q => nomatch q
      k_steps
      refine ⟨rfl, rfl, h3_cls (X9.keeps F9.keep), fun h10 K10 FL10 => ?_⟩
      obtain ⟨g10, T10, F10, B10, X10, Tg10⟩ := reground F6 B2 C.kin C.top K10 hxd
      clear F9 N9
      have hL10 : g10.get? L = none := fr_none F10
      refine wpAny_storeName_local rfl F10.ns (fun h11 hn11 hs11 => ?_) rfl
      have EA := (fly_at FL10 hc).stored F10.ns hn11 hs11 (by decide)
      have F11 : Fr g10 L h11 _ := ⟨hn11, fun b o e => hs11.extBut b o (fun q => by have e' : g10.get? L = some o := by { rw [← show b = L from q]; exact e }; rw [hL10] at e'; cases e') (F10.keep b o e), F10.above⟩
      have N11 : News g10 L h11 [] := fun _ q => nomatch q
      k_steps
      refine at_code (h3_cls (X10.keeps F11.keep)) EA ?_
      k_steps
      dsimp only
      refine wpAny_nameGoes rfl F11.ns rfl fun h12 m12 hn12 hs12 => ?_
      dsimp only
      rw [beq_self_eq_true]
      have F12 : Fr g10 L h12 m12 := ⟨hn12, fun b o e => hs12.extBut b o (fun q => by have e' : g10.get? L = some o := by { rw [← show b = L from q]; exact e }; rw [hL10] at e'; cases e') (F11.keep b o e), F11.above⟩
      refine hret _ _ (keep_end ((Gro.of_all (fs := adrs l) hg).turn (T2.trans T10)) F12 ho fun q hq => ?_)
      have hin : q ∈ (p, W.listOf pvs.toArray np) :: (fa, W.listOf fvs.toArray nf) :: (ea, W.listOf evs.toArray ne) :: tl := by
        rcases List.mem_cons.mp hq with rfl | hq
        · exact .head _
        rcases List.mem_cons.mp hq with rfl | hq
        · exact .tail _ (.head _)
        rcases List.mem_cons.mp hq with rfl | hq
        · exact .tail _ (.tail _ (.head _))
        · exact .tail _ (.tail _ (.tail _ (hnt q hq)))
      have hof := Off4.lt (l00 q hq) l1.1 hlx hI3
      have hq6 := N6 q (.tail _ (.tail _ (.tail _ (.tail _ (.tail _ hin)))))
      have e10 := K10.get hq6.1 (not_adrC B2 N6 (.tail _ (.tail _ (.tail _ (.tail _ (.tail _ hin)))))) (by simp [hof.2.2.1, hof.2.2.2])
      exact hs12.extBut _ _ hq6.2.1 (hs11.extBut _ _ hq6.2.1 e10)
    all_goals
      (with_reducible rename Obj => oc3)
      rename oc3.data = _ => hoc3
      obtain ⟨g8, T8, F8, B8, X8, Tg8⟩ := reground F6 B2 C.kin C.top K8 (fun b hb => (two_off N6 (.head _) (.tail _ (.head _)) b hb).symm)
      have N8 := news_call F6 T8 (behind N6 K8 (fun q hq => not_adrC B2 N6 (.tail _ (.tail _ hq))) (all_cons ⟨Nat.ne_of_gt hI3, Nat.ne_of_gt hI4⟩ (all_cons ⟨Nat.ne_of_lt (Nat.lt_trans l1.1 hlx), Nat.ne_of_lt l1.1⟩ (all_cons ⟨hoD3, hoD4⟩ (all_cons ⟨Nat.ne_of_lt (Nat.lt_trans l1.2.1 hlx), Nat.ne_of_lt l1.2.1⟩ (all_cons ⟨Nat.ne_of_lt (Nat.lt_trans l1.2.2.1 hlx), Nat.ne_of_lt l1.2.2.1⟩
          (all_cons ⟨Nat.ne_of_lt (Nat.lt_trans l1.2.2.2.1 hlx), Nat.ne_of_lt l1.2.2.2.1⟩ (fun q hq => ⟨(hoff q hq).2.2.1, (hoff q hq).2.2.2⟩))))))) e1 e2) (nw := (D2, W.listOf vs2.toArray nn2) :: nw2) (all_cons ⟨DN, DG⟩ Lw)
      have N8a := nLeft N8
      have N8b := nRight N8
      clear N8
      have N9 : News g8 L h8 ((x, instObj 139 dx) :: (dx, strmD w k1 k2 tke b8 tb8) :: (hf.objs.size, oI') :: (L + 1, oc3) :: (D, W.listOf tvs.toArray nt) :: (D2, W.listOf vs2.toArray nn2) :: (p, W.listOf pvs.toArray np) :: (fa, W.listOf fvs.toArray nf) :: (ea, W.listOf evs.toArray ne) :: (nw2 ++ tl)) :=
        (nPick N8a (by k_mem) (nPick N8a (by k_mem) (nPick N8a (by k_mem) (nPick N8a (by k_mem) (nPick N8a (by k_mem) (nPick N8b (.head _) (nPick N8a (by k_mem) (nPick N8a (by k_mem) (nPick N8a (by k_mem) (nBoth (nOff N8b) (News.of_sub N8a (fun q hq => by repeat' (first | exact hq | refine List.Mem.tail _ ?_)))))))))))))
      have hoff9 : ∀ q ∈ nw2 ++ tl, Off4 (L + 1) hf.objs.size x dx q.1 := fun q hq => by
        rcases List.mem_append.mp hq with hq | hq
        · exact ⟨off_new Lw hq N6 (r := (L + 1, oc3)) (by k_mem), off_new Lw hq N6 (r := (hf.objs.size, oI')) (by k_mem), off_new Lw hq N6 (r := (x, _)) (by k_mem), off_new Lw hq N6 (r := (dx, _)) (by k_mem)⟩
        · exact hoff q hq
      have hD9 : Off4 (L + 1) hf.objs.size x dx h8.objs.size := ⟨Nat.ne_of_gt (Heap.lt_size (N9 (L + 1, oc3) (by k_mem)).1), Nat.ne_of_gt (Heap.lt_size (N9 (hf.objs.size, oI') (by k_mem)).1), Nat.ne_of_gt (Heap.lt_size (N9 (x, instObj 139 dx) (by k_mem)).1), Nat.ne_of_gt (Heap.lt_size (N9 (dx, strmD w k1 k2 tke b8 tb8) (by k_mem)).1)⟩
      clear N8a N8b
      clear N6 F6
      dsimp only
      k_steps
      have htw := hD.length
      have hvw := DA.length
      refine add_lists F8 N9 ⟨_, (N9 (D, W.listOf tvs.toArray nt) (by k_mem)).1, rfl, _, rfl⟩ ⟨_, (N9 (D2, W.listOf vs2.toArray nn2) (by k_mem)).1, rfl, _, rfl⟩ (fun h10 F10 N10 => ?_) (by rw [sizeLine_eq]; omega)
      clear F8 N9
      k_steps
      (with_reducible rename Fr g8 _ _ _ => F11); (with_reducible rename News g8 _ _ _ => N11)
      refine zip_comp (l1 := fa) (l2 := ea) (xs := fvs) (ys := evs) (es := es) (av := a + ks2.length) F11 N11 (by with_unfolding_all rfl) (by decide) (by rfl) (by decide) (by rfl) (by rfl) (by decide) hEs (by have := hF.length; omega) ?iter ?test ?elt ?fin
      case iter =>
        k_steps
        exact zsrc rfl F11 N11 (n1 := nf) (n2 := ne) (by k_mem) (by k_mem)
      case test =>
        intro hA CA oA mA tkA xA eA teA EA hCA h1A h2A FA NA
        k_steps
      case elt =>
        intro hA CA oA mA tkA xA EA hCA h1A FA NA
        k_steps
      case fin =>
        intro D4 h12 tk12 F12 N12 hoff12
        clear F11 N11
        k_steps
        (with_reducible rename Fr g8 _ _ _ => F13); (with_reducible rename News g8 _ _ _ => N13)
        have S13 : ∀ q ∈ nw2 ++ tl, h12.get? q.1 = some q.2 := fun q hq => (N13 q (by
          refine .tail _ (.tail _ (.tail _ (.tail _ (.tail _ (.tail _ (.tail _ (.tail _ (.tail _ (.tail _ (.tail _ ?_))))))))))
          exact hq)).1
        refine ne_dat (n := 8) S13 S13 ⟨_, (N13 (h8.objs.size, { cls := .type "list", data := .seq (tvs ++ vs2).toArray }) (.tail _ (.head _))).1, rfl, _, rfl⟩ ⟨_, (N13 (D4, LCg.lst (zfilt fvs es (a + ks2.length))) (.head _)).1, rfl, _, rfl⟩
          ((hD.mono fun q hq => List.mem_append.mpr (.inr hq)).append (DA.mono fun q hq => List.mem_append.mpr (.inl hq))) (by rw [hfil]; exact zfilt_all (hF.mono fun q hq => List.mem_append.mpr (.inr (hnt q hq))) es _) (fun d hd => hdk d (by rw [hfil] at hd; exact filt_mem _ _ _ d hd)) (by have hu : un + 16 * (n + 20) < cLine := C.units; show un + 3 + 1 + 8 < cLine; omega) ?_
        k_steps
        dsimp only
        unfold Halt
        have F13p := fr_pin (fr_pin (fr_pin (fr_pin (fr_pin (fr_pin F13 (k := Str.ofString "code") (v := cv) rfl) (k := Str.ofString "stop") rfl) (k := Str.ofString "ends") (v := .ref ea) rfl) (k := Str.ofString "frames") (v := .ref fa) rfl) (k := Str.ofString "stream") (v := .ref x) rfl) (k := Str.ofString "told") (v := .ref h8.objs.size) rfl
        have hit13 : h12.IsListIter hf.objs.size p (pvs.length - rest.length) := by
          obtain ⟨o, e, r⟩ := hit'
          rw [hI'] at e
          cases e
          have hpl : pvs.length - rest.length = pre.length + 1 := by rw [← hcat]; simp; omega
          rw [hpl]
          exact ⟨oI', (N13 (hf.objs.size, oI') (by k_mem)).1, r⟩
        exact ⟨a + ks2.length, rest', told ++ new, tvs ++ vs2, ph', h8.objs.size, 0, b8, tb8, _, oc3, oI', _, g8, _, _, nw2 ++ tl, rfl, hB', hgo, hb8, ((hD.mono fun q hq => List.mem_append.mpr (.inr hq)).append (DA.mono fun q hq => List.mem_append.mpr (.inl hq))),
          by rw [hfil]; exact Nat.le_trans (filt_len _ _ _) hdl, fun q hq => List.mem_append.mpr (.inr (hnt q hq)), hoff9, hD9, hoc3, hit13, by omega, T2.trans T8, B8, F13p, (nPick N13 (by k_mem) (nPick N13 (by k_mem) (nPick N13 (by k_mem) (nPick N13 (by k_mem) (nPick N13 (by k_mem) (nPick N13 (by k_mem) (nPick N13 (by k_mem) (nPick N13 (by k_mem) (News.of_sub N13 (fun q hq => by repeat' (first | exact hq | refine List.Mem.tail _ ?_)))))))))))⟩
end
end Mine
end

section
open PySem PySem.W PySem.Calls PyProof.Rows PySem.Spec
namespace Mine
theorem head_pos {a b c : Int} : 0 < (headOf a b c).length := by
  unfold headOf
  rw [List.length_append]
  simp
theorem right_pos {ks : List Int} {d : Dat} (h : Right d ks) : 0 < ks.length := by
  obtain ⟨kind, wide, pl, k0, k1, ko, w0, w1, hl, hp, rfl, e⟩ := h
  have := head_pos (a := kind) (b := wide) (c := (pl.length : Nat))
  rw [List.length_append]
  omega
theorem wrong_pos {ks : List Int} {many : Nat} {c : Int} (h : Wrong ks many c) : 0 < many := by
  rcases h with ⟨kind, wide, size, z, k0, k1, w0, w1, s0, s1, hz, rfl, rfl, h⟩ | ⟨kind, wide, pl, k0, k1, ko, w0, w1, hl, hp, rfl, rfl, e⟩
  · exact head_pos
  · have := head_pos (a := kind) (b := wide) (c := (pl.length : Nat))
    rw [List.length_append]
    omega
theorem octs_app : ∀ (F G : List (List Int × Dat)) (X : List Int), octs (F ++ G) X = octs F (octs G X)
  | [], _, _ => rfl
  | (ks, d) :: F, G, X => by
    show ks ++ octs (F ++ G) X = ks ++ octs F (octs G X)
    rw [octs_app F G X]
theorem octs_tail : ∀ (F : List (List Int × Dat)) (X : List Int), octs F X = octs F [] ++ X
  | [], _ => rfl
  | (ks, d) :: F, X => by
    show ks ++ octs F X = (ks ++ octs F []) ++ X
    rw [octs_tail F X, List.append_assoc]
theorem lenF_eq : ∀ (F : List (List Int × Dat)), lenF F = (octs F []).length
  | [] => rfl
  | (ks, d) :: F => by
    show ks.length + lenF F = (ks ++ octs F []).length
    rw [List.length_append, lenF_eq F]
theorem ends_app : ∀ (F : List (List Int × Dat)) (kl : List Int) (dl : Dat) (o : Nat), endsOf o (F ++ [(kl, dl)]) = endsOf o F ++ [((o + lenF F + kl.length : Nat) : Int)]
  | [], _, _, _ => rfl
  | (ks, d) :: F, kl, dl, o => by
    show ((o + ks.length : Nat) : Int) :: endsOf (o + ks.length) (F ++ [(kl, dl)]) = ((o + ks.length : Nat) : Int) :: endsOf (o + ks.length) F ++ [((o + (ks.length + lenF F) + kl.length : Nat) : Int)]
    rw [ends_app F kl dl (o + ks.length), Nat.add_assoc o ks.length (lenF F)]
    rfl
theorem octs_len : ∀ (F : List (List Int × Dat)), (∀ p ∈ F, Right p.2 p.1) → (octs F []).length ≤ 25 * F.length
  | [], _ => Nat.le_refl _
  | (ks, d) :: F, h => by
    have h1 : ks.length ≤ 25 := right_len (h (ks, d) (.head _))
    have h2 := octs_len F fun p hp => h p (.tail _ hp)
    show (ks ++ octs F []).length ≤ 25 * (F.length + 1)
    rw [List.length_append]
    omega
theorem rest_zero : ∀ (F : List (List Int × Dat)) (X : List Int), restOf F X 0 = []
  | [], X => List.take_zero
  | (ks, d) :: F, X => by
    show (if 0 < ks.length then ks.take 0 else restOf F X (0 - ks.length)) = []
    split
    · rfl
    · rw [Nat.zero_sub]; exact rest_zero F X
theorem taken_zero (F : List (List Int × Dat)) (h : ∀ p ∈ F, Right p.2 p.1) : taken F 0 = [] := by
  cases F with
  | nil => rfl
  | cons p F =>
    obtain ⟨ks, d⟩ := p
    have : 0 < ks.length := right_pos (h (ks, d) (.head _))
    show (if 0 < ks.length then [] else d :: taken F (0 - ks.length)) = []
    rw [if_pos this]
theorem good_all {F : List (List Int × Dat)} (h : ∀ p ∈ F, Right p.2 p.1) : ∀ p ∈ F, Good p.1 p.2 := fun p hp => right_good (h p hp)

theorem hears_none {F : List (List Int × Dat)} {kl : List Int} {dl : Dat} {code : Int} {ps : List (List Int)} (hF : ∀ p ∈ F, Right p.2 p.1) (hl : Right dl kl) (hn : F.length ≤ 3) (hps : ps.flatten = octs F [] ++ kl) :
    Hears (F.map (·.2) ++ [dl]) (endsOf 0 F ++ [((octs F [] ++ kl).length : Int)]) none code [] [] 0 ps := by
  have hG : ∀ p ∈ F ++ [(kl, dl)], Right p.2 p.1 := fun p hp => by
    rcases List.mem_append.mp hp with hp | hp
    · exact hF p hp
    · rw [List.mem_singleton.mp hp]; exact hl
  have hO : (octs (F ++ [(kl, dl)]) []).length < 500 := by
    have := octs_len _ hG
    rw [List.length_append, List.length_singleton] at this
    omega
  have hoc : octs (F ++ [(kl, dl)]) [] = octs F [] ++ kl := by
    rw [octs_app, octs_tail]
    show octs F [] ++ (kl ++ []) = _
    rw [List.append_nil]
  have h := hears_all (X := []) (b := none) (F := F ++ [(kl, dl)]) (xd := []) (xe := []) (stop := none) (code := code) rfl (good_all hG) hO (by rw [List.length_append, List.length_singleton]; omega) ⟨rfl, rfl⟩ ps 0 (by unfold codeF codeAt; split <;> rfl)
    (by rw [List.drop_zero, hoc, hps])
  rw [rest_zero, taken_zero _ hG, List.append_nil, List.append_nil, ends_app, List.map_append] at h
  rw [show ((0 + lenF F + kl.length : Nat) : Int) = ((octs F [] ++ kl).length : Int) by rw [lenF_eq, List.length_append]; simp] at h
  exact h
theorem hears_some {F : List (List Int × Dat)} {kl wk : List Int} {dl : Dat} {many : Nat} {code : Int} {ps : List (List Int)} (hF : ∀ p ∈ F, Right p.2 p.1) (hl : Right dl kl) (hw : Wrong wk many code) (hn : F.length ≤ 3) (hps : ps.flatten = (octs F [] ++ wk) ++ kl) :
    Hears (F.map (·.2) ++ [dl]) (endsOf 0 F ++ [(((octs F [] ++ wk) ++ kl).length : Int)]) (some ((octs F []).length + (many : Int))) code [] [] 0 ps := by
  have hb := wrong_bad hw
  have hwl := wrong_len hw
  have hkl := right_len hl
  have hO : (octs F (wk ++ kl)).length < 500 := by
    have := octs_len _ hF
    rw [octs_tail, List.length_append, List.length_append]
    omega
  have hm := wrong_pos hw
  have h := hears_all (X := wk ++ kl) (b := some (many, code)) (F := F) (xd := [dl]) (xe := [(((octs F [] ++ wk) ++ kl).length : Int)]) (stop := some ((octs F []).length + (many : Int))) (code := code) ⟨wk, kl, rfl, hb⟩ (good_all hF) hO (by omega)
    ⟨by rw [lenF_eq]; simp, rfl, fun e he => by
      rw [List.mem_singleton.mp he, lenF_eq]
      have := hb.1
      simp only [List.length_append]
      omega⟩ ps 0 (by unfold codeF codeAt; split <;> first | rfl | (dsimp only; rw [if_neg (by omega)]))
    (by rw [List.drop_zero, octs_tail, hps, List.append_assoc])
  rw [rest_zero, taken_zero _ hF] at h
  exact h
theorem right_ok {d : Dat} {ks : List Int} (h : Right d ks) : dOk 8 d = true := by
  obtain ⟨kind, wide, pl, k0, k1, ko, w0, w1, hl, hp, rfl, e⟩ := h
  have only : ∀ {nm : String} {ks : List Int} {d : Dat}, onlyR nm ks = .frame d → dOk 8 d = true := fun {nm ks d} h => by
    unfold onlyR at h
    split at h
    · cases h; rfl
    · cases h
  unfold payloadOf at e
  split at e
  · cases e; rfl
  split at e
  · cases e; rfl
  split at e
  · unfold settingsOf at e
    split at e
    · split at e
      · split at e
        · cases e
        · cases e; rfl
      · cases e
    · split at e <;> cases e
    · cases e
  split at e
  · split at e
    · cases e; rfl
    · cases e
  split at e
  · exact only e
  split at e
  · exact only e
  split at e
  · exact only e
  · cases e; rfl
end Mine
end

section
open PySem PySem.W PySem.Calls PyProof.Rows PySem.Spec
namespace Mine
section
variable {prog : Program} {w : World} {A : Around} {E : Value → Shared → Prop} {s : Shared} {env : Env} {x : Str} {px : Pos} {body : List Stmt} {Q : Flow → Shared → Prop}
/-- a for over anything that walks, by what holds at each turn -/
theorem for_walks {I : Addr} {fp wr : List Addr} {n : Nat} {P : Nat → Value → Prop} {St : Nat → Heap → Prop} {J : Nat → Shared → Prop} (W : Walks prog w A I fp wr n P St) (hE : PassesOwn (model prog w) A env E)
    (hJ : ∀ i s', i ≤ n → J i s' → St i s'.heap)
    (step : ∀ i v s' h' tk', i < n → P i v → J i s' → St (i + 1) h' → (∀ b o, b ∉ wr → s'.heap.get? b = some o → h'.get? b = some o) →
      wpAny (model prog w) A (assign (.Name x px) env v) (fun _ s₂ => wpAny (model prog w) A (execs body env) (fun f s₃ => match f with | .next => Halt (J (i + 1) s₃) | .cont => Halt (J (i + 1) s₃) | .brk => Q .next s₃ | .ret v => Q (.ret v) s₃) E s₂) E { s' with heap := h', toks := tk' })
    (done : ∀ s' h' tk', J n s' → (∀ b o, b ∉ wr → s'.heap.get? b = some o → h'.get? b = some o) → Q .next { s' with heap := h', toks := tk' }) (h : J 0 s) :
    codeAny (model prog w) A (.forLoop (.Name x px) (.ref I) body [] env) (fun r s' => match r with | .ok f => Q f s' | .error e => cameBackBy (model prog w) A env E e s') s := by
  refine codeAny_forLoop_any (fun k s' => ∃ i, i ≤ n ∧ k = n + 1 - i ∧ J i s') ?_ (n + 1) ⟨0, Nat.zero_le _, rfl, h⟩
  rintro k s' ⟨i, hi, rfl, hj⟩
  have hst := hJ i s' hi hj
  by_cases hlt : i < n
  · refine W.item i _ _ _ hlt hst fun v h' tk' hP hst' hk => ?_
    refine wpAny_of_eq (a := ()) rfl ?_
    refine wpAny_passesOwn hE (wpAny_mono (step i v s' h' tk' hlt hP hj hst' hk) (fun _ s₂ h₂ => wpAny_passesOwn hE (wpAny_mono h₂ (fun f s₃ h₃ => ?_) fun _ _ z => z)) fun _ _ z => z)
    cases f with
    | next => exact ⟨n + 1 - (i + 1), by omega, i + 1, hlt, rfl, h₃⟩
    | cont => exact ⟨n + 1 - (i + 1), by omega, i + 1, hlt, rfl, h₃⟩
    | brk => exact h₃
    | ret v => exact h₃
  · obtain rfl : i = n := Nat.le_antisymm hi (Nat.not_lt.mp hlt)
    refine W.done _ _ _ hst fun h' tk' hk => wpAny_execs_nil (done s' h' tk' hj hk)
theorem range_iter {g : Heap} {L : Addr} {m : Str → Option Value} {news : List (Addr × Obj)} {b : Int} {t : Tok} {n : Nat} {Q : Value → Shared → Prop} (F : Fr g L s.heap m) (N : News g L s.heap news) (hsm : Builtin.Range.small 0 b 1 = true) (hn : Builtin.Range.rangeSize 0 b 1 = (n : Int))
    (h : ∀ h' I tk o, Fr g L h' m → News g L h' ((I, o) :: news) → (∀ q ∈ news, q.1 < I) → IsRangeIter h' I (0 + ((0 : Nat) : Int) * 1) ((n : Int) - ((0 : Nat) : Int)) 1 → Q (.ref I) { s with heap := h', toks := tk }) :
    wpAny (model prog w) A (call (.type "range") [.int b t]) (fun xv s₁ => wpAny (model prog w) A (pyIter xv) Q E s₁) E s := by
  refine call_range_1 ?_
  refine wpAny_pyIter_range (IsRange.new _ _ _ _ _ _ _) hsm ?_
  refine h _ _ _ { cls := .type "range_iterator", data := .fields #[rawInt 0, rawInt (Builtin.Range.rangeSize 0 b 1), rawInt 1] } ((F.push _).push _) (fun q hq => ?_) (fun q hq => ?_) ?_
  · have N' := (N.push F { cls := .type "range", data := .fields #[.int 0 s.toks, .int b t, .int 1 (s.toks + 1)] }).push (F.push _) { cls := .type "range_iterator", data := .fields #[rawInt 0, rawInt (Builtin.Range.rangeSize 0 b 1), rawInt 1] }
    rcases List.mem_cons.mp hq with rfl | hq
    · exact N' _ (.head _)
    · exact N' q (.tail _ (.tail _ hq))
  · show q.1 < (s.heap.push _).objs.size
    rw [Heap.size_push]
    exact Nat.lt_succ_of_lt (Heap.lt_size (N q hq).1)
  · show Heap.get? _ _ = _
    rw [← hn]
    simpa using Heap.get?_push_size (s.heap.push _) rfl
end
end Mine
end

section
open PySem PySem.W PySem.Calls PyProof.Rows PySem.Spec
namespace Mine
/-- behind a call that changes the box, makes a tuple and lays the rest -/
theorem right_next {g h h' : Heap} {L box a : Addr} {m : Str → Option Value} {pre post nw : List (Addr × Obj)} {o o' oa : Obj} (F : Fr g L h m) (N : News g L h (pre ++ (box, o) :: post)) (K : Keep [] [box] h h') (e : h'.get? box = some o') (hd : ∀ p ∈ pre ++ post, p.1 ≠ box)
    (ha : h.get? a = none) (hA : h'.get? a = some oa) (Lw : Laid h h' nw) :
    Fr g L h' m ∧ News g L h' ((a, oa) :: (pre ++ (box, o') :: (post ++ nw))) ∧ ∀ q ∈ (a, oa) :: nw, ∀ r ∈ pre ++ (box, o) :: post, q.1 ≠ r.1 := by
  obtain ⟨F', N'⟩ := drawn_next F N K e hd
  have new : ∀ b ob, h.get? b = none → h'.get? b = some ob → h'.get? b = some ob ∧ b ≠ L ∧ g.get? b = none := fun b ob h1 h2 => by
    have := news_add (a := b) (o := ob) (news := []) F (fun _ q => nomatch q) h1 h2
    exact this (b, ob) (.head _)
  refine ⟨F', fun p hp => ?_, fun q hq r hr z => ?_⟩
  · rcases List.mem_cons.mp hp with rfl | hp
    · exact new _ _ ha hA
    rcases List.mem_append.mp hp with hp | hp
    · exact N' p (List.mem_append.mpr (.inl hp))
    rcases List.mem_cons.mp hp with rfl | hp
    · exact N' _ (List.mem_append.mpr (.inr (.head _)))
    rcases List.mem_append.mp hp with hp | hp
    · exact N' p (List.mem_append.mpr (.inr (.tail _ hp)))
    · exact new _ _ (Lw p hp).1 (Lw p hp).2
  · have e1 := (N r hr).1
    rcases List.mem_cons.mp hq with rfl | hq
    · rw [← z, ha] at e1; cases e1
    · rw [← z, (Lw q hq).1] at e1; cases e1
/-- bytes of a list with a name of its own -/
theorem named {b : Array UInt8} {ks : List Int} (h : KBw.bInts b = ks) {n : Nat} (hl : ks.length ≤ n) : ∃ os, KBw.bInts b = os ∧ os.length ≤ n ∧ os = ks := ⟨ks, h, hl, rfl⟩
/-- an object in the midst of the ledger is another -/
theorem upd_mid {d : Addr} {o o' : Obj} : ∀ {pre post : List (Addr × Obj)}, (∀ p ∈ pre ++ post, p.1 ≠ d) → Upd d o o' (pre ++ (d, o) :: post) (pre ++ (d, o') :: post)
  | [], _, h => .head h
  | _ :: _, _, h => .tail (h _ (.head _)) (upd_mid fun q hq => h q (.tail _ hq))
theorem ends_len : ∀ (F : List (List Int × Dat)) (o : Nat), (endsOf o F).length = F.length
  | [], _ => rfl
  | (ks, d) :: F, o => by
    show (endsOf (o + ks.length) F).length + 1 = F.length + 1
    rw [ends_len F (o + ks.length)]
end Mine
namespace Mine
section
variable {g h h' : Heap} {L : Addr} {m : Str → Option Value} {news : List (Addr × Obj)}
theorem fr_heard (F : Fr g L h m) (K : Keep [L] [] h h') : Fr g L h' m :=
  ⟨K.ns F.ns (fun q => nomatch q), fun b o e => K.get (F.keep b o e) (fun q => by
    have z : b = L := List.mem_singleton.mp q
    have := fr_none F
    rw [← z, e] at this
    cases this) (fun q => nomatch q), F.above⟩
theorem news_heard (N : News g L h news) (K : Keep [L] [] h h') : News g L h' news := fun p hp =>
  ⟨K.get (N p hp).1 (fun q => (N p hp).2.1 (List.mem_singleton.mp q)) (fun q => nomatch q), (N p hp).2⟩
end
theorem right_oks {F : List (List Int × Dat)} {kl : List Int} {dl : Dat} (hF : ∀ p ∈ F, Right p.2 p.1) (hl : Right dl kl) : ∀ d ∈ F.map (·.2) ++ [dl], dOk 8 d = true := fun d hd => by
  rcases List.mem_append.mp hd with hd | hd
  · obtain ⟨p, hp, rfl⟩ := List.mem_map.mp hd
    exact right_ok (hF p hp)
  · rw [List.mem_singleton.mp hd]
    exact right_ok hl
end Mine
end

section
open PySem PySem.W PySem.Calls PyProof.Rows PySem.Spec
namespace Mine
section
variable {prog : Program} {w : World} {A : Around} {h₀ : Heap} {L : Addr} {m : Str → Option Value} {env : Env} {elt : PySem.Expr} {x : Str} {scope : Scope} {cl : List (Str × Addr)} {s : Shared} {Fin : Shared → List Value → List (Addr × Obj) → Prop} {news : List (Addr × Obj)} {E : Value → Shared → Prop}
theorem src_range {n : Nat} {t : Tok} (hh : A.handled = none) (F : Fr h₀ L s.heap m) (N : News h₀ L s.heap news) (hn : n ≤ 1000)
    (h : ∀ g tk, LCg.CompRest prog w A h₀ L m env elt x scope cl { s with heap := g, toks := tk } (fun _ => True) (fun i v => ∃ t, v = .int (0 + (i : Int)) t) (Fin { s with heap := g, toks := tk }) n 0 [] news) :
    wpAny (model prog w) A (call (.type "range") [.int (n : Int) t]) (LCg.CompSrc prog w A h₀ L m env elt x scope cl Fin) E s := by
  refine call_range_1 ?_
  refine LCg.CompSrc.range (n := n) hh (F.keeps fun _ _ e => Heap.get?_push_of_some _ e) (N.grown fun _ _ e => Heap.get?_push_of_some _ e) (IsRange.new _ _ _ _ _ _ _) (small_one (by decide) (by decide) (by omega) (by omega)) ?_ (by rw [PySem.sizeLine_eq]; omega) (fun g => h g _)
  rw [rangeSize_nat, Int.sub_zero, Int.toNat_natCast]
end
theorem ones_flat : ∀ (al : List Int), ((List.range al.length).map fun i => (al.drop i).take 1).flatten = al := by
  intro al
  induction al with
  | nil => rfl
  | cons a al ih =>
    rw [List.length_cons, List.range_succ_eq_map, List.map_cons, List.map_map]
    show [a] ++ ((List.range al.length).map ((fun i => ((a :: al).drop i).take 1) ∘ Nat.succ)).flatten = a :: al
    rw [show ((fun i => ((a :: al).drop i).take 1) ∘ Nat.succ) = fun i => (al.drop i).take 1 from rfl, ih]
    rfl
end Mine
namespace Mine
theorem three_flat {al : List Int} {c1 c2 : Nat} (h12 : c1 ≤ c2) (h2 : c2 ≤ al.length) : [al.take c1, (al.drop c1).take (c2 - c1), (al.drop c2).take (al.length - c2)].flatten = al := by
  have e3 : (al.drop c2).take (al.length - c2) = al.drop c2 := List.take_of_length_le (by rw [List.length_drop]; exact Nat.le_refl _)
  rw [e3]
  show al.take c1 ++ ((al.drop c1).take (c2 - c1) ++ (al.drop c2 ++ [])) = al
  have e2 : (al.drop c1).take (c2 - c1) ++ al.drop c2 = al.drop c1 := by
    have h := List.take_append_drop (c2 - c1) (al.drop c1)
    rw [List.drop_drop, show c1 + (c2 - c1) = c2 by omega] at h
    exact h
  rw [List.append_nil, e2, List.take_append_drop]
theorem clip_mono {n : Nat} {a b : Int} (h0 : 0 ≤ a) (h : a ≤ b) (hb : b ≤ n) : clipAt n a ≤ clipAt n b := by
  rw [clip_nat h0 (Int.le_trans h hb), clip_nat (Int.le_trans h0 h) hb]
  exact Int.toNat_le_toNat h
theorem clip_le {n : Nat} {a : Int} : clipAt n a ≤ n := by unfold clipAt; omega
end Mine
end

section
open PySem PySem.W PySem.Calls PyProof.Rows PySem.Spec
namespace Mine
/-- what holds between two turns of the law's loop -/
inductive LawJ (s1 : Shared) (bx fr en D1 I : Addr) (ws : List Value) (c1 n i : Nat) (s' : Shared) : Prop
  | mk (FF : List (List Int × Dat)) (fvs evs : List Value) (nf ne : Nat) (wb : Array UInt8) (wt t : Tok) (oc oI : Obj) (m0 : Str → Option Value) (h2 : Heap) (tk2 : Nat) (tl : List (Addr × Obj))
      (e : s' = { heap := h2, gens := s1.gens, drawn := s1.drawn, toks := tk2, os := s1.os }) (hFl : FF.length = i) (hFR : ∀ p ∈ FF, Right p.2 p.1) (hD : DatAll tl fvs (FF.map (·.2))) (hEs : IntsAre evs (endsOf 0 FF)) (hwb : KBw.bInts wb = octs FF []) (hoc : oc.data = .cell (some (.bytes wb wt)))
      (hit : IsRangeIter h2 I (0 + (i : Int) * 1) ((n : Int) - (i : Int)) 1) (hoff : ∀ q ∈ tl, q.1 ∉ [I, en, fr, bx, s1.heap.objs.size + 1])
      (F2 : Fr s1.heap s1.heap.objs.size h2 (fun y => if y = Str.ofString "box" then some (Value.ref bx) else if y = Str.ofString "frames" then some (Value.ref fr) else if y = Str.ofString "ends" then some (Value.ref en)
        else if y = Str.ofString "stop" then some Value.none else if y = Str.ofString "code" then some Value.none else m0 y))
      (N2 : News s1.heap s1.heap.objs.size h2 ((I, oI) :: (en, W.listOf evs.toArray ne) :: (fr, W.listOf fvs.toArray nf) :: (bx, boxO D1 (1 + 4 * (i : Int)) t 0) :: (D1, W.listOf ws.toArray c1) :: (s1.heap.objs.size + 1, oc) :: tl)) : LawJ s1 bx fr en D1 I ws c1 n i s'
/-- what holds behind the law's first if -/
inductive LawK (s1 : Shared) (bx fr en D1 : Addr) (ws : List Value) (c1 : Nat) (FF : List (List Int × Dat)) (fvs evs : List Value) (nf ne : Nat) (tl : List (Addr × Obj)) (s' : Shared) : Prop
  | mk (stop : Option Int) (code : Int) (sv cv : Value) (os : List Int) (wb : Array UInt8) (wt t : Tok) (k : Int) (oc : Obj) (m0 : Str → Option Value) (h2 : Heap) (tk2 : Nat)
      (e : s' = { heap := h2, gens := s1.gens, drawn := s1.drawn, toks := tk2, os := s1.os }) (hstop : optV stop sv) (hcode : stop = none ∧ cv = .none ∨ ∃ t, cv = .int code t)
      (hears : ∀ ps kl dl, Right dl kl → ps.flatten = os ++ kl → Hears (FF.map (·.2) ++ [dl]) (endsOf 0 FF ++ [((os ++ kl).length : Int)]) stop code [] [] 0 ps) (hol : os.length ≤ 105) (hwb : KBw.bInts wb = os) (hoc : oc.data = .cell (some (.bytes wb wt))) (hk : 0 ≤ k) (hk2 : k < 100)
      (F2 : Fr s1.heap s1.heap.objs.size h2 (fun y => if y = Str.ofString "box" then some (Value.ref bx) else if y = Str.ofString "frames" then some (Value.ref fr) else if y = Str.ofString "ends" then some (Value.ref en)
        else if y = Str.ofString "stop" then some sv else if y = Str.ofString "code" then some cv else m0 y))
      (N2 : News s1.heap s1.heap.objs.size h2 ((en, W.listOf evs.toArray ne) :: (fr, W.listOf fvs.toArray nf) :: (bx, boxO D1 k t 0) :: (D1, W.listOf ws.toArray c1) :: (s1.heap.objs.size + 1, oc) :: tl)) : LawK s1 bx fr en D1 ws c1 FF fvs evs nf ne tl s'
theorem five_off {I en fr bx c : Addr} {x : Addr × Obj} {nw r : List (Addr × Obj)} {q : Addr × Obj} {oI oe of ob oD oc : Obj} {D1 : Addr} (off : ∀ q ∈ x :: nw, ∀ r' ∈ (I, oI) :: (en, oe) :: (fr, of) :: (bx, ob) :: (D1, oD) :: (c, oc) :: r, q.1 ≠ r'.1) (hq : q ∈ nw) : q.1 ∉ [I, en, fr, bx, c] := fun m => by
  simp only [List.mem_cons, List.not_mem_nil, or_false] at m
  rcases m with m | m | m | m | m
  · exact off q (.tail _ hq) _ (.head _) m
  · exact off q (.tail _ hq) _ (.tail _ (.head _)) m
  · exact off q (.tail _ hq) _ (.tail _ (.tail _ (.head _))) m
  · exact off q (.tail _ hq) _ (.tail _ (.tail _ (.tail _ (.head _)))) m
  · exact off q (.tail _ hq) _ (.tail _ (.tail _ (.tail _ (.tail _ (.tail _ (.head _)))))) m
theorem four_off {en fr bx c : Addr} {x : Addr × Obj} {nw r : List (Addr × Obj)} {q : Addr × Obj} {oe of ob oD oc : Obj} {D1 : Addr} (off : ∀ q ∈ x :: nw, ∀ r' ∈ (en, oe) :: (fr, of) :: (bx, ob) :: (D1, oD) :: (c, oc) :: r, q.1 ≠ r'.1) (hq : q ∈ nw) : q.1 ∉ [en, fr, bx, c] := fun m => by
  simp only [List.mem_cons, List.not_mem_nil, or_false] at m
  rcases m with m | m | m | m
  · exact off q (.tail _ hq) _ (.head _) m
  · exact off q (.tail _ hq) _ (.tail _ (.head _)) m
  · exact off q (.tail _ hq) _ (.tail _ (.tail _ (.head _))) m
  · exact off q (.tail _ hq) _ (.tail _ (.tail _ (.tail _ (.tail _ (.head _))))) m
/-- addresses that are apart -/
structure Far (c D1 bx fr en I : Addr) : Prop where
  eI : en ≠ I
  fI : fr ≠ I
  bI : bx ≠ I
  DI : D1 ≠ I
  cI : c ≠ I
  eb : en ≠ bx
  fb : fr ≠ bx
  Db : D1 ≠ bx
  cb : c ≠ bx
  ef : en ≠ fr
  Df : D1 ≠ fr
  cf : c ≠ fr
  De : D1 ≠ en
  ce : c ≠ en
theorem Far.of {c D2 D1 bx fr en I : Nat} (h1 : c < D2) (h2 : D2 < D1) (h3 : D1 < bx) (h4 : bx < fr) (h5 : fr < en) (h6 : en < I) : Far c D1 bx fr en I :=
  ⟨Nat.ne_of_lt h6, Nat.ne_of_lt (by omega), Nat.ne_of_lt (by omega), Nat.ne_of_lt (by omega), Nat.ne_of_lt (by omega), Nat.ne_of_gt (by omega), Nat.ne_of_gt h4, Nat.ne_of_lt h3, Nat.ne_of_lt (by omega), Nat.ne_of_gt h5, Nat.ne_of_lt (by omega), Nat.ne_of_lt (by omega), Nat.ne_of_lt (by omega), Nat.ne_of_lt (by omega)⟩
theorem off_cons {a : Addr} {l : List Addr} {tl : List (Addr × Obj)} (h : ∀ q ∈ tl, q.1 ∉ l) (m : a ∈ l) : ∀ q ∈ tl, q.1 ≠ a := fun q hq e => h q hq (e ▸ m)
end Mine
end

section
open PySem PySem.W PySem.Calls PyProof.Rows PySem.Spec
namespace Mine
theorem news_list {g h : Heap} {L a : Addr} {news : List (Addr × Obj)} {vs : List Value} {n : Nat} (N : News g L h news) (m : (a, W.listOf vs.toArray n) ∈ news) : h.IsList a vs.toArray := ⟨_, (N _ m).1, rfl, _, rfl⟩
section
local macro_rules | `(tactic| k_all) => `(tactic| with_reducible assumption)
local macro_rules | `(tactic| walk_at "call ref") => `(tactic| ((first | (with_reducible show wpAny _ _ (call (Value.ref 150) _) _ _ _) | (with_reducible show wpAny _ _ (call (Value.ref 162) _) _ _ _) | (with_reducible show wpAny _ _ (call (Value.ref 169) _) _ _ _) | (with_reducible show wpAny _ _ (call (Value.ref 174) _) _ _ _)); (refine Halt.mk ?_)))
local macro_rules | `(tactic| walk_at "call builtin:list.append") => `(tactic| (refine Halt.mk ?_))
local macro_rules | `(tactic| walk_at "eval ListComp") => `(tactic| (refine Halt.mk ?_))
local macro_rules | `(tactic| walk_at "exec If") => `(tactic| ((fail_if_success (with_reducible rename Stopped => hstop)); (refine Halt.mk ?_)))
local macro_rules | `(tactic| walk_at "pyIter ref") => `(tactic| (refine Halt.mk ?_))
local macro_rules | `(tactic| walk_at "exec For Name Call cons nil") => `(tactic| (refine Halt.mk ?_))
local macro_rules | `(tactic| walk_at "call type:range") => `(tactic| (refine Halt.mk ?_))
set_option maxHeartbeats 4000000 in
theorem the_law : PySem.Challenge.rw_tk0091_01.Holds := hd (by
  k_go0
  (all_goals try k_fold)
  (rename Shared => s1)
  (with_reducible rename CellsAre _ _ _ => Y)
  (with_reducible rename Top _ _ _ _ _ _ => T)
  (with_reducible rename Below _ _ _ _ => B)
  (with_reducible rename Frag.In _ _ => X)
  (with_reducible rename Heap.IsList _ _ _ => hL)
  (with_reducible rename IntsAre _ _ => hI)
  (with_reducible rename Fr _ _ _ _ => F)
  (with_reducible rename News _ _ _ _ => N)
  rename ¬ _ < _ => h63
  k_steps
  refine wpAny_For ?_
  k_steps
  (with_reducible rename Fr _ _ _ _ => F1); (with_reducible rename News _ _ _ _ => N1)
  rename_i D2 ws hh0 hIw hCw hLw lD D1 c1 hh1 lD1 bx hh2 lbx fr hh3 lfr en hh4 len T0 hh5 lT0 hh6 hh7 hh8 hh9 hh10 oc dc hh11 hh12
  have C : Cx _ _ _ _ _ (ar (1 + claimMargin) 4 (some []) []) [] 40 _ := ⟨B, X, T, by decide, by decide⟩
  have hws := Nat.le_trans (Nat.le_of_eq hCw) (Nat.le_trans (Nat.min_le_left _ _) (show 30 ≤ 2 ^ 20 by decide))
  have hnb : D1 ≠ bx := Nat.ne_of_lt lbx.1
  refine wpAny_call (drawn_spec (n := 38) (C.deeperC B F1 ?hk) (own_ofC B N1 (all_cons (by k_mem) all_nil)) (news_list N1 (vs := ws) (n := c1) (by k_mem)) hnb hIw hws (by decide) (by decide) (by decide) (by decide) (fun d1 u1 t1 h1 tk1 d10 d11 K1 e1 => ?_))
  case hk => rfl
  obtain ⟨F2, N2⟩ := drawn_next (pre := [_, _, _]) (post := [_, _, _]) F1 N1 K1 e1 (all_cons (Nat.ne_of_gt lT0.2.2.1) (all_cons (Nat.ne_of_gt len.2.1) (all_cons (Nat.ne_of_gt lfr.1) (all_cons (Nat.ne_of_lt lbx.1) (all_cons (Nat.ne_of_lt lbx.2.1) (all_cons (Nat.ne_of_lt lbx.2.2) all_nil))))))
  simp only [List.cons_append, List.nil_append] at N2
  clear F1 N1
  dsimp only
  k_steps
  (with_reducible rename Fr _ _ _ _ => F3); (with_reducible rename News _ _ _ _ => N3)
  have hd1 : d1 = 0 ∨ d1 = 1 ∨ d1 = 2 := by omega
  have hsz : Builtin.Range.rangeSize 0 (1 + d1) 1 = (((1 + d1).toNat : Nat) : Int) := by rcases hd1 with rfl | rfl | rfl <;> decide
  refine range_iter (n := (1 + d1).toNat) F3 N3 (by rcases hd1 with rfl | rfl | rfl <;> decide) hsz (fun h4 I tk4 oI F4 N4 hI4 hit4 => ?_)
  dsimp only
  have hn3 : (1 + d1).toNat ≤ 3 := by omega
  have hn1 : 1 ≤ (1 + d1).toNat := by omega
  generalize (1 + d1).toNat = n at hsz hit4 hn3 hn1 ⊢
  have hIs : @LT.lt Nat _ (s1.heap.objs.size + 1) D2 ∧ @LT.lt Nat _ D2 D1 ∧ @LT.lt Nat _ D1 bx ∧ @LT.lt Nat _ bx fr ∧ @LT.lt Nat _ fr en ∧ @LT.lt Nat _ en I := ⟨lD, lD1.1, lbx.1, lfr.1, len.1, hI4 (en, W.listOf #[] 0) (by k_mem)⟩
  clear hI4 lD lD1 lbx lfr len lT0
  obtain ⟨lt1, lt2, lt3, lt4, lt5, lt6⟩ := hIs
  have FA := Far.of lt1 lt2 lt3 lt4 lt5 lt6
  refine for_walks (LCg.range_walks (I := I) rfl 0 n) ?hE (J := LawJ s1 bx fr en D1 I ws c1 n)
    ?hJ ?step ?done ?start
  case hE => first | passes_own | with_unfolding_all passes_own
  case hJ =>
    rintro i s' hi ⟨FF, fvs, evs, nf, ne, wb, wt, t, oc, oI, m0, h2, tk2, tl, rfl, hFl, hFR, hD, hEs, hwb, hoc, hit, hoff, F2, N2⟩
    exact hit
  case start =>
    have F4p := fr_pin (fr_pin (fr_pin (fr_pin (fr_pin F4 (k := Str.ofString "code") (v := .none) rfl) (k := Str.ofString "stop") (v := .none) rfl) (k := Str.ofString "ends") (v := .ref en) rfl) (k := Str.ofString "frames") (v := .ref fr) rfl) (k := Str.ofString "box") (v := .ref bx) rfl
    have hit5 : IsRangeIter h4 I (0 + ((0 : Nat) : Int) * 1) ((n : Int) - ((0 : Nat) : Int)) 1 := hit4
    have hbox : boxO D1 (0 + 1) t1 0 = boxO D1 (1 + 4 * ((0 : Nat) : Int)) t1 0 := rfl
    rw [hbox] at N4
    refine ⟨[], [], [], 0, 0, #[], _, t1, oc, oI, _, h4, _, [], rfl, rfl, (fun _ q => nomatch q), .nil, .nil, rfl, dc, hit5, (fun _ q => nomatch q), F4p, ?_⟩
    clear hbox hit5 F4p
    exact nPick N4 (by k_mem) (nPick N4 (by k_mem) (nPick N4 (by k_mem) (nPick N4 (by k_mem) (nPick N4 (by k_mem) (nPick N4 (by k_mem) (fun _ q => nomatch q))))))
  case step =>
    rintro i v s' h' tk' hi hv ⟨FF, fvs, evs, nf, ne, wb, wt, t, oc, oI, m0, h2, tk2, tl, rfl, hFl, hFR, hD, hEs, hwb, hoc, hit, hoff, F2, N2⟩ hit' hk
    obtain ⟨oI', hI'⟩ : ∃ o, h'.get? I = some o := ⟨_, hit'⟩
    obtain ⟨F5, N5⟩ := iter_next (pre := []) F2 N2 (fun b o hb e => hk b o (fun q => hb (List.mem_singleton.mp q)) e) hI' (all_cons FA.eI (all_cons FA.fI (all_cons FA.bI (all_cons FA.DI (all_cons FA.cI (off_cons hoff (by simp)))))))
    simp only [List.nil_append] at N5
    clear F2 N2
    obtain ⟨tv, rfl⟩ := hv
    k_steps
    (with_reducible rename Fr _ _ _ _ => F6); (with_reducible rename News _ _ _ _ => N6)
    refine wpAny_call (right_spec (n := 37) (C.deeperC B F6 ?hk) (own_ofC B N6 (all_cons (by k_mem) all_nil)) (news_list N6 (vs := ws) (n := c1) (by k_mem)) hnb hIw hws (by omega) (by omega) (fun a vf d b tb nw t' h7 tk7 ks hb hR hDn Lw ha ha' K7 e7 => ?_))
    case hk => rfl
    obtain ⟨F8, N8, off8⟩ := right_next (pre := [_, _, _]) F6 N6 K7 e7 (all_cons (Ne.symm FA.bI) (all_cons FA.eb (all_cons FA.fb (all_cons FA.Db (all_cons FA.cb (off_cons hoff (by simp))))))) ha ha' Lw
    simp only [List.cons_append, List.nil_append] at N8 off8
    have hoff8 : ∀ q ∈ tl ++ nw, q.1 ∉ [I, en, fr, bx, s1.heap.objs.size + 1] := fun q hq => (List.mem_append.mp hq).elim (hoff q) (five_off off8)
    have nac : a ≠ s1.heap.objs.size + 1 := off8 _ (.head _) _ (.tail _ (.tail _ (.tail _ (.tail _ (.tail _ (.head _))))))
    have naf : a ≠ fr := off8 _ (.head _) _ (.tail _ (.tail _ (.head _)))
    have nae : a ≠ en := off8 _ (.head _) _ (.tail _ (.head _))
    have htc : ∀ q ∈ tl ++ nw, q.1 ≠ s1.heap.objs.size + 1 := off_cons hoff8 (by simp)
    clear F6 N6 K7 e7 off8 hk hit ha ha'
    have hol : (octs FF []).length ≤ 75 := Nat.le_trans (octs_len FF hFR) (by omega)
    have hkl := right_len hR
    obtain ⟨os, hwo, hol, hoe⟩ := named hwb hol
    clear hwb
    dsimp only
    k_steps
    (with_reducible rename Fr _ _ _ _ => F9); (with_reducible rename News _ _ _ _ => N9)
    have hfl := hD.length
    have hel := hEs.length
    have hll : (endsOf 0 FF).length = FF.length := ends_len FF 0
    rw [List.length_map] at hfl
    refine append_K F9 N9 (upd_mid (pre := [_, _, _]) (all_cons naf (all_cons (Ne.symm FA.fI) (all_cons FA.ef (all_cons (Ne.symm FA.fb) (all_cons FA.Df (all_cons FA.cf (off_cons hoff8 (by simp)))))))))  (fun h10 F10 N10 => ?_) (by rw [PySem.sizeLine_eq]; simp; omega)
    simp only [List.cons_append, List.nil_append] at N10
    clear F9 N9
    k_steps
    (with_reducible rename Fr _ _ _ _ => F11); (with_reducible rename News _ _ _ _ => N11)
    refine append_K F11 N11 (upd_mid (pre := [_, _]) (all_cons nae (all_cons (Ne.symm FA.eI) (all_cons (Ne.symm FA.ef) (all_cons (Ne.symm FA.eb) (all_cons FA.De (all_cons FA.ce (off_cons hoff8 (by simp)))))))))  (fun h12 F12 N12 => ?_) (by rw [PySem.sizeLine_eq]; simp; omega)
    simp only [List.cons_append, List.nil_append] at N12
    clear F11 N11
    k_steps
    dsimp only
    unfold Halt
    have hlen : (os ++ ks).length = lenF FF + ks.length := by rw [List.length_append, lenF_eq, hoe]
    have hocs : octs (FF ++ [(ks, d)]) [] = os ++ ks := by
      rw [octs_app, octs_tail, hoe]
      show octs FF [] ++ (ks ++ []) = _
      rw [List.append_nil]
    have F12p := fr_pin (fr_pin (fr_pin (fr_pin (fr_pin F12 (k := Str.ofString "code") (v := .none) rfl) (k := Str.ofString "stop") (v := .none) rfl) (k := Str.ofString "ends") (v := .ref en) rfl) (k := Str.ofString "frames") (v := .ref fr) rfl) (k := Str.ofString "box") (v := .ref bx) rfl
    have hbox : (1 + 4 * (i : Int) + 4) = 1 + 4 * ((i + 1 : Nat) : Int) := by omega
    rw [hbox] at N12
    simp only [List.push_toArray] at N12
    obtain ⟨tn, N13⟩ : ∃ tn, News s1.heap s1.heap.objs.size h12 ((a, tupObj [vf, Value.bytes b tb]) :: (I, oI') :: (en, W.listOf (evs ++ [Value.int ((os.length + ks.length : Nat) : Int) tn]).toArray (ne + 1)) :: (fr, W.listOf (fvs ++ [vf]).toArray (nf + 1)) ::
      (bx, boxO D1 (1 + 4 * ((i + 1 : Nat) : Int)) t' 0) :: (D1, W.listOf ws.toArray c1) :: (s1.heap.objs.size + 1, _) :: (tl ++ nw)) := ⟨_, N12⟩
    have hEs' : IntsAre (evs ++ [Value.int ((os.length + ks.length : Nat) : Int) tn]) (endsOf 0 (FF ++ [(ks, d)])) := by
      rw [ends_app, Nat.zero_add, ← hlen, List.length_append]
      exact hEs.append (.cons _ _ .nil)
    have hit12 : IsRangeIter h12 I (0 + ((i + 1 : Nat) : Int) * 1) ((n : Int) - ((i + 1 : Nat) : Int)) 1 := by
      have e := (N13 (I, oI') (.tail _ (.head _))).1
      have e2 : some oI' = some _ := hI'.symm.trans hit'
      exact e.trans e2
    have hFR' : ∀ p ∈ FF ++ [(ks, d)], Right p.2 p.1 := fun p hp => by
      rcases List.mem_append.mp hp with hp | hp
      · exact hFR p hp
      · rw [List.mem_singleton.mp hp]; exact hR
    have hD' : DatAll (tl ++ nw) (fvs ++ [vf]) ((FF ++ [(ks, d)]).map (·.2)) := by
      rw [List.map_append]
      exact (hD.mono fun q hq => List.mem_append.mpr (.inl hq)).append (.one (hDn.mono fun q hq => List.mem_append.mpr (.inr hq)))
    exact ⟨FF ++ [(ks, d)], fvs ++ [vf], _, nf + 1, ne + 1, wb ++ b, _, t', _, oI', _, h12, _, tl ++ nw, rfl, by rw [List.length_append, hFl]; rfl, hFR', hD', hEs', by rw [hocs]; assumption, by assumption, hit12, hoff8, F12p, News.of_sub N13 fun q hq => .tail _ hq⟩
  case done =>
    rintro s' h' tk' ⟨FF, fvs, evs, nf, ne, wb, wt, t, oc, oI, m0, h2, tk2, tl, rfl, hFl, hFR, hD, hEs, hwb, hoc, hit, hoff, F2, N2⟩ hk
    have hI0 := (N2 (I, oI) (.head _)).2
    have F5 := LCg.fr_but F2 hk (Ne.symm hI0.1) hI0.2
    have N5 := LCg.news_but (News.of_sub N2 fun q hq => .tail _ hq) hk (all_cons FA.eI (all_cons FA.fI (all_cons FA.bI (all_cons FA.DI (all_cons FA.cI (off_cons hoff (by simp)))))))
    have hoff2 : ∀ q ∈ tl, q.1 ∉ [en, fr, bx, s1.heap.objs.size + 1] := fun q hq m => hoff q hq (.tail _ m)
    clear F2 N2 hk hit hI0 hoff lt6 hit4 F4 N4 F3 N3
    dsimp only
    k_steps
    refine wpAny_call (drawn_spec (n := 38) (C.deeperC B F5 ?hk) (own_ofC B N5 (all_cons (by k_mem) all_nil)) (news_list N5 (vs := ws) (n := c1) (by k_mem)) hnb hIw hws (by omega) (by omega) (by decide) (by decide) (fun d2 u2 t2 h5 tk5 d20 d21 K5 e5 => ?_))
    case hk => rfl
    obtain ⟨F6, N6⟩ := drawn_next (pre := [_, _]) F5 N5 K5 e5 (all_cons FA.eb (all_cons FA.fb (all_cons FA.Db (all_cons FA.cb (off_cons hoff2 (by simp))))))
    simp only [List.cons_append, List.nil_append] at N6
    clear F5 N5 K5 e5
    have htc : ∀ q ∈ tl, q.1 ≠ s1.heap.objs.size + 1 := off_cons hoff2 (by simp)
    have hol : (octs FF []).length ≤ 75 := Nat.le_trans (octs_len FF hFR) (by omega)
    dsimp only
    k_steps
    refine join_next (LawK s1 bx fr en D1 ws c1 FF fvs evs nf ne tl) ?iff ?rest
    case iff =>
      have hstop : Stopped := trivial
      k_steps
      rotate_left
      (with_reducible rename Fr _ _ _ _ => F7); (with_reducible rename News _ _ _ _ => N7)
      have F7p := fr_pin (fr_pin (fr_pin (fr_pin (fr_pin F7 (k := Str.ofString "code") (v := .none) rfl) (k := Str.ofString "stop") (v := .none) rfl) (k := Str.ofString "ends") (v := .ref en) rfl) (k := Str.ofString "frames") (v := .ref fr) rfl) (k := Str.ofString "box") (v := .ref bx) rfl
      exact ⟨rfl, ⟨none, 0, .none, .none, _, _, _, _, _, _, _, _, _, rfl, rfl, .inl ⟨rfl, rfl⟩, fun ps kl dl hl hps => hears_none hFR hl (by omega) hps, by omega, hwb, hoc, by omega, by omega, F7p, N7⟩⟩
      (with_reducible rename Fr _ _ _ _ => F7); (with_reducible rename News _ _ _ _ => N7)
      refine wpAny_call (wrong_spec (n := 37) (C.deeperC B F7 ?hk) (own_ofC B N7 (all_cons (by k_mem) all_nil)) (news_list N7 (vs := ws) (n := c1) (by k_mem)) hnb hIw hws (by omega) (by omega) d20 (by omega) (fun a wkb tb many tm code tc t' h8 tk8 wk hwk hW ha ha' K8 e8 => ?_))
      case hk => rfl
      obtain ⟨F9, N9, off9⟩ := right_next (pre := [_, _]) (nw := []) F7 N7 K8 e8 (all_cons FA.eb (all_cons FA.fb (all_cons FA.Db (all_cons FA.cb (off_cons hoff2 (by simp)))))) ha ha' (fun _ q => nomatch q)
      simp only [List.cons_append, List.nil_append, List.append_nil] at N9 off9
      have nac : a ≠ s1.heap.objs.size + 1 := off9 _ (.head _) _ (.tail _ (.tail _ (.tail _ (.tail _ (.head _)))))
      clear F7 N7 K8 e8 off9 ha ha'
      obtain ⟨os1, hwo, hol0, hoe⟩ := named hwb hol
      have hkl := wrong_len hW
      clear hwb
      dsimp only
      k_steps
      (with_reducible rename Fr _ _ _ _ => F7); (with_reducible rename News _ _ _ _ => N7)
      with_reducible rename KBw.bInts (_ ++ _) = _ => hap
      have F7p := fr_pin (fr_pin (fr_pin (fr_pin (fr_pin F7 (k := Str.ofString "code") rfl) (k := Str.ofString "stop") rfl) (k := Str.ofString "ends") (v := .ref en) rfl) (k := Str.ofString "frames") (v := .ref fr) rfl) (k := Str.ofString "box") (v := .ref bx) rfl
      refine ⟨rfl, ⟨some (((os1.length : Nat) : Int) + ((many : Nat) : Int)), code, _, _, os1 ++ wk, _, _, _, _, _, _, _, _, rfl, ⟨_, rfl⟩, .inr ⟨tc, rfl⟩, fun ps kl dl hl hps => ?_, by rw [List.length_append]; omega, hap, by assumption, by omega, by omega, F7p, nOff N7⟩⟩
      rw [hoe] at hps ⊢
      exact hears_some hFR hl hW (by omega) hps
    case rest =>
      rintro s' ⟨stop, code, sv, cv, os, wb, wt, t, kx, oc, m0, h2, tk2, rfl, hstop, hcode, hears, hol1, hwx, hoc, hkx, hkx2, F7, NX⟩
      have hstp : Stopped := trivial
      dsimp only
      k_steps
      refine wpAny_call (right_spec (n := 37) (C.deeperC B F7 ?hk) (own_ofC B NX (all_cons (by k_mem) all_nil)) (news_list NX (vs := ws) (n := c1) (by k_mem)) hnb hIw hws (by omega) (by omega) (fun a vf d b tb nw t' h7 tk7 ks hb hR hDn Lw ha ha' K7 e7 => ?_))
      case hk => rfl
      obtain ⟨F8, N8, off8⟩ := right_next (pre := [_, _]) F7 NX K7 e7 (all_cons FA.eb (all_cons FA.fb (all_cons FA.Db (all_cons FA.cb (off_cons hoff2 (by simp)))))) ha ha' Lw
      simp only [List.cons_append, List.nil_append] at N8 off8
      have hoff8 : ∀ q ∈ tl ++ nw, q.1 ∉ [en, fr, bx, s1.heap.objs.size + 1] := fun q hq => (List.mem_append.mp hq).elim (hoff2 q) (four_off off8)
      have nac : a ≠ s1.heap.objs.size + 1 := off8 _ (.head _) _ (.tail _ (.tail _ (.tail _ (.tail _ (.head _)))))
      have naf : a ≠ fr := off8 _ (.head _) _ (.tail _ (.head _))
      have nae : a ≠ en := off8 _ (.head _) _ (.head _)
      have hkl := right_len hR
      have htc : ∀ q ∈ tl ++ nw, q.1 ≠ s1.heap.objs.size + 1 := off_cons hoff8 (by simp)
      clear F7 NX K7 e7 off8 ha ha'
      dsimp only
      k_steps
      have hfl := hD.length
      have hel := hEs.length
      have hll : (endsOf 0 FF).length = FF.length := ends_len FF 0
      rw [List.length_map] at hfl
      (with_reducible rename Fr _ _ _ _ => F9); (with_reducible rename News _ _ _ _ => N9)
      with_reducible rename KBw.bInts (_ ++ _) = os ++ ks => hap2
      obtain ⟨al, hal, hall, hale⟩ := named hap2 (n := 130) (by rw [List.length_append]; omega)
      clear hap2
      have hall2 : al.length = os.length + ks.length := by rw [hale, List.length_append]
      refine append_K F9 N9 (upd_mid (pre := [_, _]) (all_cons naf (all_cons FA.ef (all_cons (Ne.symm FA.fb) (all_cons FA.Df (all_cons FA.cf (off_cons hoff8 (by simp))))))))  (fun h10 F10 N10 => ?_) (by rw [PySem.sizeLine_eq]; simp; omega)
      simp only [List.cons_append, List.nil_append] at N10
      clear F9 N9
      k_steps
      (with_reducible rename Fr _ _ _ _ => F11); (with_reducible rename News _ _ _ _ => N11)
      refine append_K F11 N11 (upd_mid (pre := [_]) (all_cons nae (all_cons (Ne.symm FA.ef) (all_cons (Ne.symm FA.eb) (all_cons FA.De (all_cons FA.ce (off_cons hoff8 (by simp))))))))  (fun h12 F12 N12 => ?_) (by rw [PySem.sizeLine_eq]; simp; omega)
      simp only [List.cons_append, List.nil_append, List.push_toArray] at N12
      clear F11 N11
      replace N12 := nOff N12
      k_steps
      (with_reducible rename Fr _ _ _ _ => F13); (with_reducible rename News _ _ _ _ => N13)
      have offC : ∀ oe oc' of : Obj, ∀ q ∈ (en, oe) :: (fr, of) :: (D1, W.listOf ws.toArray c1) :: (s1.heap.objs.size + 1, oc') :: (tl ++ nw), q.1 ≠ bx := fun oe oc' of => all_cons FA.eb (all_cons FA.fb (all_cons FA.Db (all_cons FA.cb (off_cons hoff8 (by simp)))))
      refine wpAny_call (drawn_spec (n := 38) (C.deeperC B F13 ?hk) (own_ofC B N13 (all_cons (by k_mem) all_nil)) (news_list N13 (vs := ws) (n := c1) (by k_mem)) hnb hIw hws (by omega) (by omega) (by omega) (by omega) (fun d4 u4 t4 h14 tk14 d40 d41 K14 e14 => ?_))
      case hk => rfl
      obtain ⟨F14, N14⟩ := drawn_next (pre := [_, _]) F13 N13 K14 e14 (offC _ _ _)
      simp only [List.cons_append, List.nil_append] at N14
      clear F13 N13 K14 e14
      dsimp only
      k_steps
      (with_reducible rename Fr _ _ _ _ => F13); (with_reducible rename News _ _ _ _ => N13)
      refine wpAny_call (drawn_spec (n := 38) (C.deeperC B F13 ?hk) (own_ofC B N13 (all_cons (by k_mem) all_nil)) (news_list N13 (vs := ws) (n := c1) (by k_mem)) hnb hIw hws (by omega) (by omega) (by omega) (by omega) (fun d5 u5 t5 h15 tk15 d50 d51 K15 e15 => ?_))
      case hk => rfl
      obtain ⟨F15, N15⟩ := drawn_next (pre := [_, _]) F13 N13 K15 e15 (offC _ _ _)
      simp only [List.cons_append, List.nil_append] at N15
      clear F13 N13 K15 e15
      dsimp only
      k_steps
      (with_reducible rename Fr _ _ _ _ => F16); (with_reducible rename News _ _ _ _ => N16)
      have hds : (FF.map (·.2) ++ [d]).length ≤ 1000 := by rw [List.length_append, List.length_map]; show FF.length + 1 ≤ 1000; omega
      have hdok := right_oks hFR hR
      have hDA : DatAll (tl ++ nw) (fvs ++ [vf]) (FF.map (·.2) ++ [d]) := (hD.mono fun q hq => List.mem_append.mpr (.inl hq)).append (.one (hDn.mono fun q hq => List.mem_append.mpr (.inr hq)))
      have hEA : ∀ t, IntsAre (evs ++ [Value.int ((al.length : Nat) : Int) t]) (endsOf 0 FF ++ [((os ++ ks).length : Int)]) := fun t => by
        rw [← hale]
        exact hEs.append (.cons _ _ .nil)
      refine wpAny_call (heard_spec (n := 19) (pvs := [_]) (C.deeperC B F16 ?hk) (own_ofC B N16 (all_cons (.head _) (all_cons (.tail _ (.tail _ (.head _))) (all_cons (.tail _ (.head _)) (fun q hq => .tail _ (.tail _ (.tail _ (.tail _ (.tail _ (.tail _ hq)))))))))) (.cons hal .nil) hDA (hEA _) (hears [al] ks d hR (by simp [hale])) hds hdok hstop hcode (fun h17 tk17 K17 => ?_))
      case hk => rfl
      have F17 := fr_heard F16 K17
      have N17 := news_heard (nOff N16) K17
      clear F16 N16 K17
      dsimp only
      k_steps
      refine LCg.ListComp_U F17 (by with_unfolding_all rfl) (by decide) (by rfl) (by decide) (by rfl) ?_
      k_steps
      refine src_range rfl F17 N17 (by omega) (fun g18 tk18 => rest_bytes (fun i => (al.drop i).take 1) ?turn ?fin)
      case turn =>
        intro i ti I2 oI2 C2 oC2 D2 m2 ys2 hA tkA EA hi hCA h1A FA NA
        clear F17 N17
        k_steps
        (with_reducible rename Fr _ _ hA _ => FA'); clear FA'; (with_reducible rename News _ _ hA _ => NA'); clear NA'
        (with_reducible rename Fr _ _ _ _ => FB); (with_reducible rename News _ _ _ _ => NB)
        with_reducible rename KBw.bInts _ = List.take _ (List.drop _ al) => hcut
        rw [cut_one hi] at hcut
        exact ⟨_, _, _, _, rfl, hcut, rfl, FB, NB⟩
      case fin =>
        intro ys hys D18 h18 tk18' F18 N18 off18
        clear F17 N17
        k_steps
        refine wpAny_call (heard_spec (n := 19) (pvs := ys) (np := ys.length) (C.deeperC B F18 ?hk) (own_ofC B N18 (all_cons (.head _) (all_cons (.tail _ (.tail _ (.head _))) (all_cons (.tail _ (.head _)) (fun q hq => .tail _ (.tail _ (.tail _ (.tail _ (.tail _ (.tail _ hq)))))))))) hys hDA (hEA _) (hears _ ks d hR (by rw [ones_flat, hale])) hds hdok hstop hcode (fun h19 tk19 K19 => ?_))
        case hk => rfl
        have F19 := fr_heard F18 K19
        have N19 := news_heard (nOff N18) K19
        clear F18 N18 K19
        dsimp only
        k_steps
        (with_reducible rename Fr _ _ _ _ => F20); (with_reducible rename News _ _ _ _ => N20)
        with_reducible rename KBw.bInts (KBy.picked _ none (some _)) = _ => p1
        with_reducible rename KBw.bInts (KBy.picked _ (some _) none) = _ => p3
        with_reducible rename KBw.bInts (KBy.picked _ (some _) (some _)) = _ => p2
        refine wpAny_call (heard_spec (n := 19) (pvs := [_, _, _]) (C.deeperC B F20 ?hk3) (own_ofC B N20 (all_cons (.head _) (all_cons (.tail _ (.tail _ (.head _))) (all_cons (.tail _ (.head _)) (fun q hq => .tail _ (.tail _ (.tail _ (.tail _ (.tail _ (.tail _ hq)))))))))) (.cons p1 (.cons p2 (.cons p3 .nil))) hDA (hEA _) (hears _ ks d hR (by rw [three_flat (clip_mono d40 (by omega) (by omega)) clip_le, hale])) hds hdok hstop hcode (fun h21 tk21 K21 => ?_))
        case hk3 => rfl
        have F21 := fr_heard F20 K21
        clear F20 N20 K21 off18 hdok hDA hEA hears hR hFR hD hDn Lw p1 p2 p3 hys
        dsimp only
        k_steps
        done)
end
end Mine
end

theorem PySem.Challenge.cw_tk0091_01_holds : PySem.Challenge.rw_tk0091_01.Holds :=
  Mine.the_law
