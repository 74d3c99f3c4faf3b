import PyProof.Rows.All
import Wide.All
import OpenK.AllK
import Wide.FinOn
import PySem.Challenge.RW_nz0564_01
open PySem PySem.W PyProof.Rows
set_option Elab.async false
namespace Mine
/-! the head: the top's run over the booted state, looked at three times (each look one check of the kernel, so that no check is large) -/
abbrev PG0 : Program := PySem.Challenge.rw_nz0564_01.row.prog
noncomputable def topAt (w : World) (os : OsState) : Option Shared :=
  PySem.W.Fast.tw14082659384304107361 treeTable PG0 w (boot_heap w.params).objs.size ((boot_heap w.params).nsMap mainGlobals "__annotations__") 3320 ⟨boot_heap w.params, Array.mk [], boot_drawn, boot_toks, os⟩ (topStub PG0)
noncomputable def xt0 (s : Shared) : Bool := xlAt PySem.Challenge.rw_nz0564_01.row.prog [] s && recOk (RowW.records PySem.Challenge.rw_nz0564_01.row.toRowW) s
theorem lookA (w : World) (os : OsState) : (topAt w os).map (fun s => (seen ((recsOf PG0).map (·.name)) (ownsOf PG0) [] { s with gens := #[] }, s.heap.bltView, pinSeenD PG0 (drecsOf PG0) s, plainSeenD PG0 [] s, clsSeenW PG0 [] s)) =
    some (expectedOf PG0, bltViewBooted, pinGoodD (drecsOf PG0), plainGoodD PG0 [], clsGoodW PG0 []) := by kernel_rfl
theorem lookB (w : World) (os : OsState) : (topAt w os).map (fun s => (s.heap.keysOk (looseW PG0 []) ((recsOf PG0).map (·.name)) ((litsOf PG0).map (·.1)) ((clssOf PG0 (looseW PG0 [])).map (·.name)) && s.heap.accountedOkI (importedModules PG0.main.body) && s.heap.isNs mainGlobals && s.heap.isNs builtinsNs && tablesOk PG0 s.heap && xt0 s && (if true then s.gens.size == 0 else !leftWithCleanup s.gens), wideSeen PG0 s)) =
    some (true, wideGood PG0) := by kernel_rfl
theorem lookC (w : World) (os : OsState) : (topAt w os).map (fun s => (tabsOk PG0 s, plainSeenE PG0 (looseW PG0 []) s, (staticsOk (importedModules PG0.main.body) (boot_heap w.params) s.heap && namesBound PG0 s.heap && gensDone s && laidKept (boot_heap w.params) s.heap))) = some (true, plainGoodE PG0 (looseW PG0 []), true) := by kernel_rfl
theorem left_of_looks {p q p0 : Program} {Xt Xt0 : Shared → Bool} {α : Type} {Yf : Shared → α} {Ya : World → α} {N : Nat} {run : World → OsState → Option Shared} (ep : p = p0) (eq : q = p0) (ex : Xt = Xt0)
    (hrun : ∀ w os, run w os = PySem.W.Fast.tw14082659384304107361 treeTable p0 w (boot_heap w.params).objs.size ((boot_heap w.params).nsMap mainGlobals "__annotations__") N ⟨boot_heap w.params, Array.mk [], boot_drawn, boot_toks, os⟩ (topStub p0))
    (b : ∀ w : World, (fencedOpening treeTable p w N).map (fun s => (s.heap, s.gens, s.drawn, s.toks)) = some (boot_heap w.params, Array.mk [], boot_drawn, boot_toks))
    (A : ∀ (w : World) (os : OsState), (run w os).map (fun s => (seen ((recsOf p0).map (·.name)) (ownsOf p0) [] { s with gens := #[] }, s.heap.bltView, pinSeenD p0 (drecsOf p0) s, plainSeenD p0 [] s, clsSeenW p0 [] s)) =
      some (expectedOf p0, bltViewBooted, pinGoodD (drecsOf p0), plainGoodD p0 [], clsGoodW p0 []))
    (B : ∀ (w : World) (os : OsState), (run w os).map (fun s => (s.heap.keysOk (looseW p0 []) ((recsOf p0).map (·.name)) ((litsOf p0).map (·.1)) ((clssOf p0 (looseW p0 [])).map (·.name)) && s.heap.accountedOkI (importedModules p0.main.body) && s.heap.isNs mainGlobals && s.heap.isNs builtinsNs && tablesOk p0 s.heap && Xt0 s && (if true then s.gens.size == 0 else !leftWithCleanup s.gens), wideSeen p0 s)) =
      some (true, wideGood p0))
    (C : ∀ (w : World) (os : OsState), (run w os).map (fun s => (tabsOk p0 s, plainSeenE p0 (looseW p0 []) s, (staticsOk (importedModules p0.main.body) (boot_heap w.params) s.heap && namesBound p0 s.heap && gensDone s && laidKept (boot_heap w.params) s.heap))) = some (true, plainGoodE p0 (looseW p0 []), true))
    (hg : ∀ w : World, ((boot_heap w.params).isNs mainGlobals && (Array.mk [] : Array GenState).size == 0) = true)
    (h : ∀ (w : World) (os : OsState), (run w os).map Yf = some (Ya w)) :
    LeftO p q [] Xt Yf Ya N true := fun w => by
  subst ep eq ex
  obtain ⟨s, hs, hv⟩ := Option.map_eq_some_iff.mp (b w)
  obtain ⟨heap, gens, drawn, toks, os⟩ := s
  cases hv
  unfold openEnds
  rw [hs]
  obtain ⟨s₁, hr, h2⟩ := Option.map_eq_some_iff.mp (h w os)
  have A := A w os
  have B := B w os
  have C := C w os
  rw [hr] at A B C
  have A := Option.some.inj A
  have B := Option.some.inj B
  have C := Option.some.inj C
  obtain ⟨a1, a2, a3, a4, a5⟩ := Prod.mk.inj A |>.imp_right fun A => Prod.mk.inj A |>.imp_right fun A => Prod.mk.inj A |>.imp_right fun A => Prod.mk.inj A
  obtain ⟨b1, b2⟩ := Prod.mk.inj B
  obtain ⟨c1, c2, D⟩ := Prod.mk.inj C |>.imp_right fun C => Prod.mk.inj C
  have ht : topFrom treeTable q w N ⟨boot_heap w.params, Array.mk [], boot_drawn, boot_toks, os⟩ = some s₁ := by
    unfold topFrom
    rw [PySem.W.Fast.te14082659384304107361, ← hrun]
    dsimp only
    rw [hg w]
    dsimp only
    rw [hr]
    show (match _ with | true => some s₁ | false => none) = _
    rw [D]
  show (topFrom treeTable q w N ⟨boot_heap w.params, Array.mk [], boot_drawn, boot_toks, os⟩).map _ = _
  rw [ht, Option.map_some, h2]
  unfold openSeen openGood
  rw [a1, a2, a3, a4, a5, b2, c1, c2]
  exact congrArg some (Prod.ext (congrArg (fun x => (_, _, x, _, _, _, _, _, _)) b1) rfl)
local macro_rules | `(tactic| o_head $H) => `(tactic| (
  refine holds_open (q := PySem.Challenge.rw_nz0564_01.row.prog) (loose := []) (Xt := fun s => xlAt PySem.Challenge.rw_nz0564_01.row.prog [] s && recOk (RowW.records PySem.Challenge.rw_nz0564_01.row.toRowW) s) (XP := XL PySem.Challenge.rw_nz0564_01.row.prog []) (Yf := Hook.obs $H) (Ya := Hook.val $H) (YP := Hook.says $H) (N := 3320) ?hl (Hook.of $H) (Hook.keeps $H) (fun s e => xl_of s (Bool.and_eq_true_iff.mp e).1) XL.keeps (by rfl) (by rfl) (by rfl) (fun s e => recFacts_of (Bool.and_eq_true_iff.mp e).2) (by rfl) (by first | assumption | decide +kernel) (by decide +kernel) ⟨rfl, rfl, rfl, rfl, rfl, by decide +kernel⟩ ?hw ?hc
  case hl =>
    refine left_of_looks (p0 := PG0) (Xt0 := xt0) (run := topAt) (by kernel_rfl) (by kernel_rfl) (by kernel_rfl) (fun _ _ => by kernel_rfl) (boot_open (by kernel_rfl) (by decide +kernel) (fun s => by kernel_rfl)) lookA lookB lookC (fun w => by kernel_rfl) ?_
    intro w os; kernel_rfl))
set_option maxRecDepth 100000 in
set_option maxHeartbeats 8000000 in
open_top hd for PySem.Challenge.rw_nz0564_01
end Mine
set_option maxRecDepth 100000
set_option maxHeartbeats 8000000
set_option linter.all false
noncomputable section

/-! ## S1 -/
section
open PySem PySem.W PySem.Calls PyProof.Rows
namespace Mine
abbrev PG : Program := PySem.Challenge.rw_nz0564_01.row.prog

/-! the small language: values, objects, results -/
inductive AV where
  | int (k : Int) | bool (b : Bool) | none | str (s : Str) | loc (i : Nat)
  deriving DecidableEq
inductive AO where
  | ints (ns : List Int) | mix (vs : List AV) | inst (C : Addr) (d : Nat) | dict (fs : List (Str × AV)) | cell (v : Option AV) | frozen (ns : List Int) | tab (ts : List (Nat × Nat))
abbrev AH := List AO
inductive Res (α : Type) where
  | ok (a : α) (H : AH) | err (x : Str) (H : AH) | stuck
noncomputable def AM (α : Type) := AH → Res α
noncomputable def AM.pure {α : Type} (a : α) : AM α := fun H => .ok a H
noncomputable def AM.bind {α β : Type} (m : AM α) (f : α → AM β) : AM β := fun H => match m H with
  | .ok a H' => f a H'
  | .err x H' => .err x H'
  | .stuck => .stuck
instance : Monad AM where
  pure := AM.pure
  bind := AM.bind
theorem AM.bind_ok {α β : Type} {m : AM α} {f : α → AM β} {H H' : AH} {a : α} (h : m H = .ok a H') : (m >>= f) H = f a H' := by show AM.bind m f H = _; unfold AM.bind; rw [h]
theorem AM.bind_err {α β : Type} {m : AM α} {f : α → AM β} {H H' : AH} {x : Str} (h : m H = .err x H') : (m >>= f) H = .err x H' := by show AM.bind m f H = _; unfold AM.bind; rw [h]
theorem AM.bind_stuck {α β : Type} {m : AM α} {f : α → AM β} {H : AH} (h : (m >>= f) H ≠ .stuck) : m H ≠ .stuck := by
  intro e
  refine h ?_
  show AM.bind m f H = _
  unfold AM.bind
  rw [e]
theorem AM.pure_ok {α : Type} {a : α} {H : AH} : (Pure.pure a : AM α) H = .ok a H := rfl

/-! what bears them -/
noncomputable def VR (as : List Addr) : AV → Value → Prop
  | .int k, v => ∃ t, v = .int k t
  | .bool b, v => v = .bool b
  | .none, v => v = .none
  | .str s, v => ∃ t, v = .str s t
  | .loc i, v => ∃ a, as[i]? = some a ∧ v = .ref a
noncomputable def VRs (as : List Addr) : List AV → List Value → Prop
  | [], [] => True
  | a :: l, v :: r => VR as a v ∧ VRs as l r
  | _, _ => False
inductive FR (as : List Addr) : List (Str × AV) → List DictEntry → Prop
  | nil : FR as [] []
  | cons {x : Str} {a : AV} {l : List (Str × AV)} {e : DictEntry} {r : List DictEntry} (hk : ∃ t, e.key = .str x t) (hv : VR as a e.val) (hr : FR as l r) : FR as ((x, a) :: l) (e :: r)
noncomputable def OR (as : List Addr) : AO → Obj → Prop
  | .ints ns, o => ∃ vs n, o = listOf vs.toArray n ∧ IntsAre vs ns
  | .mix l, o => ∃ vs n, o = listOf vs.toArray n ∧ VRs as l vs
  | .inst C d, o => ∃ dx, as[d]? = some dx ∧ o = instObj C dx
  | .dict fs, o => ∃ es, o = dictOf es fs.length ∧ FR as fs es
  | .cell none, o => o.data = .cell none
  | .cell (some a), o => ∃ v, o.data = .cell (some v) ∧ VR as a v
  | .frozen ns, o => o.cls = .type "list" ∧ ∃ vs n, o.data = .seq (List.toArray vs) n ∧ IntsAre vs ns
  | .tab ts, o => ∃ ps : Array Value, o = tabObj ps ∧ TriplesOk ps.toList ∧ ∀ pos : Pos, (pos.line, pos.col) ∉ ts → codeAmong pos ps.toList = none
theorem idx_pre {α : Type} {l l' : List α} {i : Nat} {a : α} (h : l <+: l') (e : l[i]? = some a) : l'[i]? = some a := by
  obtain ⟨r, rfl⟩ := h
  have hi : i < l.length := (List.getElem?_eq_some_iff.mp e).1
  rw [List.getElem?_append_left hi]; exact e
theorem VR.mono {as as' : List Addr} {a : AV} {v : Value} (h : as <+: as') (x : VR as a v) : VR as' a v := by
  cases a <;> try exact x
  obtain ⟨b, e, r⟩ := x
  exact ⟨b, idx_pre h e, r⟩
theorem VRs.mono {as as' : List Addr} (h : as <+: as') : ∀ {l : List AV} {r : List Value}, VRs as l r → VRs as' l r
  | [], [], _ => trivial
  | _ :: _, _ :: _, x => ⟨x.1.mono h, VRs.mono h x.2⟩
theorem FR.mono {as as' : List Addr} (h : as <+: as') {l : List (Str × AV)} {r : List DictEntry} (x : FR as l r) : FR as' l r := by
  induction x with
  | nil => exact .nil
  | cons hk hv _ ih => exact .cons hk (hv.mono h) ih
theorem OR.mono {as as' : List Addr} {a : AO} {o : Obj} (h : as <+: as') (x : OR as a o) : OR as' a o := by
  match a, x with
  | .ints _, x => exact x
  | .mix _, ⟨vs, n, e, r⟩ => exact ⟨vs, n, e, r.mono h⟩
  | .inst _ _, ⟨dx, e, r⟩ => exact ⟨dx, idx_pre h e, r⟩
  | .dict _, ⟨es, e, r⟩ => exact ⟨es, e, r.mono h⟩
  | .cell none, x => exact x
  | .cell (some _), ⟨v, e, r⟩ => exact ⟨v, e, r.mono h⟩
  | .frozen _, x => exact x
  | .tab _, x => exact x

abbrev Ads (news : List (Addr × Obj)) : List Addr := news.map (·.1)
structure Rel (H : AH) (news : List (Addr × Obj)) : Prop where
  len : news.length = H.length
  at_ : ∀ (i : Nat) (ao : AO), H[i]? = some ao → ∃ a o, news[i]? = some (a, o) ∧ OR (Ads news) ao o
theorem Rel.get {H : AH} {news : List (Addr × Obj)} (R : Rel H news) {i : Nat} {ao : AO} {a : Addr} (h : H[i]? = some ao) (e : (Ads news)[i]? = some a) : ∃ o, (a, o) ∈ news ∧ news[i]? = some (a, o) ∧ OR (Ads news) ao o := by
  obtain ⟨b, o, e1, r⟩ := R.at_ i ao h
  have : (Ads news)[i]? = some b := by rw [List.getElem?_map, e1]; rfl
  rw [e] at this
  cases this
  exact ⟨o, List.mem_of_getElem? e1, e1, r⟩
theorem Rel.push {H : AH} {news : List (Addr × Obj)} (R : Rel H news) {a : Addr} {o : Obj} {ao : AO} (h : OR (Ads news ++ [a]) ao o) : Rel (H ++ [ao]) (news ++ [(a, o)]) := by
  have hm : Ads (news ++ [(a, o)]) = Ads news ++ [a] := by simp
  refine ⟨by simp [R.len], fun i ao' e => ?_⟩
  rw [hm]
  by_cases hi : i < H.length
  · rw [List.getElem?_append_left hi] at e
    obtain ⟨b, o', e1, r⟩ := R.at_ i ao' e
    exact ⟨b, o', by rw [List.getElem?_append_left (by rw [R.len]; exact hi)]; exact e1, r.mono (List.prefix_append _ _)⟩
  · have hl : i = H.length := by
      have := (List.getElem?_eq_some_iff.mp e).1
      simp at this; omega
    subst hl
    rw [List.getElem?_append_right (Nat.le_refl _)] at e
    simp at e
    subst e
    exact ⟨a, o, by rw [← R.len]; simp, h⟩
/-- a change at one place -/
theorem upd_at {D : Addr} {o o' : Obj} : ∀ {news : List (Addr × Obj)} {i : Nat}, (Ads news).Nodup → news[i]? = some (D, o) → Upd D o o' news (news.set i (D, o'))
  | [], _, _, h => by simp at h
  | (a, x) :: r, 0, hd, h => by
    simp at h
    obtain ⟨rfl, rfl⟩ := h
    refine Upd.head fun p hp e => ?_
    have := (List.nodup_cons.mp hd).1
    exact this (List.mem_map.mpr ⟨p, hp, e⟩)
  | (a, x) :: r, i + 1, hd, h => by
    simp only [List.getElem?_cons_succ] at h
    rw [List.set_cons_succ]
    refine Upd.tail ?_ (upd_at (List.nodup_cons.mp hd).2 h)
    intro e
    have := (List.nodup_cons.mp hd).1
    exact this (List.mem_map.mpr ⟨_, List.mem_of_getElem? h, e.symm⟩)
theorem Rel.set {H : AH} {news : List (Addr × Obj)} (R : Rel H news) {i : Nat} {a : Addr} {o o' : Obj} {ao : AO} (e : news[i]? = some (a, o)) (h : OR (Ads news) ao o') : Rel (H.set i ao) (news.set i (a, o')) ∧ Ads (news.set i (a, o')) = Ads news := by
  have hm : Ads (news.set i (a, o')) = Ads news := by
    simp only [Ads, List.map_set]
    refine List.ext_getElem? fun j => ?_
    rw [List.getElem?_set]
    by_cases hj : i = j
    · subst hj
      have hi : i < news.length := (List.getElem?_eq_some_iff.mp e).1
      have e2 := (List.getElem?_eq_some_iff.mp e).2
      simp [hi, e2]
    · simp [hj]
  refine ⟨⟨by simp [R.len], fun j ao' e' => ?_⟩, hm⟩
  rw [hm]
  have hi : i < news.length := (List.getElem?_eq_some_iff.mp e).1
  rw [List.getElem?_set] at e' ⊢
  by_cases hj : i = j
  · subst hj
    rw [if_pos rfl] at e' ⊢
    have hi' : i < H.length := R.len ▸ hi
    rw [if_pos hi'] at e'
    rw [if_pos hi]
    cases e'
    exact ⟨a, o', rfl, h⟩
  · rw [if_neg hj] at e' ⊢
    exact R.at_ j ao' e'
end Mine
end

/-! ## X1 -/
section
open PySem PySem.W PySem.Calls PyProof.Rows
namespace Mine
/-! an exception of a class with an __init__ of its own -/
abbrev excObj (C t : Addr) : Obj := { cls := .ref C, data := .fields #[.ref t, .none, .none, .none, .bool false, .none] }
section
variable {prog : Program} {w : World} {A : Around} {E : Value → Shared → Prop} {h : Heap} {g : Array GenState} {d : Drawn} {t : Nat} {os : OsState} {K : Frag}
variable {nm q : Str} {C N : Addr} {bs bm : List Value} {hdct : Bool} {sn : List Str} {sub : List Value} {ab : Bool} {col : Option Bool} {dd : Option Addr} {k0 k1 k2 k3 k5 : Option Value} {B newId initId : String}
theorem exc_call (F : ExcBaseFacts B newId initId bm) {rest : List Value} {fI : Addr} {Q : Value → Shared → Prop}
    (hC : h.get? C = some (excClassObj nm q C N bs bm hdct sn sub ab col dd k0 k1 k2 k3 k5 newId)) (X : K.In h) (hi : findIn K (.ref C) "__init__" = some (some (.ref fI))) (hf : typeIn K (.ref fI) = some (.type "function")) (hrest : rest.length ≤ sizeLine)
    (hq : codeAny (model prog w) (A.under (.builtin "type.__call__" ⟨.ref C :: rest, []⟩)) (.call (.ref fI) ⟨.ref (h.objs.size + 1) :: rest, []⟩)
      (InitBack (h.objs.size + 1) fun r s' => match r with | .ok (.ret v) => Q v s' | .ok _ => False | .error e => E e s') ⟨(h.push { cls := .type "tuple", data := .seq rest.toArray }).push (excObj C h.objs.size), g, d, t, os⟩) :
    wpAny (model prog w) A (call (.ref C) rest) Q E ⟨h, g, d, t, os⟩ := by
  have f1 := tc_lookup
  have f2 := tc_bind (.ref C)
  have hT : (⟨h, g, d, t, os⟩ : Shared).TypeIs (.ref C) "type" := ⟨_, hC, rfl⟩
  refine wpAny_call (codeAny_of_tree ?_)
  show wpAny _ _ (callAny (.ref C) _) _ _ _
  repeat (any_goals (first | assumption | with_reducible refine wpAny_loadPart_at hC ?_ | wp_step))
  refine ⟨rfl, ?_⟩
  refine codeAny_call_builtin_at (Code.quiet_builtin _ (by decide +kernel)) entry_typeCall (wpAny_check_type_call_sub hC ?_)
  repeat (first | with_reducible refine wpAny_loadPart_at hC ?_ | with_reducible refine wpAny_madeBy_exc hC ?_ | wp_step)
  refine codeAny_call_builtin_code (Code.quiet_builtin _ F.quiet) (wpAny_check_new_sub F hC ?_)
  refine codeAny_exc_new_sub F hC ?_ hrest
  show wpAny _ _ _ _ _ _
  have k : ∀ b o, h.get? b = some o → ((h.push { cls := .type "tuple", data := .seq rest.toArray }).push (excObj C h.objs.size)).get? b = some o := fun b o e => Heap.get?_push_of_some _ (Heap.get?_push_of_some _ e)
  have hC₁ := k _ _ hC
  have hget : ((h.push { cls := .type "tuple", data := .seq rest.toArray }).push (excObj C h.objs.size)).get? (h.objs.size + 1) = some (excObj C h.objs.size) := by heap_get
  have hcC : (Value.ref C :: bm).contains (.ref C) = true := by simp
  have X' : K.In ((h.push { cls := .type "tuple", data := .seq rest.toArray }).push (excObj C h.objs.size)) := fun a o e => k _ _ (X a o e)
  have i1 := looks_findIn (M := model prog w) X' hi
  have b1 := bind_fn (M := model prog w) X' (.ref (h.objs.size + 1)) hf
  unfold isInstance
  repeat (first | with_reducible refine wpAny_loadPart_at hget ?_ | (with_reducible refine wpAny_isSubtype_exc hC₁ ?_; rw [hcC]) | wp_step)
  have t1 : Looks (model prog w) ((h.push { cls := .type "tuple", data := .seq rest.toArray }).push (excObj C h.objs.size)) (typeOf (.ref (h.objs.size + 1))) (.ref C) := (Looks.ld hget).andThen .now
  unfold callSpecial? specialOf
  refine wpAny_isSubtype_exc (C := C) hC₁ ?_
  rw [hcC]
  simp only [Bool.not_true, Bool.false_eq_true, if_false]
  refine wpAny_bind (wpAny_holding (wpAny_bind (wpAny_bind (t1.here (i1.here ?_)))))
  dsimp only
  refine wpAny_holding (wpAny_bind (b1.here ?_))
  refine wpAny_bind (wpAny_call ?_)
  refine codeAny_mono hq fun r s' z => ?_
  rcases r with e | (v | _ | _ | _) <;> first | exact z | exact z.elim | skip
  obtain ⟨rfl, z⟩ := z
  exact wpAny_pure (wpAny_pure z)
end
end Mine
end

/-! ## X2 -/
section
open PySem PySem.W PySem.Calls PyProof.Rows
namespace Mine
namespace F
theorem slot_wd_get : Slot "wrapper_descriptor" "__get__" "wrapper_descriptor.__get__" := .of (owner := "wrapper_descriptor") (n := "__get__") (by rw [typeLookup_type, builtinLookup_eq_fast]; kernel_rfl) (by decide +kernel) (by decide +kernel) (by decide +kernel)
  (by first | exact .inl (by decide +kernel) | exact .inr (by decide +kernel)) (by rw [isSubtype_type]; kernel_rfl)
theorem entry_wd_get : entryFor table "wrapper_descriptor.__get__" = some Builtin.«wrapper_descriptor.__get__» := entryFor_of_tree (by kernel_rfl)
theorem getArgs_wd (a b c : Value) : argsOk "wrapper_descriptor.__get__" ⟨[a, b, c], []⟩ := by unfold argsOk; kernel_rfl
theorem type_ei : typeOf (.builtin "Exception.__init__") = pure (.type "wrapper_descriptor") := by show builtinType _ = _; rw [builtinType_eq_fast]; kernel_rfl
theorem owner_ei : ".".intercalate ("Exception.__init__".cutAt '.').dropLast = "Exception" := by decide +kernel
end F
section
variable {prog : Program} {w : World} {M : Model} {A : Around} {E : Value → Shared → Prop} {h : Heap} {g : Array GenState} {d : Drawn} {t : Nat} {os : OsState}
variable {nm q : Str} {C N : Addr} {bs bm : List Value} {hdct : Bool} {sn : List Str} {sub : List Value} {ab : Bool} {col : Option Bool} {dd : Option Addr} {k0 k1 k2 k3 k5 : Option Value} {newId : String}
theorem bound_ei {x : Addr} {ox : Obj} {v : Value} {Q : Unit → Shared → Prop} (hC : h.get? C = some (excClassObj nm q C N bs bm hdct sn sub ab col dd k0 k1 k2 k3 k5 newId)) (hB : bm.contains (.type "Exception") = true)
    (ho : h.get? x = some ox) (hcls : ox.cls = .ref C) (hq : Q () ⟨h, g, d, t, os⟩) :
    wpAny M A (checkBoundCall "Exception.__init__" ⟨[.ref x, v], []⟩) Q E ⟨h, g, d, t, os⟩ := by
  have Fx := PySem.F.excBase_Exception
  have hcB : (Value.ref C :: bm).contains (.type "Exception") = true := by rw [List.contains_cons, hB, Bool.or_true]
  have hshort := Fx.noStar
  simp only [checkBoundCall, Fx.initKind, Fx.initRow]
  repeat (first | (with_reducible refine wpAny_loadPart_at ho ?_; rw [hcls]) | with_reducible refine wpAny_loadPart_at hC ?_ | (with_reducible refine wpAny_isSubtype_exc hC ?_; rw [hcB]) | wp_step)
  exact hq
theorem wd_run {x C : Addr} {ox : Obj} {Q : Fin → Shared → Prop} (ho : h.get? x = some ox) (hs : Looks M h (isSubtype ox.cls (.type "Exception")) true)
    (hq : Q (.done (.ret (.ref h.objs.size))) ⟨h.push { cls := .type "method-wrapper", data := .fields #[.builtin "Exception.__init__", .ref x] }, g, d, t, os⟩) :
    wpAny M A (Builtin.«wrapper_descriptor.__get__» ⟨[.builtin "Exception.__init__", .ref x, .ref C], []⟩) Q E ⟨h, g, d, t, os⟩ := by
  unfold Builtin.«wrapper_descriptor.__get__»
  repeat (first | (with_reducible refine wpAny_loadPart_at ho ?_) | wp_step)
  rw [F.owner_ei]
  refine Looks.at hs ?_
  repeat wp_step
  exact hq
end
section
variable {prog : Program} {w : World} {A : Around} {E : Value → Shared → Prop} {h : Heap} {g : Array GenState} {d : Drawn} {t : Nat} {os : OsState}
theorem super_ga {so x C : Addr} {ox : Obj} {l₀ l : List Value} {K : Frag} {tk : Tok} {Q : Fin → Shared → Prop}
    (hso : h.get? so = some { cls := .type "super", dict := none, data := .fields #[.ref C, .ref x, .ref C], slots := #[] }) (hno : Looks (model prog w) h (opaqueClassAbove (.ref C)) none)
    (hC : Looks (model prog w) h (mroOf (.ref C)) l₀) (hl : (l₀.dropWhile (· != .ref C)).drop 1 = l) (X : K.In h)
    (hf : alongIn K "__init__" l = some (some (.builtin "Exception.__init__"))) (ho : h.get? x = some ox) (hs : Looks (model prog w) h (isSubtype ox.cls (.type "Exception")) true) (hxC : x ≠ C)
    (hq : Q (.done (.ret (.ref h.objs.size))) ⟨h.push { cls := .type "method-wrapper", data := .fields #[.builtin "Exception.__init__", .ref x] }, g, d, t, os⟩) :
    wpAny (model prog w) A (Builtin.«super.__getattribute__» ⟨[.ref so, .str "__init__" tk], []⟩) Q E ⟨h, g, d, t, os⟩ := by
  have hlk := F.slot_wd_get.lookup
  have hne : (Value.ref x == Value.ref C) = false := by simp [hxC]
  have hn : (("__init__" : Str) == ("__class__" : Str)) = false := by decide
  have hdt : ({ cls := .type "super", dict := none, data := .fields #[.ref C, .ref x, .ref C], slots := #[] } : Obj).data = .fields #[.ref C, .ref x, .ref C] := rfl
  have f0 : (#[.ref C, .ref x, .ref C] : Array Value)[0]? = some (.ref C) := rfl
  have f1 : (#[.ref C, .ref x, .ref C] : Array Value)[1]? = some (.ref x) := rfl
  have f2 : (#[.ref C, .ref x, .ref C] : Array Value)[2]? = some (.ref C) := rfl
  have hte := F.type_ei
  unfold Builtin.«super.__getattribute__»
  repeat (first
    | (with_reducible refine wpAny_field hso hdt f0 ?_) | (with_reducible refine wpAny_field hso hdt f1 ?_) | (with_reducible refine wpAny_field hso hdt f2 ?_)
    | (with_reducible refine ks_wpAny_notOpaque hno ?_)
    | (with_reducible refine Looks.at hC ?_; rw [hl])
    | (refine ks_forIn_along X (fun _ _ => rfl) rfl ?_ hf)
    | (with_reducible refine wpAny_of_eq F.type_ei ?_)
    | (simp only [hn, hne, Bool.or_false, Bool.false_eq_true, if_false])
    | wp_step
    | dsimp only)
  refine codeAny_call_builtin F.slot_wd_get.plain F.entry_wd_get (F.slot_wd_get.check _ _ _ _ _ _ _ _ (show Shared.TypeIs _ (.builtin "Exception.__init__") _ from F.type_ei) (F.getArgs_wd _ _ _) (wd_run ho hs ?_))
  repeat wp_step
  exact hq
theorem super_gm {so x C : Addr} {ox : Obj} {l₀ l : List Value} {K : Frag} {pl : Sem Bool} {Q : Value × List Value → Shared → Prop}
    (hso : h.get? so = some { cls := .type "super", dict := none, data := .fields #[.ref C, .ref x, .ref C], slots := #[] }) (hno : Looks (model prog w) h (opaqueClassAbove (.ref C)) none)
    (hC : Looks (model prog w) h (mroOf (.ref C)) l₀) (hl : (l₀.dropWhile (· != .ref C)).drop 1 = l) (X : K.In h)
    (hf : alongIn K "__init__" l = some (some (.builtin "Exception.__init__"))) (ho : h.get? x = some ox) (hs : Looks (model prog w) h (isSubtype ox.cls (.type "Exception")) true) (hxC : x ≠ C)
    (hq : Q (.ref h.objs.size, []) ⟨h.push { cls := .type "method-wrapper", data := .fields #[.builtin "Exception.__init__", .ref x] }, g, d, t + 1, os⟩) :
    wpAny (model prog w) A (getMethod (.ref so) "__init__" pl) Q E ⟨h, g, d, t, os⟩ := by
  have hlk := PySem.F.ks_slot_super_ga.lookup
  have hcan := PySem.F.ks_canon_super_ga
  have hT : ∀ t', (⟨h, g, d, t', os⟩ : Shared).TypeIs (.ref so) "super" := fun _ => ⟨_, hso, rfl⟩
  unfold getMethod
  refine wpAny_bind (wpAny_specialOf (hT _) hlk ?_)
  show wpAny _ _ (if (Manifest.canonical "super.__getattribute__" != "object.__getattribute__") = true then _ else _) _ _ _
  rw [if_pos hcan]
  unfold getAttr getAttrBy
  refine wpAny_bind (wpAny_bind (wpAny_mkText (wpAny_holding (wpAny_bind (wpAny_typeOf (hT _) (wpAny_bind (wpAny_of_eq hlk ?_)))))))
  show wpAny _ _ (getAttrByItsOwn (.ref so) (.str "__init__" t) (.type "super") (.builtin "super.__getattribute__") true false) _ _ _
  unfold getAttrByItsOwn hookBefore callGetattribute boundAndCalled
  refine wpAny_bind (wpAny_of_eq (show (if onTheHeap (.type "super") then typeLookup (.type "super") "__getattr__" else pure none) = pure none from rfl) ?_)
  refine wpAny_bind (wpAny_attempt (wpAny_holding ?_))
  show wpAny _ _ (bindSpecial (.builtin "super.__getattribute__") (.ref so) >>= _) _ _ _
  refine wpAny_bind (wpAny_of_eq (PySem.F.ks_slot_super_ga.bind _) ?_)
  refine wpAny_mono (Q := fun v s' => v = .ref h.objs.size ∧ s' = ⟨h.push { cls := .type "method-wrapper", data := .fields #[.builtin "Exception.__init__", .ref x] }, g, d, t + 1, os⟩) (E := fun _ _ => False)
    (wpAny_call_entry PySem.F.ks_slot_super_ga (hT _) PySem.F.ks_entry_super_ga (super_ga hso hno hC hl X hf ho hs hxC ⟨_, rfl, rfl, rfl⟩) (PySem.F.ks_gaArgs_super _ _)) (fun v s' hv => ?_) fun _ _ z => z.elim
  obtain ⟨rfl, rfl⟩ := hv
  exact wpAny_pure (wpAny_pure hq)
variable {nm q : Str} {C N : Addr} {bs bm : List Value} {hdct : Bool} {sn : List Str} {sub : List Value} {ab : Bool} {col : Option Bool} {dd : Option Addr} {k0 k1 k2 k3 k5 : Option Value} {newId : String}
theorem mw_call {x mw t0 : Addr} {ox : Obj} {vs : Array Value} {v : Value} {Q : Value → Shared → Prop} (hC : h.get? C = some (excClassObj nm q C N bs bm hdct sn sub ab col dd k0 k1 k2 k3 k5 newId)) (hB : bm.contains (.type "Exception") = true)
    (hm : h.get? mw = some { cls := .type "method-wrapper", data := .fields #[.builtin "Exception.__init__", .ref x] }) (ho : h.get? x = some ox) (hcls : ox.cls = .ref C) (hd : ox.data = .fields vs) (h0 : vs[0]? = some (.ref t0))
    (hq : Q .none ⟨(h.push { cls := .type "tuple", data := .seq #[v] }).update x (Obj.mapFields (·.setIfInBounds 0 (.ref h.objs.size))), g, d, t, os⟩) :
    wpAny (model prog w) A (call (.ref mw) [v]) Q E ⟨h, g, d, t, os⟩ := by
  refine wpAny_call (codeAny_of_tree ?_)
  show wpAny _ A.in1 (callAny (.ref mw) _) _ _ _
  unfold callAny
  refine wpAny_bind (wpAny_load hm ?_)
  show wpAny _ _ (checkBoundCall "Exception.__init__" ⟨[.ref x, v], []⟩ >>= _) _ _ _
  refine wpAny_bind (bound_ei hC hB ho hcls ?_)
  refine wpAny_pure (a := Fin.again (.builtin "Exception.__init__" ⟨[.ref x, v], []⟩)) ⟨Code.quiet_builtin _ (by decide +kernel), codeAny_builtin PySem.F.excBase_Exception.initEntry ?_⟩
  unfold Builtin.«BaseException.__init__»
  dsimp only
  rw [if_neg (by simp)]
  unfold newTuple Builtin.BaseException.bexcPut
  have hsz : 0 < vs.size := (Array.getElem?_eq_some_iff.mp h0).1
  have he₁ := Heap.get?_push_of_some (h := h) { cls := .type "tuple", data := .seq #[v] } ho
  refine wpAny_bind (wpAny_newObj_type (wpAny_bind (wpAny_bind (wpAny_field he₁ hd h0 (wpAny_bind (wpAny_setField he₁ hd hsz ?_))))) (by size_fits))
  exact wpAny_letGo (wpAny_pure hq)
end
end Mine
end

/-! ## X3 -/
section
open PySem PySem.W PySem.Calls PyProof.Rows
namespace Mine
/-! the flight of an exception with a dict of its own -/
abbrev ExcIs (C dx : Addr) (o : Obj) : Prop := o.cls = .ref C ∧ o.dict = some dx
theorem ExcIs.upd {C dx : Addr} {o : Obj} {f : Array Value → Array Value} (x : ExcIs C dx o) : ExcIs C dx (Obj.mapFields f o) := by
  obtain ⟨oc, od, odt, osl⟩ := o
  cases odt <;> exact x
/-- its newest entry's mark is fl -/
noncomputable def TrcD (base h : Heap) (e C dx : Addr) (fl : Value) : Prop :=
  ∃ oe vs T oT ts, h.get? e = some oe ∧ ExcIs C dx oe ∧ oe.data = .fields vs ∧ vs[1]? = some (.ref T) ∧ base.get? T = none ∧ T ≠ e ∧ h.get? T = some oT ∧ oT.data = .fields ts ∧ ts[3]? = some fl
/-- no entry yet -/
noncomputable def RawD (h : Heap) (e C dx : Addr) : Prop := ∃ oe vs, h.get? e = some oe ∧ ExcIs C dx oe ∧ oe.data = .fields vs ∧ vs[1]? = some .none
structure GrdD (base : Heap) (l : List Env) (e : Addr) (h : Heap) : Prop where
  st : base.StaysIn h
  no : base.get? e = none
  ff : h.FunFrames base l
noncomputable def FlyD (base : Heap) (l : List Env) (e C dx : Addr) (h : Heap) : Prop := GrdD base l e h ∧ (TrcD base h e C dx .none ∨ RawD h e C dx)
noncomputable def HldD (base : Heap) (l : List Env) (e C dx L : Addr) (h : Heap) : Prop := GrdD base l e h ∧ TrcD base h e C dx (rawInt L)
section
variable {M : Model} {A : Around} {E : Value → Shared → Prop} {s : Shared} {base : Heap} {env : Env} {outer l : List Env} {L e C dx : Addr} {Q : Unit → Shared → Prop}
theorem GrdD.tail {h : Heap} (x : GrdD base (env :: outer) e h) : GrdD base outer e h := ⟨x.st, x.no, x.ff.2.2⟩
theorem entryD {oe : Obj} {vs : Array Value} {head : Value} {hadNext : Bool} (hfr : A.frames = some (env :: outer)) (G : GrdD base (env :: outer) e s.heap)
    (he : s.heap.get? e = some oe) (hx : ExcIs C dx oe) (hd : oe.data = .fields vs) (hsz : 1 < vs.size)
    (h : ∀ h', HldD base (env :: outer) e C dx L h' → s.heap.UpToSlots h' → Q () { s with heap := h' }) (hf : env.frame = some L) :
    wpAny M A (do let a ← frameOf env; let pl ← entryPlaceOf L hadNext; let b ← EntryCells.newEntry head a .none (rawInt L) .none pl; setField (.ref e) 1 b) Q E s := by
  obtain ⟨hkb, hen, hl⟩ := G
  have hene : e ∉ (env :: outer).filterMap (·.frame) := fun hm => by
    obtain ⟨_, o, ho, hnf⟩ := hl.mem hm
    rw [he] at ho; injection ho with ho; subst ho; exact hnf vs hd
  refine wpAny_bind (wpAny_frameOf_fun hfr hl hf fun h₁ hs₁ => ?_)
  refine wpAny_bind (wpAny_entryPlaceOf fun pl hpl => ?_)
  unfold EntryCells.newEntry newFields
  refine wpAny_bind (wpAny_newObj_type ?_ (hpl.sizeOk5 _ _ _ _ _))
  have he₁ : h₁.get? e = some oe := (hs₁.2.1 e hene).trans he
  have kb₁ : base.StaysIn h₁ := fun b o hbo => (hs₁.2.1 b fun hm => by rw [(hl.mem hm).1] at hbo; cases hbo).trans (hkb b o hbo)
  generalize hto : ({ cls := .type "traceback", dict := none, data := .fields ([head, .ref L, .none, rawInt L, .none] ++ (if pl.isEmpty then List.replicate 6 Value.none else pl)).toArray } : Obj) = to
  have ht3 : ∃ ts, to.data = .fields ts ∧ ts[3]? = some (rawInt L) := ⟨_, by rw [← hto], by first | (simp; done) | (rcases hpl with rfl | ⟨_, _, _, _, _, _, _, rfl⟩ <;> simp)⟩
  have he₂ := Heap.get?_push_of_some (h := h₁) to he₁
  refine wpAny_setField he₂ hd hsz ?_
  have hTe : h₁.objs.size ≠ e := Nat.ne_of_gt (Heap.lt_size he₁)
  obtain ⟨ts, hts, h3⟩ := ht3
  have hd₃ := Obj.data_mapFields hd (·.setIfInBounds 1 (Value.ref h₁.objs.size))
  have he₃ := Heap.get?_update_self (Obj.mapFields (·.setIfInBounds 1 (Value.ref h₁.objs.size))) he₂ (Obj.isFreed_of_fields hd₃)
  have hT₃ := (Heap.get?_update_other (h₁.push to) (Obj.mapFields (·.setIfInBounds 1 (Value.ref h₁.objs.size))) (Ne.symm hTe)).trans (Heap.get?_push_size h₁ (Obj.isFreed_of_fields hts))
  have keep : ∀ b o, b ≠ e → h₁.get? b = some o → ((h₁.push to).update e (Obj.mapFields (·.setIfInBounds 1 (Value.ref h₁.objs.size)))).get? b = some o := fun b o hbe hb => by
    rw [Heap.get?_update_other _ _ (Ne.symm hbe)]
    exact Heap.get?_push_of_some _ hb
  have noRecord : ∀ b o, s.heap.get? b = some o → (∀ vs, o.data ≠ .fields vs) → b ≠ e := fun b o hb hnf q => by
    rw [q, he] at hb; injection hb with hb; subst hb; exact hnf vs hd
  refine h _ ⟨⟨fun b o hbo => keep b o (fun q => by rw [q, hen] at hbo; cases hbo) (kb₁ b o hbo), hen, hl.of_keeps fun b o hb hnf => ?_⟩, ?_⟩ fun b o hb hnf => ?_
  · obtain ⟨sl, hs⟩ := hs₁.2.2 b o hb
    exact ⟨_, keep b _ (noRecord b o hb hnf) hs, rfl⟩
  · exact ⟨_, _, h₁.objs.size, _, _, he₃, hx.upd, hd₃, by simp [hsz], kb₁.fresh, hTe, hT₃, hts, h3⟩
  · obtain ⟨sl, hs⟩ := hs₁.2.2 b o hb
    exact ⟨sl, keep b _ (noRecord b o hb hnf) hs⟩
/-- a mark is written -/
theorem markD {v fl : Value} {oe oT : Obj} {vs ts : Array Value} {T : Addr} (G : GrdD base l e s.heap) (he : s.heap.get? e = some oe) (hx : ExcIs C dx oe) (hd : oe.data = .fields vs) (h1 : vs[1]? = some (.ref T)) (hnT : base.get? T = none)
    (hTe : T ≠ e) (hT : s.heap.get? T = some oT) (hdT : oT.data = .fields ts) (h3 : ts[3]? = some fl)
    (h : ∀ h', GrdD base l e h' → TrcD base h' e C dx v → h'.get? e = some oe → s.heap.UpToSlots h' → Q () { s with heap := h' }) : wpAny M A (setField (.ref T) 3 v) Q E s := by
  have hsz : 3 < ts.size := (Array.getElem?_eq_some_iff.mp h3).1
  have other : ∀ b, b ≠ T → (s.heap.update T (Obj.mapFields (·.setIfInBounds 3 v))).get? b = s.heap.get? b := fun b hb => Heap.get?_update_other _ _ (Ne.symm hb)
  have noRecord : ∀ b o, s.heap.get? b = some o → (∀ vs, o.data ≠ .fields vs) → b ≠ T := fun b o hb hnf q => by
    rw [q, hT] at hb; injection hb with hb; subst hb; exact hnf ts hdT
  refine wpAny_setField hT hdT hsz (h _ ⟨fun b o hbo => (other b fun q => by rw [q, hnT] at hbo; cases hbo).trans (G.st b o hbo), G.no, G.ff.of_keeps fun b o hb hnf => ⟨o, (other b (noRecord b o hb hnf)).trans hb, rfl⟩⟩ ?_ ((other e (Ne.symm hTe)).trans he) fun b o hb hnf => ⟨o.slots, (other b (noRecord b o hb hnf)).trans hb⟩)
  exact ⟨oe, vs, T, _, _, (other e (Ne.symm hTe)).trans he, hx, hd, h1, hnT, hTe, Heap.get?_update_self _ hT (Obj.isFreed_of_fields (Obj.data_mapFields hdT _)), Obj.data_mapFields hdT _, by simp [hsz]⟩
theorem noteD (hfr : A.frames = some (env :: outer)) (hf : env.frame = some L) (hfl : FlyD base (env :: outer) e C dx s.heap)
    (hQ : ∀ h', HldD base (env :: outer) e C dx L h' → s.heap.UpToSlots h' → Q () { s with heap := h' }) : wpAny M A (noteFrame (.ref e) env) Q E s := by
  obtain ⟨G, ⟨oe, vs, T, oT, ts, he, hx, hd, h1, hnT, hTe, hT, hdT, h3⟩ | ⟨oe, vs, he, hx, hd, h1⟩⟩ := hfl
  · unfold noteFrame
    simp only [hf]
    refine wpAny_bind (wpAny_field he hd h1 ?_)
    rw [if_pos (show (Value.ref T != Value.none) = true from by simp)]
    refine wpAny_bind (wpAny_field hT hdT h3 ?_)
    rw [if_neg (show ¬ ((Value.none == rawInt L) = true) from by simp [rawInt])]
    refine wpAny_bind (markD G he hx hd h1 hnT hTe hT hdT h3 fun h₁ G₁ _ he₁ U₁ => ?_)
    exact entryD hfr G₁ he₁ hx hd (Array.getElem?_eq_some_iff.mp h1).1 (fun h' x U => hQ h' x (U₁.trans U)) hf
  · unfold noteFrame
    simp only [hf]
    refine wpAny_bind (wpAny_field he hd h1 ?_)
    rw [if_neg (by decide)]
    exact entryD hfr G he hx hd (Array.getElem?_eq_some_iff.mp h1).1 hQ hf
theorem landD (hh : HldD base l e C dx L s.heap) (hQ : ∀ h', GrdD base l e h' → TrcD base h' e C dx .none → s.heap.UpToSlots h' → Q () { s with heap := h' }) : wpAny M A (setFlight (.ref e) none) Q E s := by
  obtain ⟨G, oe, vs, T, oT, ts, he, hx, hd, h1, hnT, hTe, hT, hdT, h3⟩ := hh
  unfold setFlight
  refine wpAny_bind (wpAny_field he hd h1 ?_)
  rw [if_pos (show (Value.ref T != Value.none) = true from by simp)]
  exact markD G he hx hd h1 hnT hTe hT hdT h3 fun h' G' T' _ U => hQ h' G' T' U
theorem leaveD (hfr : A.frames = some (env :: outer)) (hf : env.frame = some L) (hfl : FlyD base (env :: outer) e C dx s.heap)
    (hQ : ∀ h', FlyD base outer e C dx h' → s.heap.UpToSlots h' → Q () { s with heap := h' }) : wpAny M A (leaving env (.ref e)) Q E s := by
  unfold leaving
  refine wpAny_bind (noteD hfr hf hfl fun h₁ x₁ U₁ => landD x₁ fun h₂ G₂ T₂ U₂ => hQ h₂ ⟨G₂.tail, .inl T₂⟩ (U₁.trans U₂))
end
end Mine
end

/-! ## S2 -/
section
open PySem PySem.W PySem.Calls PyProof.Rows PySem.Spec
namespace Mine
noncomputable def Res.run {β : Type} (r : Res β) (G : β → AH → Prop) (B : Str → AH → Prop) : Prop := match r with
  | .ok b H => G b H
  | .err x H => B x H
  | .stuck => False
theorem run_bind {β γ : Type} {m : AM β} {f : β → AM γ} {H : AH} {G : γ → AH → Prop} {B : Str → AH → Prop} : ((m >>= f) H).run G B = (m H).run (fun b H' => (f b H').run G B) B := by
  show (AM.bind m f H).run G B = _
  unfold AM.bind
  cases m H <;> rfl
theorem run_pure {β : Type} {b : β} {H : AH} {G : β → AH → Prop} {B : Str → AH → Prop} : ((Pure.pure b : AM β) H).run G B = G b H := rfl
theorem Res.run.mono {β : Type} {r : Res β} {G G' : β → AH → Prop} {B B' : Str → AH → Prop} (h : r.run G B) (hg : ∀ b H, G b H → G' b H) (hb : ∀ x H, B x H → B' x H) : r.run G' B' := by
  cases r with
  | ok b H => exact hg _ _ h
  | err x H => exact hb _ _ h
  | stuck => exact h

structure Cx where
  (w : World) (p : Program) (loose : List Str) (mean : ExcName → Option Value) (mg mb : Str → Option Value)
  (dp un : Nat) (gd : Option (List Code)) (cn : Str) (cs : Scope) (fa : Addr) (ccd : Value) (cl : List (Str × Addr)) (outer : List Env) (A₀ : Around) (base h₀ : Heap) (L : Addr) (own : List (Addr × Obj)) (cix : List (Str × Nat)) (frz : List (Nat × Obj)) (pin : List Addr)
abbrev Cx.env (c : Cx) : Env := envX c.cn c.cs c.L c.fa c.ccd c.cl
abbrev Cx.A (c : Cx) : Around := ⟨none, c.dp, some (c.env :: c.outer), c.gd, c.un⟩
abbrev Cx.K (c : Cx) : Frag := hd.heap_39 c.w.params
structure Cx.Ok (c : Cx) (lv : Nat) : Prop where
  B : Below c.A₀ c.base c.outer c.h₀
  X : c.K.In c.h₀
  T : Top c.p c.loose c.mean c.mg c.mb c.h₀
  hke : c.cs.kind = .function
  hdp : c.dp + 8 * lv < 1000
  hun : c.un + 100 * lv < 9900
  XB : c.K.In c.base
  TB : Top c.p c.loose c.mean c.mg c.mb c.base
theorem Cx.Ok.le {c : Cx} {a b : Nat} (h : c.Ok b) (l : a ≤ b) : c.Ok a := ⟨h.B, h.X, h.T, h.hke, by have := h.hdp; omega, by have := h.hun; omega, h.XB, h.TB⟩

abbrev Rho := Str → Option AV
noncomputable def LocR (as : List Addr) (ρ : Rho) (m : Str → Option Value) : Prop := ∀ x a, ρ x = some a → ∃ v, m x = some v ∧ VR as a v
theorem LocR.mono {as as' : List Addr} {ρ : Rho} {m : Str → Option Value} (h : as <+: as') (x : LocR as ρ m) : LocR as' ρ m := fun y a e => by
  obtain ⟨v, h1, h2⟩ := x y a e
  exact ⟨v, h1, h2.mono h⟩
/-- what does not move: lists under a loop; the places known at a try -/
noncomputable def FzP (c : Cx) (H : AH) (news : List (Addr × Obj)) : Prop := (∀ p ∈ c.frz, ∃ a ns, news[p.1]? = some (a, p.2) ∧ H[p.1]? = some (.frozen ns)) ∧ c.pin <+: Ads news
structure St (c : Cx) (ρ : Rho) (m : Str → Option Value) (H : AH) (news : List (Addr × Obj)) (h : Heap) : Prop where
  F : Fr c.h₀ c.L h m
  N : News c.h₀ c.L h (news ++ c.own)
  nd : (Ads (news ++ c.own)).Nodup
  R : Rel H news
  Lc : LocR (Ads news) ρ m
  Cl : ∀ x i, c.cix.lookup x = some i → ∃ a, c.cl.lookup x = some a ∧ (Ads news)[i]? = some a
  Fz : FzP c H news

noncomputable def RaisedD (base G : Heap) (l : List Env) (e C dx : Addr) (news : List (Addr × Obj)) (h : Heap) : Prop :=
  ∃ B, base.StaysIn B ∧ (∀ b o, G.get? b = some o → b ∉ l.filterMap (·.frame) → B.get? b = some o) ∧ (∀ q ∈ news, B.get? q.1 = some q.2 ∧ base.get? q.1 = none) ∧ FlyD B l e C dx h
noncomputable def WordIs (dx : Addr) (od : Obj) (x : Str) (t : Tok) : Prop := ∃ m : Str → Option Value, m "word" = some (.str x t) ∧ ∀ h : Heap, h.get? dx = some od → h.Ns dx m
/-- an exception under way: the word it bears -/
noncomputable def ErrR (c : Cx) (x : Str) (H : AH) (e : Value) (h' : Heap) : Prop :=
  ∃ ea dx od t news, e = .ref ea ∧ WordIs dx od x t ∧ Rel H news ∧ FzP c H news ∧ (Ads (news ++ c.own)).Nodup ∧ (∀ q ∈ (dx, od) :: (news ++ c.own), c.h₀.get? q.1 = none) ∧ c.h₀.UpToSlots h' ∧ (∃ mm, h'.Ns c.L mm) ∧
    RaisedD c.base c.h₀ (c.env :: c.outer) ea 33 dx ((dx, od) :: (news ++ c.own)) h'

noncomputable def GG {α β : Type} (c : Cx) (ρ : Rho) (m : Str → Option Value) (news : List (Addr × Obj)) (s : Shared) (V : List Addr → β → α → Prop) (Q : α → Shared → Prop) (b : β) (H' : AH) : Prop :=
  ∀ v h' tk news', St c ρ m H' news' h' → Ads news <+: Ads news' → V (Ads news') b v → Q v { s with heap := h', toks := tk }
noncomputable def BB (c : Cx) (s : Shared) (E : Value → Shared → Prop) (x : Str) (H' : AH) : Prop := ∀ e h' tk, ErrR c x H' e h' → E e { s with heap := h', toks := tk }
noncomputable def W {α β : Type} (c : Cx) (lv : Nat) (ρ : Rho) (as0 : List Addr) (t : Sem α) (V : List Addr → β → α → Prop) (m : AM β) : Prop :=
  ∀ H news s mloc, c.Ok lv → as0 <+: Ads news → St c ρ mloc H news s.heap → ∀ Q E, (m H).run (GG c ρ mloc news s V Q) (BB c s E) → wpAny (model PG c.w) c.A t Q E s
theorem GG.shift {α β : Type} {c : Cx} {ρ : Rho} {m : Str → Option Value} {news news₁ : List (Addr × Obj)} {s : Shared} {h₁ : Heap} {t₁ : Nat} {V : List Addr → β → α → Prop} {Q : α → Shared → Prop} {b : β} {H' : AH}
    (g : GG c ρ m news s V Q b H') (p : Ads news <+: Ads news₁) : GG c ρ m news₁ { s with heap := h₁, toks := t₁ } V Q b H' := fun v h' tk news' S p' r => g v h' tk news' S (p.trans p') r

section
variable {α β γ δ : Type} {c : Cx} {lv : Nat} {ρ : Rho} {as0 : List Addr} {ev : Env}
/-- one step of a chain -/
theorem W.step {t : Sem α} {V : List Addr → β → α → Prop} {m : AM β} {f : β → AM γ} {H : AH} {news : List (Addr × Obj)} {s : Shared} {mloc : Str → Option Value} {G : γ → AH → Prop} {E : Value → Shared → Prop} {Q : α → Shared → Prop}
    (hw : W c lv ρ as0 t V m) (ok : c.Ok lv) (hp : as0 <+: Ads news) (S : St c ρ mloc H news s.heap) (hr : ((m >>= f) H).run G (BB c s E))
    (k : ∀ b H₁ v h₁ tk news₁, St c ρ mloc H₁ news₁ h₁ → Ads news <+: Ads news₁ → V (Ads news₁) b v → (f b H₁).run G (BB c s E) → Q v { s with heap := h₁, toks := tk }) : wpAny (model PG c.w) c.A t Q E s := by
  rw [run_bind] at hr
  exact hw H news s mloc ok hp S Q E (hr.mono (fun b H₁ h v h₁ tk news₁ S₁ p v₁ => k b H₁ v h₁ tk news₁ S₁ p v₁ h) fun _ _ h => h)
theorem W.fin {t : Sem α} {V : List Addr → β → α → Prop} {m : AM β} {H : AH} {news news₁ : List (Addr × Obj)} {s : Shared} {h₁ : Heap} {tk : Nat} {mloc : Str → Option Value} {E : Value → Shared → Prop} {Q : α → Shared → Prop}
    (hw : W c lv ρ as0 t V m) (ok : c.Ok lv) (p : Ads news <+: Ads news₁) (hp : as0 <+: Ads news₁) (S : St c ρ mloc H news₁ h₁) (hr : (m H).run (GG c ρ mloc news s V Q) (BB c s E)) : wpAny (model PG c.w) c.A t Q E { s with heap := h₁, toks := tk } :=
  hw H news₁ _ mloc ok hp S Q E (hr.mono (fun _ _ g => g.shift p) fun _ _ h => h)

abbrev SimE (c : Cx) (lv : Nat) (ρ : Rho) (ev : Env) (e : PySem.Expr) (m : AM AV) : Prop := ∀ as0, W c lv ρ as0 (eval e ev) VR m
abbrev BR (as : List Addr) (b : Bool) (v : Bool) : Prop := v = b
abbrev SimB (c : Cx) (lv : Nat) (ρ : Rho) (ev : Env) (e : PySem.Expr) (m : AM Bool) : Prop := ∀ as0, W c lv ρ as0 (isTrue e ev (eval e ev)) BR m

/-! leaves -/
theorem E_int {i : Int} {k : Nat} {pos : Pos} : SimE c lv ρ ev (.Constant (.int i) k pos) (pure (.int i)) := fun as0 H news s mloc ok hp S Q E hr =>
  wpAny_Constant_int (hr _ _ _ news S List.prefix_rfl ⟨_, rfl⟩)
theorem E_str {x : Str} {k : Nat} {pos : Pos} : SimE c lv ρ ev (.Constant (.str x) k pos) (pure (.str x)) := fun as0 H news s mloc ok hp S Q E hr =>
  Calls.Constant_str (hr _ _ _ news S List.prefix_rfl ⟨_, rfl⟩)
theorem E_none {k : Nat} {pos : Pos} : SimE c lv ρ ev (.Constant .none k pos) (pure .none) := fun as0 H news s mloc ok hp S Q E hr =>
  wpAny_Constant_none (hr .none s.heap s.toks news S List.prefix_rfl rfl)
theorem E_bool {b : Bool} {k : Nat} {pos : Pos} : SimE c lv ρ ev (.Constant (.bool b) k pos) (pure (.bool b)) := fun as0 H news s mloc ok hp S Q E hr => by
  exact wpAny_pure (a := Value.bool b) (hr (.bool b) s.heap s.toks news S List.prefix_rfl rfl)
theorem E_loc {x : Str} {pos : Pos} {a : AV} (h : ρ x = some a) (hx : c.cs.names.lookup x = some .local) (hd : (x == ("__debug__" : Str)) = false := by decide) : SimE c lv ρ c.env (.Name x pos) (pure a) := fun as0 H news s mloc ok hp S Q E hr => by
  obtain ⟨v, e, r⟩ := S.Lc x a h
  exact nameX_L S.F e (hr v s.heap s.toks news S List.prefix_rfl r) ok.hke hx hd
/-- a cell's value -/
noncomputable def getCell (i : Nat) : AM AV := fun H => match H[i]? with
  | some (.cell (some a)) => .ok a H
  | _ => .stuck
theorem E_glob {x : Str} {pos : Pos} {a : AV} {v : Value} (h : nsIn c.K mainGlobals x = some (some v)) (hv : VR [] a v) (hx : c.cs.names.lookup x = some .globalImplicit) (hd : (x == ("__debug__" : Str)) = false := by decide) :
    SimE c lv ρ c.env (.Name x pos) (pure a) := fun as0 H news s mloc ok hp S Q E hr =>
  nameX_K S.F ok.X (topRead_of ok.T) h (hr v s.heap s.toks news S List.prefix_rfl (hv.mono (List.nil_prefix))) ok.hke hx hd

/-! ints -/
noncomputable def abin (op : Operator) (a b : AV) : AM AV := fun H => match op, a, b with
  | .Add, .int x, .int y => .ok (.int (x + y)) H
  | .Sub, .int x, .int y => .ok (.int (x - y)) H
  | .Mult, .int x, .int y => if -1099511627776 < x ∧ x < 1099511627776 ∧ -1099511627776 < y ∧ y < 1099511627776 then .ok (.int (x * y)) H else .stuck
  | .FloorDiv, .int x, .int y => if 0 < y ∧ y < 1073741824 then .ok (.int (x.fdiv y)) H else .stuck
  | .Mod, .int x, .int y => if 0 < y then .ok (.int (x.fmod y)) H else .stuck
  | .Add, .loc i, .loc j => match H[i]?, H[j]? with
    | some (.ints l), some (.ints r) => if l.length + r.length ≤ 1000000 then .ok (.loc H.length) (H ++ [.ints (l ++ r)]) else .stuck
    | _, _ => .stuck
  | .Mult, .loc i, .int x => match H[i]? with
    | some (.ints l) => if l.length = 1 ∧ 0 ≤ x ∧ x ≤ 1000000 then .ok (.loc H.length) (H ++ [.ints (List.replicate x.toNat (l.headD 0))]) else .stuck
    | some (.mix [.str s]) => if x = 4 ∨ x = 5 then .ok (.loc H.length) (H ++ [.mix (List.replicate x.toNat (.str s))]) else .stuck
    | _ => .stuck
  | _, _, _ => .stuck
/-- plain data -/
inductive PD where
  | i (k : Int) | s (x : Str) | l (ns : List Int)
  deriving DecidableEq
noncomputable def pdOf (H : AH) : AV → Option PD
  | .int k => some (.i k)
  | .str x => if PyData.strOk x then some (.s x) else none
  | .loc j => match H[j]? with
    | some (.ints ns) => some (.l ns)
    | _ => none
  | _ => none
noncomputable def pdsOf (H : AH) : List AV → Option (List PD)
  | [] => some []
  | a :: r => match pdOf H a, pdsOf H r with
    | some d, some ds => some (d :: ds)
    | _, _ => none
noncomputable def acmp (op : CmpOp) (a b : AV) : AM AV := fun H => match op, a, b with
  | .Eq, .int x, .int y => .ok (.bool (x == y)) H
  | .NotEq, .int x, .int y => .ok (.bool (x != y)) H
  | .Lt, .int x, .int y => .ok (.bool (decide (x < y))) H
  | .LtE, .int x, .int y => .ok (.bool (decide (x ≤ y))) H
  | .Gt, .int x, .int y => .ok (.bool (decide (y < x))) H
  | .IsNot, .none, .none => .ok (.bool false) H
  | .IsNot, .loc _, .none => .ok (.bool true) H
  | .Eq, .loc i, .loc j => match H[i]?, H[j]? with
    | some (.ints l), some (.ints r) => .ok (.bool (decide (l = r))) H
    | some (.mix l), some (.mix r) => match pdsOf H l, pdsOf H r with
      | some ds, some es => .ok (.bool (decide (ds = es))) H
      | _, _ => .stuck
    | _, _ => .stuck
  | .NotEq, .loc i, .loc j => match H[i]?, H[j]? with
    | some (.ints l), some (.ints r) => .ok (.bool (!decide (l = r))) H
    | some (.mix l), some (.mix r) => match pdsOf H l, pdsOf H r with
      | some ds, some es => .ok (.bool (!decide (ds = es))) H
      | _, _ => .stuck
    | _, _ => .stuck
  | _, _, _ => .stuck
end
end Mine
end

/-! ## S3a -/
section
open PySem PySem.W PySem.Calls PyProof.Rows
namespace Mine
section
variable {α β γ δ : Type} {c : Cx} {lv : Nat} {ρ : Rho} {as0 : List Addr} {ev : Env} {m : Str → Option Value} {H : AH} {news : List (Addr × Obj)} {h h' : Heap}
theorem Ads_push {D : Addr} {o : Obj} : Ads (news ++ [(D, o)]) = Ads news ++ [D] := by simp
theorem St.push {D : Addr} {o : Obj} {ao : AO} (S : St c ρ m H news h) (F' : Fr c.h₀ c.L h' m) (N' : News c.h₀ c.L h' ((D, o) :: (news ++ c.own))) (hn : ∀ p ∈ news ++ c.own, p.1 < D) (ho : OR (Ads news ++ [D]) ao o) :
    St c ρ m (H ++ [ao]) (news ++ [(D, o)]) h' ∧ (Ads news <+: Ads (news ++ [(D, o)])) ∧ VR (Ads (news ++ [(D, o)])) (.loc H.length) (.ref D) := by
  have hp : Ads news <+: Ads (news ++ [(D, o)]) := by rw [Ads_push]; exact List.prefix_append _ _
  have pm : ((D, o) :: (news ++ c.own)).Perm ((news ++ [(D, o)]) ++ c.own) := by
    rw [List.append_assoc]
    exact List.perm_middle.symm
  refine ⟨⟨F', fun p hp => N' p (pm.mem_iff.mpr hp), ?_, S.R.push ho, S.Lc.mono hp, fun x i e => (S.Cl x i e).imp fun _ q => ⟨q.1, idx_pre hp q.2⟩, fun p hf => ?_, S.Fz.2.trans hp⟩, hp, ⟨D, ?_, rfl⟩⟩
  · refine (pm.map (·.1)).nodup_iff.mp (List.nodup_cons.mpr ⟨fun hm => ?_, S.nd⟩)
    obtain ⟨p, hp, e⟩ := List.mem_map.mp hm
    exact absurd (hn p hp) (by rw [e]; exact Nat.lt_irrefl _)
  · obtain ⟨a, ns, e1, e2⟩ := S.Fz.1 p hf
    exact ⟨a, ns, idx_pre (List.prefix_append _ _) e1, idx_pre (List.prefix_append _ _) e2⟩
  · rw [Ads_push, ← S.R.len]
    have : news.length = (Ads news).length := by simp
    rw [this]; simp
theorem St.pushSz {o : Obj} {ao : AO} (S : St c ρ m H news h) (F' : Fr c.h₀ c.L h' m) (N' : News c.h₀ c.L h' ((h.objs.size, o) :: (news ++ c.own))) (ho : OR (Ads news ++ [h.objs.size]) ao o) :
    St c ρ m (H ++ [ao]) (news ++ [(h.objs.size, o)]) h' ∧ (Ads news <+: Ads (news ++ [(h.objs.size, o)])) ∧ VR (Ads (news ++ [(h.objs.size, o)])) (.loc H.length) (.ref h.objs.size) :=
  S.push F' N' (fun p hp => Heap.lt_size (S.N p hp).1) ho
theorem St.set {i : Nat} {a : Addr} {o o' : Obj} {ao ao₀ : AO} (S : St c ρ m H news h) (e0 : H[i]? = some ao₀) (hz : ∀ ns, ao₀ ≠ .frozen ns) (e : news[i]? = some (a, o)) (F' : Fr c.h₀ c.L h' m) (N' : News c.h₀ c.L h' ((news ++ c.own).set i (a, o'))) (ho : OR (Ads news) ao o') :
    St c ρ m (H.set i ao) (news.set i (a, o')) h' ∧ Ads news <+: Ads (news.set i (a, o')) := by
  obtain ⟨R', hm⟩ := S.R.set (H := H) e ho
  have hi : i < news.length := (List.getElem?_eq_some_iff.mp e).1
  rw [List.set_append_left _ _ hi] at N'
  refine ⟨⟨F', N', ?_, R', by rw [hm]; exact S.Lc, by rw [hm]; exact S.Cl, fun p hf => ?_, by rw [hm]; exact S.Fz.2⟩, by rw [hm]; exact List.prefix_rfl⟩
  have e2 : Ads (news.set i (a, o') ++ c.own) = Ads (news ++ c.own) := by
    simp only [Ads, List.map_append] at hm ⊢
    rw [hm]
  · rw [e2]; exact S.nd
  · obtain ⟨b, ns, e1, e3⟩ := S.Fz.1 p hf
    have hne : i ≠ p.1 := fun q => by subst q; rw [e0] at e3; exact hz ns (Option.some.inj e3)
    exact ⟨b, ns, by rw [List.getElem?_set_ne hne]; exact e1, by rw [List.getElem?_set_ne hne]; exact e3⟩
theorem St.at (S : St c ρ m H news h) {i : Nat} {ao : AO} {v : Value} (hi : H[i]? = some ao) (hv : VR (Ads news) (.loc i) v) : ∃ a o, v = .ref a ∧ (a, o) ∈ news ++ c.own ∧ news[i]? = some (a, o) ∧ OR (Ads news) ao o := by
  obtain ⟨a, e, rfl⟩ := hv
  obtain ⟨o, h1, h2, h3⟩ := S.R.get hi e
  exact ⟨a, o, rfl, List.mem_append_left _ h1, h2, h3⟩
theorem St.upd (S : St c ρ m H news h) {i : Nat} {a : Addr} {o : Obj} (o' : Obj) (e : news[i]? = some (a, o)) : Upd a o o' (news ++ c.own) ((news ++ c.own).set i (a, o')) :=
  upd_at S.nd (by rw [List.getElem?_append_left (List.getElem?_eq_some_iff.mp e).1]; exact e)
theorem listOf_is {a : Addr} {vs : List Value} {n : Nat} (N : News c.h₀ c.L h (news ++ c.own)) (hm : (a, listOf vs.toArray n) ∈ news ++ c.own) : h.IsList a vs.toArray := ⟨_, (N _ hm).1, rfl, n, rfl⟩
theorem flat_one {α : Type} (n : Nat) (x : α) : (List.replicate n [x]).flatten = List.replicate n x := by
  induction n with
  | zero => rfl
  | succ n ih => rw [List.replicate_succ, List.flatten_cons, ih, List.replicate_succ]; rfl
theorem one_of {α : Type} {l : List α} (d : α) (h : l.length = 1) : l = [l.headD d] := by
  match l, h with
  | [x], _ => rfl
theorem VRs.one {as : List Addr} {a : AV} {vs : List Value} (h : VRs as [a] vs) : ∃ v, vs = [v] ∧ VR as a v := by
  match vs, h with
  | [v], h => exact ⟨v, rfl, h.1⟩
theorem VRs_rep {as : List Addr} {a : AV} {v : Value} (h : VR as a v) : ∀ {n : Nat}, VRs as (List.replicate n a) (List.replicate n v)
  | 0 => trivial
  | n + 1 => ⟨h, VRs_rep h⟩
theorem bin_W {op : Operator} {a b : AV} {v u : Value} (ha : VR as0 a v) (hb : VR as0 b u) : W c lv ρ as0 (binaryOp op v u) VR (abin op a b) := by
  intro H news s mloc ok hp S Q E hr
  have hs := @Nat.le_of_ble_eq_true 1000000 sizeLine rfl
  unfold abin at hr
  split at hr
  · obtain ⟨t, rfl⟩ := ha; obtain ⟨t', rfl⟩ := hb
    exact PyProof.Rows.add_int (hr _ s.heap _ news S List.prefix_rfl ⟨_, rfl⟩)
  · obtain ⟨t, rfl⟩ := ha; obtain ⟨t', rfl⟩ := hb
    exact PyProof.Rows.sub_int (hr _ s.heap _ news S List.prefix_rfl ⟨_, rfl⟩)
  · obtain ⟨t, rfl⟩ := ha; obtain ⟨t', rfl⟩ := hb
    split at hr
    · exact PyProof.Rows.mul_int (hr _ s.heap _ news S List.prefix_rfl ⟨_, rfl⟩) (IntMulOk.of_left (intBits_le_iff.mpr (by omega)))
    · exact hr.elim
  · obtain ⟨t, rfl⟩ := ha; obtain ⟨t', rfl⟩ := hb
    split at hr
    · exact PyProof.Rows.floordiv_int (by omega) (hr _ s.heap _ news S List.prefix_rfl ⟨_, rfl⟩) (.inl (PyProof.noPylong_small (by omega)))
    · exact hr.elim
  · obtain ⟨t, rfl⟩ := ha; obtain ⟨t', rfl⟩ := hb
    split at hr
    · exact PyProof.Rows.mod_int (by omega) (hr _ s.heap _ news S List.prefix_rfl ⟨_, rfl⟩)
    · exact hr.elim
  · split at hr
    · rename_i l r e1 e2
      split at hr
      · obtain ⟨x, ox, rfl, m1, i1, vs, n, rfl, hi⟩ := S.at e1 (ha.mono hp)
        obtain ⟨y, oy, rfl, m2, i2, us, n', rfl, hj⟩ := S.at e2 (hb.mono hp)
        refine add_arrays_ints S.F S.N (listOf_is S.N m1) (listOf_is S.N m2) hi hj (fun h' F' N' hk => ?_) (by omega)
        obtain ⟨S', p', r'⟩ := S.pushSz (ao := .ints (l ++ r)) F' N' ⟨_, 0, rfl, hk⟩
        exact hr _ h' s.toks _ S' p' r'
      · exact hr.elim
    · exact hr.elim
  · obtain ⟨t, rfl⟩ := hb
    split at hr
    · rename_i l e1
      split at hr
      · obtain ⟨x, ox, rfl, m1, i1, vs, n, rfl, hi⟩ := S.at e1 (ha.mono hp)
        rename_i hc
        have hl := hi.length
        refine KM.mul S.F S.N (listOf_is S.N m1) hi (by omega) (by omega) (by rw [hl, hc.1]; omega) (fun D h' F' N' l1 hk _ _ _ _ _ => ?_)
        rw [one_of 0 hc.1, flat_one] at hk
        obtain ⟨S', p', r'⟩ := S.push (ao := .ints _) F' N' l1 ⟨_, 0, rfl, hk⟩
        exact hr _ h' s.toks _ S' p' r'
      · exact hr.elim
    · rename_i sx e1
      split at hr
      · rename_i hc
        obtain ⟨x, ox, rfl, m1, i1, vs, n, rfl, hi⟩ := S.at e1 (ha.mono hp)
        obtain ⟨u, rfl, t', rfl⟩ := hi.one
        refine KMa.mul S.F S.N (listOf_is S.N m1) (by omega) (by omega) (by simp only [List.length_singleton]; omega) (flat_one _ _) (fun D h' F' N' l1 => ?_)
        obtain ⟨S', p', r'⟩ := S.push (ao := .mix (List.replicate _ (.str sx))) F' N' l1 ⟨_, 0, rfl, VRs_rep (a := .str sx) (show VR _ (.str sx) _ from ⟨t', rfl⟩)⟩
        exact hr _ h' s.toks _ S' p' r'
      · exact hr.elim
    · exact hr.elim
  · exact hr.elim
end
end Mine
end

/-! ## S3b -/
section
open PySem PySem.W PySem.Calls PyProof.Rows PySem.Spec
namespace Mine
section
variable {α β γ δ : Type} {c : Cx} {lv : Nat} {ρ : Rho} {as0 : List Addr} {ev : Env} {m : Str → Option Value} {H : AH} {news : List (Addr × Obj)} {h h' : Heap}
noncomputable def PD.dat : PD → Dat
  | .i k => .int k
  | .s x => .str x
  | .l ns => .list (ns.map Dat.int)
theorem dat_ints : ∀ {ns ms : List Int}, ns.map Dat.int = ms.map Dat.int → ns = ms
  | [], [], _ => rfl
  | [], _ :: _, h => by cases h
  | _ :: _, [], h => by cases h
  | a :: r, b :: t, h => by
    simp only [List.map_cons, List.cons.injEq, Dat.int.injEq] at h
    rw [h.1, dat_ints h.2]
theorem PD.inj : ∀ {a b : PD}, a.dat = b.dat → a = b
  | .i _, .i _, h => by cases h; rfl
  | .s _, .s _, h => by cases h; rfl
  | .l _, .l _, h => by simp only [PD.dat, Dat.list.injEq] at h; rw [dat_ints h]
  | .i _, .s _, h => by cases h
  | .i _, .l _, h => by cases h
  | .s _, .i _, h => by cases h
  | .s _, .l _, h => by cases h
  | .l _, .i _, h => by cases h
  | .l _, .s _, h => by cases h
theorem Bool.decide_congr' {p q : Prop} {i : Decidable p} {j : Decidable q} (h : p ↔ q) : @decide p i = @decide q j := by
  by_cases hp : p
  · rw [decide_eq_true hp, decide_eq_true (h.mp hp)]
  · rw [decide_eq_false hp, decide_eq_false (fun z => hp (h.mpr z))]
theorem PD.injs : ∀ {a b : List PD}, a.map PD.dat = b.map PD.dat ↔ a = b
  | [], [] => by simp
  | [], _ :: _ => by simp
  | _ :: _, [] => by simp
  | a :: r, b :: t => by
    simp only [List.map_cons, List.cons.injEq, PD.injs]
    exact ⟨fun h => ⟨PD.inj h.1, h.2⟩, fun h => ⟨by rw [h.1], h.2⟩⟩
theorem datAll_ints {nn : List (Addr × Obj)} : ∀ {vs : List Value} {ns : List Int}, IntsAre vs ns → DatAll nn vs (ns.map Dat.int)
  | _, _, .nil => .nil
  | _, _, .cons k t r => .cons (.int k t) (datAll_ints r)
theorem pd_in (S : St c ρ m H news h) {a : AV} {v : Value} {d : PD} (hv : VR (Ads news) a v) (e : pdOf H a = some d) : DatIn (news ++ c.own) v d.dat ∧ kqdOk 8 d.dat = true := by
  unfold pdOf at e
  split at e
  · obtain ⟨t, rfl⟩ := hv; cases e; exact ⟨.int _ _, rfl⟩
  · obtain ⟨t, rfl⟩ := hv
    split at e
    · rename_i hk; cases e; exact ⟨.str _ _, hk⟩
    · cases e
  · split at e
    · rename_i ns e1
      cases e
      obtain ⟨x, ox, rfl, m1, i1, vs, n, rfl, hi⟩ := S.at e1 hv
      exact ⟨.list m1 (datAll_ints hi), by simp [PD.dat, kqdOk]⟩
    · cases e
  · cases e
theorem pds_in (S : St c ρ m H news h) : ∀ {l : List AV} {vs : List Value} {ds : List PD}, VRs (Ads news) l vs → pdsOf H l = some ds → DatAll (news ++ c.own) vs (ds.map PD.dat) ∧ ∀ d ∈ ds.map PD.dat, kqdOk 8 d = true
  | [], [], _, _, e => by cases e; exact ⟨.nil, fun d hd => nomatch hd⟩
  | a :: l, v :: vs, ds, hv, e => by
    unfold pdsOf at e
    split at e
    · rename_i d ds' e1 e2
      cases e
      have h1 := pd_in S hv.1 e1
      have h2 := pds_in S hv.2 e2
      refine ⟨.cons h1.1 h2.1, fun x hx => ?_⟩
      rcases List.mem_cons.mp hx with rfl | hx
      · exact h1.2
      · exact h2.2 x hx
    · cases e
theorem cmp_W {op : CmpOp} {a b : AV} {v u : Value} (ha : VR as0 a v) (hb : VR as0 b u) : W c (lv + 1) ρ as0 (compareOp op v u) VR (acmp op a b) := by
  intro H news s mloc ok hp S Q E hr
  have hu : c.A.units + 64 < cLine := by have := ok.hun; show c.un + 64 < 9900; omega
  unfold acmp at hr
  split at hr
  · obtain ⟨t, rfl⟩ := ha; obtain ⟨t', rfl⟩ := hb
    exact PyProof.Rows.eq_int (hr _ s.heap _ news S List.prefix_rfl rfl)
  · obtain ⟨t, rfl⟩ := ha; obtain ⟨t', rfl⟩ := hb
    exact PyProof.Rows.ne_int (hr _ s.heap _ news S List.prefix_rfl rfl)
  · obtain ⟨t, rfl⟩ := ha; obtain ⟨t', rfl⟩ := hb
    exact PyProof.Rows.lt_int (hr _ s.heap _ news S List.prefix_rfl rfl)
  · obtain ⟨t, rfl⟩ := ha; obtain ⟨t', rfl⟩ := hb
    exact PyProof.Rows.le_int (hr _ s.heap _ news S List.prefix_rfl rfl)
  · obtain ⟨t, rfl⟩ := ha; obtain ⟨t', rfl⟩ := hb
    exact PyProof.Rows.gt_int (hr _ s.heap _ news S List.prefix_rfl rfl)
  · cases ha; cases hb
    exact isnot_none_none (hr _ s.heap _ news S List.prefix_rfl rfl)
  · obtain ⟨t, _, rfl⟩ := ha; cases hb
    exact isnot_ref_none (hr _ s.heap _ news S List.prefix_rfl rfl)
  · split at hr
    · rename_i l r e1 e2
      obtain ⟨x, ox, rfl, m1, i1, vs, n, rfl, hi⟩ := S.at e1 (ha.mono hp)
      obtain ⟨y, oy, rfl, m2, i2, us, n', rfl, hj⟩ := S.at e2 (hb.mono hp)
      exact eq_intsK (listOf_is S.N m1) hi (listOf_is S.N m2) hj hu (hr _ s.heap _ news S List.prefix_rfl rfl)
    · rename_i l r e1 e2
      split at hr
      · rename_i ds es g1 g2
        obtain ⟨x, ox, rfl, m1, i1, vs, n, rfl, hi⟩ := S.at e1 (ha.mono hp)
        obtain ⟨y, oy, rfl, m2, i2, us, n', rfl, hj⟩ := S.at e2 (hb.mono hp)
        have h1 := pds_in S hi g1
        have h2 := pds_in S hj g2
        refine kqd_eq S.N m1 rfl rfl h1.1 (fun _ q => q) m2 rfl rfl h2.1 (fun _ q => q) h1.2 h2.2 hu ?_
        exact hr _ s.heap _ news S List.prefix_rfl (congrArg Value.bool (Bool.decide_congr' PD.injs))
      · exact hr.elim
    · exact hr.elim
  · split at hr
    · rename_i l r e1 e2
      obtain ⟨x, ox, rfl, m1, i1, vs, n, rfl, hi⟩ := S.at e1 (ha.mono hp)
      obtain ⟨y, oy, rfl, m2, i2, us, n', rfl, hj⟩ := S.at e2 (hb.mono hp)
      exact ne_intsK (listOf_is S.N m1) hi (listOf_is S.N m2) hj hu (hr _ s.heap _ news S List.prefix_rfl rfl)
    · rename_i l r e1 e2
      split at hr
      · rename_i ds es g1 g2
        obtain ⟨x, ox, rfl, m1, i1, vs, n, rfl, hi⟩ := S.at e1 (ha.mono hp)
        obtain ⟨y, oy, rfl, m2, i2, us, n', rfl, hj⟩ := S.at e2 (hb.mono hp)
        have h1 := pds_in S hi g1
        have h2 := pds_in S hj g2
        refine kqd_ne S.N m1 rfl rfl h1.1 (fun _ q => q) m2 rfl rfl h2.1 (fun _ q => q) h1.2 h2.2 hu ?_
        exact hr _ s.heap _ news S List.prefix_rfl (congrArg (fun b => Value.bool (!b)) (Bool.decide_congr' PD.injs))
      · exact hr.elim
    · exact hr.elim
  · exact hr.elim

/-! expressions -/
theorem E_bin {l r : PySem.Expr} {op : Operator} {pos : Pos} {ma mb : AM AV} (ha : SimE c lv ρ ev l ma) (hb : SimE c lv ρ ev r mb) : SimE c lv ρ ev (.BinOp l op r pos) (do let a ← ma; let b ← mb; abin op a b) := by
  intro as0 H news s mloc ok hp S Q E hr
  refine wpAny_BinOp ?_
  refine (ha as0).step ok hp S hr fun a H₁ v h₁ tk news₁ S₁ p₁ v₁ hr => ?_
  refine (hb (Ads news₁)).step (s := { s with heap := h₁, toks := tk }) ok List.prefix_rfl S₁ hr fun b H₂ u h₂ tk₂ news₂ S₂ p₂ v₂ hr => ?_
  exact (bin_W (v₁.mono p₂) v₂).fin ok (p₁.trans p₂) List.prefix_rfl S₂ hr
theorem E_cmp {l r : PySem.Expr} {op : CmpOp} {pos : Pos} {ma mb : AM AV} (ha : SimE c (lv + 1) ρ ev l ma) (hb : SimE c (lv + 1) ρ ev r mb) (h0 : behindInMarks op r = false) : SimE c (lv + 1) ρ ev (.Compare l [op] [r] pos) (do let a ← ma; let b ← mb; acmp op a b) := by
  intro as0 H news s mloc ok hp S Q E hr
  refine wpAny_Compare1 ?_ h0
  refine (ha as0).step ok hp S hr fun a H₁ v h₁ tk news₁ S₁ p₁ v₁ hr => ?_
  refine (hb (Ads news₁)).step (s := { s with heap := h₁, toks := tk }) ok List.prefix_rfl S₁ hr fun b H₂ u h₂ tk₂ news₂ S₂ p₂ v₂ hr => ?_
  exact (cmp_W (v₁.mono p₂) v₂).fin ok (p₁.trans p₂) List.prefix_rfl S₂ hr
/-- a bool's truth -/
noncomputable def abool (a : AV) : AM Bool := fun H => match a with
  | .bool b => .ok b H
  | _ => .stuck
theorem bool_W {a : AV} {v : Value} (ha : VR as0 a v) : W c lv ρ as0 (truthy v) BR (abool a) := by
  intro H news s mloc ok hp S Q E hr
  cases a <;> try exact hr.elim
  cases ha
  exact wpAny_truthy_bool (hr _ s.heap _ news S List.prefix_rfl rfl)
theorem B_cmp {l r : PySem.Expr} {op : CmpOp} {pos : Pos} {ma mb : AM AV} (ha : SimE c (lv + 1) ρ ev l ma) (hb : SimE c (lv + 1) ρ ev r mb) (h0 : behindInMarks op r = false) : SimB c (lv + 1) ρ ev (.Compare l [op] [r] pos) (do let a ← ma; let b ← mb; let x ← acmp op a b; abool x) := by
  intro as0 H news s mloc ok hp S Q E hr
  refine wpAny_isTrue_Compare1 ?_ h0
  refine (ha as0).step ok hp S hr fun a H₁ v h₁ tk news₁ S₁ p₁ v₁ hr => ?_
  refine (hb (Ads news₁)).step (s := { s with heap := h₁, toks := tk }) ok List.prefix_rfl S₁ hr fun b H₂ u h₂ tk₂ news₂ S₂ p₂ v₂ hr => ?_
  refine (cmp_W (v₁.mono p₂) v₂).step (s := { s with heap := h₂, toks := tk₂ }) ok List.prefix_rfl S₂ hr fun b H₃ u h₃ tk₃ news₃ S₃ p₃ v₃ hr => ?_
  exact (bool_W v₃).fin ok ((p₁.trans p₂).trans p₃) List.prefix_rfl S₃ hr
theorem B_not {x : PySem.Expr} {pos : Pos} {mx : AM Bool} (hx : SimB c lv ρ ev x mx) : SimB c lv ρ ev (.UnaryOp .Not x pos) (do let b ← mx; pure (!b)) := by
  intro as0 H news s mloc ok hp S Q E hr
  refine isTrue_not ?_
  refine (hx as0).step ok hp S hr fun a H₁ v h₁ tk news₁ S₁ p₁ v₁ hr => ?_
  cases v₁
  exact hr _ h₁ tk news₁ S₁ p₁ rfl
theorem B_and {x y : PySem.Expr} {pos : Pos} {mx my : AM Bool} (hx : SimB c lv ρ ev x mx) (hy : SimB c lv ρ ev y my) : SimB c lv ρ ev (.BoolOp .And [x, y] pos) (do let b ← mx; if b then my else pure false) := by
  intro as0 H news s mloc ok hp S Q E hr
  refine isTrue_and ?_
  refine (hx as0).step ok hp S hr fun a H₁ v h₁ tk news₁ S₁ p₁ v₁ hr => ?_
  cases v₁
  cases a
  · exact hr _ h₁ tk news₁ S₁ p₁ rfl
  · rw [if_pos rfl] at hr ⊢
    refine isTrue_and ?_
    refine ((hy (Ads news₁))).fin ok p₁ List.prefix_rfl S₁ (hr.mono (fun b H₂ g v h₂ tk₂ news₂ S₂ p₂ v₂ => ?_) fun _ _ h => h)
    cases v₂
    cases b
    · exact g _ h₂ tk₂ news₂ S₂ p₂ rfl
    · exact isTrue_and_nil (g _ h₂ tk₂ news₂ S₂ p₂ rfl)
theorem B_or {x y : PySem.Expr} {pos : Pos} {mx my : AM Bool} (hx : SimB c lv ρ ev x mx) (hy : SimB c lv ρ ev y my) : SimB c lv ρ ev (.BoolOp .Or [x, y] pos) (do let b ← mx; if b then pure true else my) := by
  intro as0 H news s mloc ok hp S Q E hr
  refine isTrue_or ?_
  refine (hx as0).step ok hp S hr fun a H₁ v h₁ tk news₁ S₁ p₁ v₁ hr => ?_
  cases v₁
  cases a
  · simp only [Bool.false_eq_true, if_false] at hr ⊢
    refine isTrue_or ?_
    refine ((hy (Ads news₁))).fin ok p₁ List.prefix_rfl S₁ (hr.mono (fun b H₂ g v h₂ tk₂ news₂ S₂ p₂ v₂ => ?_) fun _ _ h => h)
    cases v₂
    cases b
    · exact isTrue_or_nil (g _ h₂ tk₂ news₂ S₂ p₂ rfl)
    · exact g _ h₂ tk₂ news₂ S₂ p₂ rfl
  · exact hr _ h₁ tk news₁ S₁ p₁ rfl
theorem E_if {t b o : PySem.Expr} {pos : Pos} {mt : AM Bool} {mb mo : AM AV} (ht : SimB c lv ρ ev t mt) (hb : SimE c lv ρ ev b mb) (ho : SimE c lv ρ ev o mo) : SimE c lv ρ ev (.IfExp t b o pos) (do let x ← mt; if x then mb else mo) := by
  intro as0 H news s mloc ok hp S Q E hr
  refine IfExp_ ?_
  refine (ht as0).step ok hp S hr fun a H₁ v h₁ tk news₁ S₁ p₁ v₁ hr => ?_
  cases v₁
  cases a
  · exact (ho (Ads news₁)).fin ok p₁ List.prefix_rfl S₁ hr
  · exact (hb (Ads news₁)).fin ok p₁ List.prefix_rfl S₁ hr
end
end Mine
end

/-! ## S4 -/
section
open PySem PySem.W PySem.Calls PyProof.Rows
namespace Mine
section
variable {α β γ δ : Type} {c : Cx} {lv : Nat} {ρ : Rho} {as0 : List Addr} {ev : Env} {m : Str → Option Value} {H : AH} {news : List (Addr × Obj)} {h h' : Heap}
/-! fields -/
noncomputable def keyIs (x y : Str) : Bool := x == y
noncomputable def getF (C : Addr) (x : Str) (o : AV) : AM AV := fun H => match o with
  | .loc i => match H[i]? with
    | some (.inst C' d) => if C' = C then match H[d]? with
      | some (.dict fs) => match fs.lookup x with
        | some a => .ok a H
        | none => .stuck
      | _ => .stuck
      else .stuck
    | _ => .stuck
  | _ => .stuck
theorem FR.get {as : List Addr} {x : Str} {a : AV} {fs : List (Str × AV)} {es : List DictEntry} (hf : FR as fs es) (h : fs.lookup x = some a) : ∃ v, getL x es = some (some v) ∧ VR as a v := by
  induction hf with
  | nil => cases h
  | @cons y b fs e es hk hv hr ih =>
    obtain ⟨t, hk⟩ := hk
    rw [List.lookup_cons] at h
    by_cases hxy : x = y
    · subst hxy
      simp only [beq_self_eq_true] at h
      cases h
      refine ⟨e.val, ?_, hv⟩
      unfold getL
      rw [List.find?_cons_of_pos (by rw [hk]; simp [Value.isStr])]
    · have hne : (x == y) = false := by simp [hxy]
      rw [hne] at h
      obtain ⟨v, h1, h2⟩ := ih h
      refine ⟨v, ?_, h2⟩
      unfold getL at h1 ⊢
      have hn : e.key.isStr x = false := by rw [hk]; simp [Value.isStr]; exact fun q => hxy q.symm
      rw [List.find?_cons_of_neg (by rw [hn]; simp)]
      cases hf : es.find? (·.key.isStr x) with
      | some e' => rw [hf] at h1; exact h1
      | none =>
        rw [hf] at h1
        revert h1
        dsimp only
        split <;> intro h1 <;> cases h1
theorem handedOk {as : List Addr} {a : AV} {v : Value} (h : VR as a v) : handedIn v = true := by
  cases a
  · obtain ⟨t, rfl⟩ := h; rfl
  · cases h; rfl
  · cases h; rfl
  · obtain ⟨t, rfl⟩ := h; rfl
  · obtain ⟨t, _, rfl⟩ := h; rfl
structure AttrOk (K : Frag) (C : Addr) (x : Str) : Prop where
  g : plainGet K C x = true
  d : hasDictIn K C = true
  f : ∃ attr, findIn K (.ref C) x = some attr ∧ noGet K attr = true
theorem St.inst (S : St c ρ m H news h) {i d : Nat} {C : Addr} {fs : List (Str × AV)} {v : Value} (hi : H[i]? = some (.inst C d)) (hd : H[d]? = some (.dict fs)) (hv : VR (Ads news) (.loc i) v) :
    ∃ x dx es, v = .ref x ∧ PySem.W.InstAt h x (instObj C dx) C (some (dictOf es fs.length)) ∧ FR (Ads news) fs es ∧ news[d]? = some (dx, dictOf es fs.length) := by
  obtain ⟨x, o, rfl, m1, e1, dx, e2, rfl⟩ := S.at hi hv
  obtain ⟨o', m2, e3, es, rfl, hf⟩ := S.R.get hd e2
  exact ⟨x, dx, es, rfl, .of_news S.N m1 (List.mem_append_left _ m2), hf, e3⟩
theorem getF_W {C : Addr} {x : Str} {a : AV} {v : Value} {b : Bool} (ho : AttrOk c.K C x) (ha : VR as0 a v) : W c lv ρ as0 (getAttr v x b) VR (getF C x a) := by
  intro H news s mloc ok hp S Q E hr
  cases a <;> try exact hr.elim
  rename_i i
  unfold getF at hr
  dsimp only at hr
  split at hr
  · rename_i C' d e1
    split at hr
    · rename_i hc
      subst hc
      split at hr
      · rename_i fs e2
        split at hr
        · rename_i a e3
          obtain ⟨y, dx, es, rfl, I, hf, _⟩ := S.inst e1 e2 (ha.mono hp)
          obtain ⟨v, hl, hv⟩ := hf.get e3
          obtain ⟨attr, hf1, hf2⟩ := ho.f
          exact get_own S.F ok.X I ho.g ho.d hf1 hf2 hl (handedOk hv) (hr v s.heap _ news S List.prefix_rfl hv)
        · exact hr.elim
      · exact hr.elim
    · exact hr.elim
  · exact hr.elim
theorem E_attr {e : PySem.Expr} {x : Str} {pos : Pos} {me : AM AV} (C : Addr) (he : SimE c lv ρ ev e me) (ho : AttrOk c.K C x)
    (hq : eval (.Attribute e x pos) ev = (do let o ← eval e ev; standAt (Pos.atName pos); let r ← holding [o] (getAttr o x true); letTemporaryGo e o r; pure r) := by rfl) : SimE c lv ρ ev (.Attribute e x pos) (do let o ← me; getF C x o) := by
  intro as0 H news s mloc ok hp S Q E hr
  refine Attribute_any_ ?_ hq
  refine (he as0).step ok hp S hr fun a H₁ v h₁ tk news₁ S₁ p₁ v₁ hr => ?_
  exact (getF_W ho v₁).fin ok p₁ List.prefix_rfl S₁ hr
theorem E_attrN {n x : Str} {np pos : Pos} {me : AM AV} (C : Addr) (he : SimE c lv ρ ev (.Name n np) me) (ho : AttrOk c.K C x) : SimE c lv ρ ev (.Attribute (.Name n np) x pos) (do let o ← me; getF C x o) := by
  intro as0 H news s mloc ok hp S Q E hr
  refine Attribute_name ?_
  refine (he as0).step ok hp S hr fun a H₁ v h₁ tk news₁ S₁ p₁ v₁ hr => ?_
  exact (getF_W ho v₁).fin ok p₁ List.prefix_rfl S₁ hr

/-! a field stored -/
noncomputable def putA (x : Str) (a : AV) : List (Str × AV) → List (Str × AV)
  | [] => [(x, a)]
  | (y, b) :: r => if y = x then (y, a) :: r else (y, b) :: putA x a r
noncomputable def setF (C : Addr) (x : Str) (o a : AV) : AM Unit := fun H => match o with
  | .loc i => match H[i]? with
    | some (.inst C' d) => if C' = C then match H[d]? with
      | some (.dict fs) => if fs.length ≤ 100 then .ok () (H.set d (.dict (putA x a fs))) else .stuck
      | _ => .stuck
      else .stuck
    | _ => .stuck
  | _ => .stuck
theorem FR.put {as : List Addr} {x : Str} {a : AV} {v : Value} {hs : Int} {t : Tok} (hv : VR as a v) {fs : List (Str × AV)} {es : List DictEntry} (h : FR as fs es) : FR as (putA x a fs) (putL x hs (.str x t) v es) := by
  induction h with
  | nil => exact .cons ⟨t, rfl⟩ hv .nil
  | @cons y b fs e es hk hb hr ih =>
    obtain ⟨u, hk⟩ := hk
    unfold putA putL
    by_cases hxy : y = x
    · have h1 : e.key.isStr x = true := by rw [hk]; simp [Value.isStr, hxy]
      rw [if_pos hxy, if_pos h1]
      exact .cons ⟨u, hk⟩ hv hr
    · have h1 : ¬ e.key.isStr x = true := by rw [hk]; simp [Value.isStr, hxy]
      rw [if_neg hxy, if_neg h1]
      exact .cons ⟨u, hk⟩ hb ih
theorem FR.len {as : List Addr} {fs : List (Str × AV)} {es : List DictEntry} (h : FR as fs es) : es.length = fs.length := by
  induction h with
  | nil => rfl
  | cons _ _ _ ih => rw [List.length_cons, List.length_cons, ih]
theorem FR.any {as : List Addr} {x : Str} {fs : List (Str × AV)} {es : List DictEntry} (h : FR as fs es) : es.any (·.key.isStr x) = fs.any (fun p => p.1 == x) := by
  induction h with
  | nil => rfl
  | cons hk _ _ ih =>
    obtain ⟨u, hk⟩ := hk
    rw [List.any_cons, List.any_cons, ih, hk]; rfl
theorem putA_len {x : Str} {a : AV} : ∀ {fs : List (Str × AV)}, (putA x a fs).length = if fs.any (fun p => p.1 == x) then fs.length else fs.length + 1
  | [] => rfl
  | (y, b) :: fs => by
    unfold putA
    by_cases hxy : y = x
    · simp [hxy]
    · rw [if_neg hxy, List.any_cons]
      have : (y == x) = false := by simp [hxy]
      simp only [this, Bool.false_or, List.length_cons, putA_len]
      split <;> rfl
theorem FR.num {as : List Addr} {x : Str} {a : AV} {fs : List (Str × AV)} {es : List DictEntry} (h : FR as fs es) : putN x es fs.length = (putA x a fs).length := by
  unfold putN
  rw [h.any, putA_len]
theorem getL_isSome {as : List Addr} {x : Str} : ∀ {fs : List (Str × AV)} {es : List DictEntry}, FR as fs es → (getL x es).isSome = true := by
  intro fs es h
  have hk : es.any (·.refKey) = false := by
    induction es generalizing fs with
    | nil => rfl
    | cons e r ih =>
      cases h with
      | cons hk _ hr =>
        obtain ⟨u, hk⟩ := hk
        rw [List.any_cons, ih hr]
        cases e with | mk a b c => cases hk; rfl
  unfold getL
  split
  · rfl
  · rw [hk]; rfl
structure SetOk (K : Frag) (C : Addr) (x : Str) : Prop where
  s : findIn K (.ref C) "__setattr__" = some (some (.builtin "object.__setattr__"))
  p : plainOver K C = true
  t : takerIn K C x = some none
  d : hasDictIn K C = true
theorem setF_W {C : Addr} {x : Str} {a b : AV} {v u : Value} (ho : SetOk c.K C x) (ha : VR as0 a v) (hb : VR as0 b u) : W c lv ρ as0 (setAttr v x u) (fun _ _ _ => True) (setF C x a b) := by
  intro H news s mloc ok hp S Q E hr
  cases a <;> try exact hr.elim
  rename_i i
  unfold setF at hr
  dsimp only at hr
  split at hr
  · rename_i C' d e1
    split at hr
    · rename_i hc
      subst hc
      split at hr
      · rename_i fs e2
        split at hr
        · rename_i hz
          obtain ⟨y, dx, es, rfl, I, hf, e3⟩ := S.inst e1 e2 (ha.mono hp)
          have hf' := FR.put (x := x) (hs := PyData.keyHash c.w.params x) (t := s.toks + 1) (hb.mono hp) hf
          refine set_dict (dx := dx) S.F ok.X S.N I rfl ho.s ho.p ho.t ho.d (getL_isSome hf) rfl (S.upd _ e3) ?_ fun h' F' N' => ?_
          · rw [hf'.len, putA_len]; split <;> omega
          · rw [hf.num (a := b)] at N'
            obtain ⟨S', p'⟩ := S.set (ao := .dict (putA x b fs)) e2 (by intro _ h; cases h) e3 F' N' ⟨_, rfl, hf'⟩
            exact hr () h' _ _ S' p' trivial
        · exact hr.elim
      · exact hr.elim
    · exact hr.elim
  · exact hr.elim
end
end Mine
end

/-! ## S5 -/
section
open PySem PySem.W PySem.Calls PyProof.Rows
namespace Mine
section
variable {α β γ δ : Type} {c : Cx} {lv : Nat} {ρ : Rho} {as0 : List Addr} {ev : Env} {m : Str → Option Value} {H : AH} {news : List (Addr × Obj)} {h h' : Heap}
/-! items -/
noncomputable def getI (o k : AV) : AM AV := fun H => match o, k with
  | .loc i, .int k => match H[i]? with
    | some (.ints ns) => if 0 ≤ k ∧ k < ns.length ∧ ns.length ≤ 1000000 then .ok (.int (ns.getD k.toNat 0)) H else .stuck
    | some (.mix l) => if 0 ≤ k ∧ k < 1000000 then match l[k.toNat]? with
      | some a => .ok a H
      | none => .stuck
      else .stuck
    | _ => .stuck
  | _, _ => .stuck
theorem VRs.get {as : List Addr} : ∀ {l : List AV} {vs : List Value} {j : Nat} {a : AV}, VRs as l vs → l[j]? = some a → ∃ v, vs[j]? = some v ∧ VR as a v
  | _ :: _, _ :: _, 0, _, h, e => by
    simp only [List.getElem?_cons_zero, Option.some.injEq] at e
    subst e
    exact ⟨_, rfl, h.1⟩
  | _ :: _, _ :: _, j + 1, _, h, e => by
    obtain ⟨w, h1, h2⟩ := VRs.get h.2 (show _ = some _ by simpa using e)
    exact ⟨w, by simpa using h1, h2⟩
  | [], _, _, _, _, e => by simp at e
theorem VRs.len {as : List Addr} : ∀ {l : List AV} {vs : List Value}, VRs as l vs → vs.length = l.length
  | [], [], _ => rfl
  | _ :: _, _ :: _, h => by simp [VRs.len h.2]
theorem VRs.set {as : List Addr} {a : AV} {v : Value} (hv : VR as a v) : ∀ {l : List AV} {vs : List Value} {j : Nat}, VRs as l vs → VRs as (l.set j a) (vs.set j v)
  | [], [], _, _ => trivial
  | _ :: _, _ :: _, 0, h => ⟨hv, h.2⟩
  | _ :: _, _ :: _, j + 1, h => ⟨h.1, VRs.set hv h.2⟩
theorem VRs.append {as : List Addr} {a : AV} {v : Value} (hv : VR as a v) : ∀ {l : List AV} {vs : List Value}, VRs as l vs → VRs as (l ++ [a]) (vs ++ [v])
  | [], [], _ => ⟨hv, trivial⟩
  | _ :: _, _ :: _, h => ⟨h.1, VRs.append hv h.2⟩
theorem getI_W {o k : AV} {v u : Value} {value slice : PySem.Expr} (ha : VR as0 o v) (hb : VR as0 k u)
    (hs : ∀ (l : Addr) (k : Int) (u : Tok), subscripted slice false (.ref l) (.int k u) = operate [.ref l, .int k u] (getItem (.ref l) (.int k u))) : W c lv ρ as0 (subscriptTail value slice v u) VR (getI o k) := by
  intro H news s mloc ok hp S Q E hr
  unfold getI at hr
  split at hr
  · obtain ⟨t, rfl⟩ := hb
    split at hr
    · rename_i ns e1
      split at hr
      · rename_i hc
        obtain ⟨x, ox, rfl, m1, i1, vs, n, rfl, hi⟩ := S.at e1 (ha.mono hp)
        exact item_anyK (listOf_is S.N m1) hi hc.1 hc.2.1 (by omega) (fun t => hr _ s.heap s.toks news S List.prefix_rfl ⟨_, rfl⟩) (hs _ _ _)
      · exact hr.elim
    · rename_i l e1
      split at hr
      · rename_i hc
        split at hr
        · rename_i a e2
          obtain ⟨x, ox, rfl, m1, i1, vs, n, rfl, hl⟩ := S.at e1 (ha.mono hp)
          obtain ⟨w, hw, hv⟩ := hl.get e2
          exact item_litK (listOf_is S.N m1) hc.1 (by omega) hw (hr _ s.heap s.toks news S List.prefix_rfl hv) (hs _ _ _)
        · exact hr.elim
      · exact hr.elim
    · exact hr.elim
  · exact hr.elim
theorem E_sub {e i : PySem.Expr} {pos : Pos} {me mi : AM AV} (he : SimE c lv ρ ev e me) (hi : SimE c lv ρ ev i mi)
    (hs : ∀ (l : Addr) (k : Int) (u : Tok), subscripted i false (.ref l) (.int k u) = operate [.ref l, .int k u] (getItem (.ref l) (.int k u)) := by intros; with_unfolding_all rfl) :
    SimE c lv ρ ev (.Subscript e i pos) (do let o ← me; let k ← mi; getI o k) := by
  intro as0 H news s mloc ok hp S Q E hr
  refine Subscript_ ?_
  refine (he as0).step ok hp S hr fun a H₁ v h₁ tk news₁ S₁ p₁ v₁ hr => ?_
  refine (hi (Ads news₁)).step (s := { s with heap := h₁, toks := tk }) ok List.prefix_rfl S₁ hr fun b H₂ u h₂ tk₂ news₂ S₂ p₂ v₂ hr => ?_
  exact (getI_W (v₁.mono p₂) v₂ hs).fin ok (p₁.trans p₂) List.prefix_rfl S₂ hr
/-! slices -/
noncomputable def aslice (lo hi : Option Int) (ns : List Int) : List Int := match lo, hi with
  | none, none => ns
  | some x, none => ns.drop x.toNat
  | none, some y => ns.take y.toNat
  | some x, some y => (ns.take y.toNat).drop x.toNat
noncomputable def partOk : AV → Option (Option Int)
  | .none => some none
  | .int k => if 0 ≤ k then some (some k) else none
  | _ => none
noncomputable def getS (o lo hi : AV) : AM AV := fun H => match o, partOk lo, partOk hi with
  | .loc i, some a, some b => match H[i]? with
    | some (.ints ns) => if ns.length ≤ 1000000 then .ok (.loc H.length) (H ++ [.ints (aslice a b ns)]) else .stuck
    | some (.frozen ns) => if ns.length ≤ 1000000 then .ok (.loc H.length) (H ++ [.ints (aslice a b ns)]) else .stuck
    | _ => .stuck
  | _, _, _ => .stuck
theorem part_is {a : AV} {v : Value} {as : List Addr} {p : Option Int} (h : VR as a v) (e : partOk a = some p) : IsPart v p := by
  cases a <;> simp only [partOk] at e <;> try cases e
  · obtain ⟨t, rfl⟩ := h
    split at e <;> cases e
    exact .int _ _
  · cases h; exact .none
theorem part_nn {a : AV} {x : Int} (e : partOk a = some (some x)) : 0 ≤ x := by
  cases a <;> simp only [partOk] at e <;> try cases e
  split at e <;> cases e
  assumption
theorem slice_is {vs : List Value} {ns : List Int} {p q : Option Int} (hi : IntsAre vs ns) (hp : ∀ x, p = some x → 0 ≤ x) (hq : ∀ x, q = some x → 0 ≤ x) : IntsAre (slicePick vs.toArray p q none).toList (aslice p q ns) := by
  cases p with
  | none => cases q with
    | none => exact kmk_all hi
    | some y => exact kmk_upto hi (hq y rfl)
  | some x => cases q with
    | none => exact kmk_from hi (hp x rfl)
    | some y =>
      have := kmk_run hi (hp x rfl) (hq y rfl)
      have e : (ns.drop x.toNat).take (min y.toNat ns.length - x.toNat) = (ns.take y.toNat).drop x.toNat := by
        rw [List.drop_take]
        by_cases hl : y.toNat ≤ ns.length
        · rw [Nat.min_eq_left hl]
        · rw [Nat.min_eq_right (by omega), List.take_of_length_le (by simp), List.take_of_length_le (by simp; omega)]
      rw [e] at this
      exact this
theorem sub_slice {prog : Program} {w : World} {A : Around} {E : Value → Shared → Prop} {s : Shared} {env : Env} {value : PySem.Expr} {lower upper : Option PySem.Expr} {p pos : Pos} {Q : Value → Shared → Prop}
    (h : wpAny (model prog w) A (eval value env) (fun o s₁ => wpAny (model prog w) A (evalPart lower env) (fun vl s₂ => wpAny (model prog w) A (evalPart upper env) (fun vu s₃ =>
      ∃ l items lo hi, o = .ref l ∧ s₃.heap.IsList l items ∧ items.size ≤ sizeLine ∧ IsPart vl lo ∧ IsPart vu hi ∧
        Q (.ref (s₃.heap.objs.size + 1)) { s₃ with heap := (s₃.heap.push { cls := .type "slice", data := .fields #[vl, vu, .none] }).push { cls := .type "list", data := .seq (slicePick items lo hi none) } }) E s₂) E s₁) E s) :
    wpAny (model prog w) A (eval (.Subscript value (.Slice lower upper none p) pos) env) Q E s := by
  refine Subscript_ (wpAny_mono h (fun o s₁ h₁ => wpAny_Slice (wpAny_mono h₁ (fun vl s₂ h₂ => wpAny_mono h₂ (fun vu s₃ h₃ => ?_) fun _ _ e => e) fun _ _ e => e)) fun _ _ e => e)
  obtain ⟨l, items, lo, hi, rfl, hl, hsz, pl, pu, hQ⟩ := h₃
  rw [evalPart_none]
  refine wpAny_pure ?_
  refine kba_turn (value' := PySem.Expr.Name (PySem.Str.ofString "_") ⟨0, 0, 0, 0⟩) (fun _ => rfl) (subscriptTail_ops (Heap.IsList.typeIs (s := { s₃ with heap := s₃.heap.push { cls := .type "slice", data := .fields #[vl, vu, .none] } }) (hl.push _)) list_getitem_lookup (wpAny_getItem_list_slice (hl.push _) (Heap.IsSliceOf.new ..) pl pu .none (by simp) ?_ hsz) (by with_unfolding_all rfl) (fun _ => rfl))
  rw [Heap.size_push]
  exact hQ
theorem E_slice {e : PySem.Expr} {lo hi : Option PySem.Expr} {p pos : Pos} {me ml mh : AM AV} (he : SimE c lv ρ ev e me) (hl : ∀ as0, W c lv ρ as0 (evalPart lo ev) VR ml) (hh : ∀ as0, W c lv ρ as0 (evalPart hi ev) VR mh) :
    SimE c lv ρ ev (.Subscript e (.Slice lo hi none p) pos) (do let o ← me; let a ← ml; let b ← mh; getS o a b) := by
  intro as0 H news s mloc ok hp S Q E hr
  refine sub_slice ?_
  refine (he as0).step ok hp S hr fun a H₁ v h₁ tk news₁ S₁ p₁ v₁ hr => ?_
  refine (hl (Ads news₁)).step (s := { s with heap := h₁, toks := tk }) ok List.prefix_rfl S₁ hr fun b H₂ u h₂ tk₂ news₂ S₂ p₂ v₂ hr => ?_
  refine (hh (Ads news₂)).step (s := { s with heap := h₂, toks := tk₂ }) ok List.prefix_rfl S₂ hr fun d H₃ t h₃ tk₃ news₃ S₃ p₃ v₃ hr => ?_
  unfold getS at hr
  cases a <;> try exact hr.elim
  rename_i i
  cases e1 : partOk b with
  | none => rw [e1] at hr; exact hr.elim
  | some a =>
  cases e2 : partOk d with
  | none => rw [e1, e2] at hr; exact hr.elim
  | some b =>
    rw [e1, e2] at hr
    dsimp only at hr
    split at hr
    · rename_i ns e3
      split at hr
      · obtain ⟨x, ox, rfl, m1, i1, vs, n, rfl, hi⟩ := S₃.at e3 (v₁.mono (p₂.trans p₃))
        have hz : (1000000 : Nat) ≤ sizeLine := Nat.le_of_ble_eq_true rfl
        refine ⟨x, _, a, b, rfl, listOf_is S₃.N m1, by rw [List.size_toArray, hi.length]; omega, part_is (v₂.mono p₃) e1, part_is v₃ e2, ?_⟩
        have hk := slice_is (p := a) (q := b) hi (fun x hx => part_nn (hx ▸ e1)) (fun x hx => part_nn (hx ▸ e2))
        have F1 := S₃.F.push { cls := .type "slice", data := .fields #[u, t, .none] }
        have N1 : News c.h₀ c.L (h₃.push { cls := .type "slice", data := .fields #[u, t, .none] }) (news₃ ++ c.own) := fun q hq => News.push S₃.F S₃.N _ rfl q (.tail _ hq)
        have F2 := F1.push { cls := .type "list", data := .seq (slicePick vs.toArray a b none) }
        have N2 := News.push F1 N1 { cls := .type "list", data := .seq (slicePick vs.toArray a b none) } rfl
        have hsz : (h₃.push { cls := .type "slice", data := .fields #[u, t, .none] }).objs.size = h₃.objs.size + 1 := by simp [Heap.push]
        rw [hsz] at N2
        obtain ⟨S', p', r'⟩ := S₃.push (ao := .ints (aslice a b ns)) F2 N2 (fun q hq => Nat.lt_succ_of_lt (Heap.lt_size (S₃.N q hq).1)) ⟨(slicePick vs.toArray a b none).toList, 0, by simp, hk⟩
        exact hr _ _ tk₃ _ S' (((p₁.trans p₂).trans p₃).trans p') r'
      · exact hr.elim
    · rename_i ns e3
      split at hr
      · obtain ⟨x, ox, rfl, m1, i1, hcl, vs, n, hdt, hi⟩ := S₃.at e3 (v₁.mono (p₂.trans p₃))
        have hz : (1000000 : Nat) ≤ sizeLine := Nat.le_of_ble_eq_true rfl
        refine ⟨x, _, a, b, rfl, ⟨ox, (S₃.N _ m1).1, hcl, n, hdt⟩, by rw [List.size_toArray, hi.length]; omega, part_is (v₂.mono p₃) e1, part_is v₃ e2, ?_⟩
        have hk := slice_is (p := a) (q := b) hi (fun x hx => part_nn (hx ▸ e1)) (fun x hx => part_nn (hx ▸ e2))
        have F1 := S₃.F.push { cls := .type "slice", data := .fields #[u, t, .none] }
        have N1 : News c.h₀ c.L (h₃.push { cls := .type "slice", data := .fields #[u, t, .none] }) (news₃ ++ c.own) := fun q hq => News.push S₃.F S₃.N _ rfl q (.tail _ hq)
        have F2 := F1.push { cls := .type "list", data := .seq (slicePick vs.toArray a b none) }
        have N2 := News.push F1 N1 { cls := .type "list", data := .seq (slicePick vs.toArray a b none) } rfl
        have hsz : (h₃.push { cls := .type "slice", data := .fields #[u, t, .none] }).objs.size = h₃.objs.size + 1 := by simp [Heap.push]
        rw [hsz] at N2
        obtain ⟨S', p', r'⟩ := S₃.push (ao := .ints (aslice a b ns)) F2 N2 (fun q hq => Nat.lt_succ_of_lt (Heap.lt_size (S₃.N q hq).1)) ⟨(slicePick vs.toArray a b none).toList, 0, by simp, hk⟩
        exact hr _ _ tk₃ _ S' (((p₁.trans p₂).trans p₃).trans p') r'
      · exact hr.elim
    · exact hr.elim
theorem P_none : ∀ as0, W c lv ρ as0 (evalPart none ev) VR (pure .none) := fun as0 H news s mloc ok hp S Q E hr =>
  wpAny_pure (a := Value.none) (hr _ s.heap s.toks news S List.prefix_rfl rfl)
theorem P_some {e : PySem.Expr} {me : AM AV} (he : SimE c lv ρ ev e me) : ∀ as0, W c lv ρ as0 (evalPart (some e) ev) VR me := he
/-! lists of arguments -/
abbrev SimL (c : Cx) (lv : Nat) (ρ : Rho) (ev : Env) (es : List PySem.Expr) (ml : AM (List AV)) : Prop := ∀ as0 pos, W c lv ρ as0 (spliced (backTo pos (starEach es ev))) VRs ml
theorem L_nil : SimL c lv ρ ev [] (pure []) := fun as0 pos H news s mloc ok hp S Q E hr =>
  spliced_none (hr [] s.heap s.toks news S List.prefix_rfl trivial)
theorem L_cons {e : PySem.Expr} {es : List PySem.Expr} {me : AM AV} {ml : AM (List AV)} (he : SimE c lv ρ ev e me) (hl : SimL c lv ρ ev es ml) (hs : starEach (e :: es) ev = (false, eval e ev) :: starEach es ev := by rfl) :
    SimL c lv ρ ev (e :: es) (do let a ← me; let l ← ml; pure (a :: l)) := by
  intro as0 pos H news s mloc ok hp S Q E hr
  refine spliced_more ?_ hs
  refine (he as0).step ok hp S hr fun a H₁ v h₁ tk news₁ S₁ p₁ v₁ hr => ?_
  refine (hl (Ads news₁) pos).step (s := { s with heap := h₁, toks := tk }) ok List.prefix_rfl S₁ hr fun b H₂ u h₂ tk₂ news₂ S₂ p₂ v₂ hr => ?_
  exact hr (v :: u) h₂ tk₂ news₂ S₂ (p₁.trans p₂) ⟨v₁.mono p₂, v₂⟩
/-! list displays -/
noncomputable def newMix (l : List AV) : AM AV := fun H => if l.length ≤ 1000 then .ok (.loc H.length) (H ++ [.mix l]) else .stuck
noncomputable def intOf : AV → Option Int
  | .int k => some k
  | _ => none
noncomputable def intsOf : List AV → Option (List Int)
  | [] => some []
  | a :: r => match a, intsOf r with
    | .int k, some l => some (k :: l)
    | _, _ => none
noncomputable def newInts (l : List AV) : AM AV := fun H => match intsOf l with
  | some ns => if l.length ≤ 1000 then .ok (.loc H.length) (H ++ [.ints ns]) else .stuck
  | none => .stuck
theorem ints_VRs {as : List Addr} : ∀ {l : List AV} {vs : List Value} {ns : List Int}, VRs as l vs → intsOf l = some ns → IntsAre vs ns
  | [], [], _, _, e => by cases e; exact .nil
  | a :: l, v :: vs, ns, h, e => by
    unfold intsOf at e
    split at e
    · rename_i k l' e'
      cases e
      obtain ⟨⟨t, rfl⟩, h2⟩ := h
      exact .cons _ _ (ints_VRs h2 e')
    · cases e
theorem E_list {es : List PySem.Expr} {pos : Pos} {ml : AM (List AV)} (hl : SimL c lv ρ ev es ml) : SimE c lv ρ ev (.List es pos) (do let l ← ml; newMix l) := by
  intro as0 H news s mloc ok hp S Q E hr
  refine List_ ?_
  refine (hl as0 pos).step ok hp S hr fun a H₁ v h₁ tk news₁ S₁ p₁ v₁ hr => ?_
  unfold newMix at hr
  split at hr
  · rename_i hc
    refine newList_K S₁.F S₁.N (fun D h' F' N' l1 => ?_) ?_
    · obtain ⟨S', p', r'⟩ := S₁.push (ao := .mix a) F' N' l1 ⟨v, 0, rfl, v₁.mono (List.prefix_append _ _)⟩
      exact hr _ h' tk _ S' (p₁.trans p') r'
    · have hz : (1000 : Nat) ≤ sizeLine := Nat.le_of_ble_eq_true rfl
      rw [v₁.len]; omega
  · exact hr.elim
theorem E_ints {es : List PySem.Expr} {pos : Pos} {ml : AM (List AV)} (hl : SimL c lv ρ ev es ml) : SimE c lv ρ ev (.List es pos) (do let l ← ml; newInts l) := by
  intro as0 H news s mloc ok hp S Q E hr
  refine List_ ?_
  refine (hl as0 pos).step ok hp S hr fun a H₁ v h₁ tk news₁ S₁ p₁ v₁ hr => ?_
  unfold newInts at hr
  split at hr
  · rename_i ns e1
    split at hr
    · refine newList_K S₁.F S₁.N (fun D h' F' N' l1 => ?_) ?_
      · obtain ⟨S', p', r'⟩ := S₁.push (ao := .ints ns) F' N' l1 ⟨v, 0, rfl, ints_VRs v₁ e1⟩
        exact hr _ h' tk _ S' (p₁.trans p') r'
      · have hz : (1000 : Nat) ≤ sizeLine := Nat.le_of_ble_eq_true rfl
        rw [v₁.len]; omega
    · exact hr.elim
  · exact hr.elim
end
end Mine
end

/-! ## S6 -/
section
open PySem PySem.W PySem.Calls PyProof.Rows
namespace Mine
section
variable {α β γ δ : Type} {c : Cx} {lv : Nat} {ρ : Rho} {as0 : List Addr} {ev : Env} {m : Str → Option Value} {H : AH} {news : List (Addr × Obj)} {h h' : Heap}
/-! names of the text's own and of the built-ins -/
abbrev NameV (c : Cx) (lv : Nat) (ρ : Rho) (ev : Env) (x : Str) (f : Value) : Prop := ∀ as0 pos, W c lv ρ as0 (eval (.Name x pos) ev) (fun _ (_ : Unit) v => v = f) (pure ())
structure GlobEnv (ev : Env) : Prop where
  g : ev.globals = mainGlobals
  b : ev.builtins = builtinsNs
  k : ev.scope.kind = .function
theorem globEnv (hk : c.cs.kind = .function) : GlobEnv c.env := ⟨rfl, rfl, hk⟩
theorem N_glob {x : Str} {f : Value} (ge : GlobEnv ev) (h : nsIn c.K mainGlobals x = some (some f)) (hx : ev.kindOf x = some .globalImplicit) (hd : (x == ("__debug__" : Str)) = false := by decide) : NameV c lv ρ ev x f :=
  fun as0 pos H news s mloc ok hp S Q E hr => nameG_K S.F ok.X (topRead_of ok.T) h (hr f s.heap s.toks news S List.prefix_rfl rfl) ge.g ge.k hx hd
theorem N_boot {x : Str} {f : Value} (ge : GlobEnv ev) (h : nsIn c.K mainGlobals x = some none) (hb : bootBuiltins x = some f) (hx : ev.kindOf x = some .globalImplicit) (hn : x ≠ "__name__" := by decide) (hd : (x == ("__debug__" : Str)) = false := by decide) : NameV c lv ρ ev x f :=
  fun as0 pos H news s mloc ok hp S Q E hr => Name_function_global ge.k hx (loadGlobal_builtin (env := ev) (ge.g ▸ ok.T.g.keeps S.F.keep) (mg_none_of ok.X ok.T.g h) (ge.b ▸ ok.T.b.keeps S.F.keep) ((ok.T.builtins x hn).trans hb) (hr f s.heap s.toks news S List.prefix_rfl rfl)) hd
theorem E_globN {x : Str} {a : AV} {v : Value} {pos : Pos} (hn : NameV c lv ρ ev x v) (hv : VR [] a v) : SimE c lv ρ ev (.Name x pos) (pure a) := fun as0 H news s mloc ok hp S Q E hr =>
  hn as0 pos H news s mloc ok hp S Q E (fun v h' tk news' S' p e => by subst e; exact hr _ h' tk news' S' p (hv.mono List.nil_prefix))
/-- a call with the arguments' values -/
abbrev SimF (c : Cx) (lv : Nat) (ρ : Rho) (f : Value) (mf : List AV → AM AV) : Prop := ∀ as0 l vs, VRs as0 l vs → W c lv ρ as0 (call f vs) VR (mf l)
theorem E_call {x : Str} {f : Value} {e : PySem.Expr} {args : List PySem.Expr} {np pos : Pos} {ml : AM (List AV)} {mf : List AV → AM AV} (hn : NameV c lv ρ ev x f) (hk : keepIn c.K f = true) (hl : SimL c lv ρ ev (e :: args) ml) (hf : SimF c lv ρ f mf)
    (hq : eval (.Call (.Name x np) (e :: args) [] pos) ev = (do callWith pos (← eval (.Name x np) ev) [] (backTo pos (starEach (e :: args) ev)) (backToKw pos (keywordEach [] ev))) := by rfl)
    (hs : starEach (e :: args) ev = (false, eval e ev) :: starEach args ev := by rfl) (ha : ((backTo pos (starEach args ev)).any fun x => x.1) = false := by rfl) : SimE c lv ρ ev (.Call (.Name x np) (e :: args) [] pos) (do let l ← ml; mf l) := by
  intro as0 H news s mloc ok hp S Q E hr
  refine Call_ ?_ hq
  refine hn as0 np H news s mloc ok hp S _ E (fun v h₁ tk₁ news₁ S₁ p₁ e₁ => ?_)
  subst e₁
  refine callWith_K (K := c.K) ok.X hk ?_ hs ha
  refine (hl (Ads news₁) pos).step (s := { s with heap := h₁, toks := tk₁ }) ok List.prefix_rfl S₁ (hr.mono (fun _ _ g => g) fun _ _ h => h) fun l H₂ vs h₂ tk₂ news₂ S₂ p₂ v₂ hr => ?_
  refine ⟨fun a o e => S₂.F.keep _ _ (ok.X a o e), ?_⟩
  exact (hf (Ads news₂) l vs v₂).fin ok (p₁.trans p₂) List.prefix_rfl S₂ hr
theorem E_callB {x : Str} {id : String} {e : PySem.Expr} {args : List PySem.Expr} {np pos : Pos} {ml : AM (List AV)} {mf : List AV → AM AV} (hn : NameV c lv ρ ev x (.builtin id)) (hl : SimL c lv ρ ev (e :: args) ml) (hf : SimF c lv ρ (.builtin id) mf)
    (hq : eval (.Call (.Name x np) (e :: args) [] pos) ev = (do callWith pos (← eval (.Name x np) ev) [] (backTo pos (starEach (e :: args) ev)) (backToKw pos (keywordEach [] ev))) := by rfl)
    (hs : starEach (e :: args) ev = (false, eval e ev) :: starEach args ev := by rfl) (ha : ((backTo pos (starEach args ev)).any fun x => x.1) = false := by rfl) : SimE c lv ρ ev (.Call (.Name x np) (e :: args) [] pos) (do let l ← ml; mf l) := by
  intro as0 H news s mloc ok hp S Q E hr
  refine Call_ ?_ hq
  refine hn as0 np H news s mloc ok hp S _ E (fun v h₁ tk₁ news₁ S₁ p₁ e₁ => ?_)
  subst e₁
  refine PyProof.Rows.callWith_builtin1 ?_ hs ha
  refine (hl (Ads news₁) pos).step (s := { s with heap := h₁, toks := tk₁ }) ok List.prefix_rfl S₁ (hr.mono (fun _ _ g => g) fun _ _ h => h) fun l H₂ vs h₂ tk₂ news₂ S₂ p₂ v₂ hr => ?_
  exact (hf (Ads news₂) l vs v₂).fin ok (p₁.trans p₂) List.prefix_rfl S₂ hr
theorem E_callT {x : Str} {T : String} {e : PySem.Expr} {args : List PySem.Expr} {np pos : Pos} {ml : AM (List AV)} {mf : List AV → AM AV} (hn : NameV c lv ρ ev x (.type T)) (hl : SimL c lv ρ ev (e :: args) ml) (hf : SimF c lv ρ (.type T) mf)
    (hq : eval (.Call (.Name x np) (e :: args) [] pos) ev = (do callWith pos (← eval (.Name x np) ev) [] (backTo pos (starEach (e :: args) ev)) (backToKw pos (keywordEach [] ev))) := by rfl)
    (hs : starEach (e :: args) ev = (false, eval e ev) :: starEach args ev := by rfl) (ha : ((backTo pos (starEach args ev)).any fun x => x.1) = false := by rfl) : SimE c lv ρ ev (.Call (.Name x np) (e :: args) [] pos) (do let l ← ml; mf l) := by
  intro as0 H news s mloc ok hp S Q E hr
  refine Call_ ?_ hq
  refine hn as0 np H news s mloc ok hp S _ E (fun v h₁ tk₁ news₁ S₁ p₁ e₁ => ?_)
  subst e₁
  refine PyProof.Rows.callWith_type1 ?_ hs ha
  refine (hl (Ads news₁) pos).step (s := { s with heap := h₁, toks := tk₁ }) ok List.prefix_rfl S₁ (hr.mono (fun _ _ g => g) fun _ _ h => h) fun l H₂ vs h₂ tk₂ news₂ S₂ p₂ v₂ hr => ?_
  exact (hf (Ads news₂) l vs v₂).fin ok (p₁.trans p₂) List.prefix_rfl S₂ hr
/-! built-ins -/
noncomputable def aLen (l : List AV) : AM AV := fun H => match l with
  | [.loc i] => match H[i]? with
    | some (.ints ns) => if ns.length ≤ 1000000 then .ok (.int ns.length) H else .stuck
    | _ => .stuck
  | _ => .stuck
noncomputable def aAbs (l : List AV) : AM AV := fun H => match l with
  | [.int k] => .ok (.int (if k < 0 then -k else k)) H
  | _ => .stuck
noncomputable def aMin (l : List AV) : AM AV := fun H => match l with
  | [.int a, .int b] => .ok (.int (if b < a then b else a)) H
  | _ => .stuck
noncomputable def aCopy (l : List AV) : AM AV := fun H => match l with
  | [.loc i] => match H[i]? with
    | some (.ints ns) => if ns.length ≤ 1000000 then .ok (.loc H.length) (H ++ [.ints ns]) else .stuck
    | _ => .stuck
  | _ => .stuck
theorem VRs.two {as : List Addr} {a b : AV} {vs : List Value} (h : VRs as [a, b] vs) : ∃ v u, vs = [v, u] ∧ VR as a v ∧ VR as b u := by
  match vs, h with
  | [v, u], h => exact ⟨v, u, rfl, h.1, h.2.1⟩
theorem len_W : SimF c lv ρ (.builtin "len") aLen := by
  intro as0 l vs hv H news s mloc ok hp S Q E hr
  unfold aLen at hr
  split at hr
  · obtain ⟨v, rfl, hw⟩ := hv.one
    split at hr
    · rename_i ns e1
      split at hr
      · obtain ⟨x, ox, rfl, m1, i1, vs, n, rfl, hi⟩ := S.at e1 (hw.mono hp)
        exact len_ints_fit (listOf_is S.N m1) hi (by omega) (hr _ s.heap _ news S List.prefix_rfl ⟨_, rfl⟩)
      · exact hr.elim
    · exact hr.elim
  · exact hr.elim
theorem abs_W : SimF c lv ρ (.builtin "abs") aAbs := by
  intro as0 l vs hv H news s mloc ok hp S Q E hr
  unfold aAbs at hr
  split at hr
  · obtain ⟨v, rfl, t, rfl⟩ := hv.one
    exact call_abs_int fun u tk => hr _ s.heap tk news S List.prefix_rfl ⟨_, rfl⟩
  · exact hr.elim
theorem min_W : SimF c lv ρ (.builtin "min") aMin := by
  intro as0 l vs hv H news s mloc ok hp S Q E hr
  unfold aMin at hr
  split at hr
  · obtain ⟨v, u, rfl, ⟨t, rfl⟩, ⟨t', rfl⟩⟩ := hv.two
    exact min_two_N rfl S.F S.N fun h' tk F' N' => hr _ h' tk news ⟨F', N', S.nd, S.R, S.Lc, S.Cl, S.Fz⟩ List.prefix_rfl ⟨_, rfl⟩
  · exact hr.elim
theorem copy_W : SimF c lv ρ (.type "list") aCopy := by
  intro as0 l vs hv H news s mloc ok hp S Q E hr
  have hz : (1000000 : Nat) ≤ sizeLine := Nat.le_of_ble_eq_true rfl
  unfold aCopy at hr
  split at hr
  · obtain ⟨v, rfl, hw⟩ := hv.one
    split at hr
    · rename_i ns e1
      split at hr
      · obtain ⟨x, ox, rfl, m1, i1, vs, n, rfl, hi⟩ := S.at e1 (hw.mono hp)
        refine list_copyK S.F S.N (listOf_is S.N m1) (fun D k h' F' N' l1 => ?_) (by rw [List.size_toArray, hi.length]; omega)
        obtain ⟨S', p', r'⟩ := S.push (ao := .ints ns) F' N' l1 ⟨_, _, rfl, hi⟩
        exact hr _ h' s.toks _ S' p' r'
      · exact hr.elim
    · exact hr.elim
  · exact hr.elim
/-! methods of a list -/
abbrev SimM (c : Cx) (lv : Nat) (ρ : Rho) (id : String) (mf : AV → List AV → AM AV) : Prop := ∀ as0 o v l vs, VR as0 o v → VRs as0 l vs → W c lv ρ as0 (call (.builtin id) (v :: vs)) VR (mf o l)
noncomputable def isList (o : AV) : AM Unit := fun H => match o with
  | .loc i => match H[i]? with
    | some (.ints _) => .ok () H
    | some (.mix _) => .ok () H
    | _ => .stuck
  | _ => .stuck
theorem E_meth {o e : PySem.Expr} {args : List PySem.Expr} {x : Str} {id : String} {apos pos : Pos} {pl : Sem Bool} {mo : AM AV} {ml : AM (List AV)} {mf : AV → List AV → AM AV}
    (hs1 : Slot "list" x id) (hs2 : typeOf (.builtin id) = pure (.type "method_descriptor")) (ho : SimE c lv ρ ev o mo) (hl : SimL c lv ρ ev (e :: args) ml) (hf : SimM c lv ρ id mf)
    (hq : eval (.Call (.Attribute o x apos) (e :: args) [] pos) ev = (do
          let ov ← eval o ev
          standAt (Pos.atName apos)
          let __x ← holding [ov] (getMethod ov x pl)
          match __x with
            | (f, first) => callWith pos f first (backTo pos (starEach (e :: args) ev)) []))
    (hs : starEach (e :: args) ev = (false, eval e ev) :: starEach args ev := by rfl) (ha : ((backTo pos (starEach args ev)).any fun x => x.1) = false := by rfl) :
    SimE c lv ρ ev (.Call (.Attribute o x apos) (e :: args) [] pos) (do let o ← mo; isList o; let l ← ml; mf o l) := by
  intro as0 H news s mloc ok hp S Q E hr
  refine MethodCall_ ?_ hq
  refine (ho as0).step ok hp S hr fun a H₁ v h₁ tk news₁ S₁ p₁ v₁ hr => ?_
  rw [run_bind] at hr
  cases a <;> try exact hr.elim
  rename_i i
  have key : ∃ ad its n, v = .ref ad ∧ (ad, listOf its n) ∈ news₁ ++ c.own ∧ ((ml >>= fun l => mf (.loc i) l) H₁).run (GG c ρ mloc news s VR Q) (BB c s E) := by
    unfold isList at hr
    dsimp only at hr
    split at hr
    · rename_i e1
      obtain ⟨x, ox, rfl, m1, i1, vs, n, rfl, hi⟩ := S₁.at e1 v₁
      exact ⟨x, _, n, rfl, m1, hr⟩
    · rename_i e1
      obtain ⟨x, ox, rfl, m1, i1, vs, n, rfl, hi⟩ := S₁.at e1 v₁
      exact ⟨x, _, n, rfl, m1, hr⟩
    · exact hr.elim
  obtain ⟨ad, its, n, rfl, m1, hr⟩ := key
  refine listMethod_K S₁.N m1 hs1 hs2 ?_
  refine PyProof.Rows.callWith_method1 ?_ hs ha
  refine (hl (Ads news₁) pos).step (s := { s with heap := h₁, toks := tk }) ok List.prefix_rfl S₁ hr fun l H₂ vs h₂ tk₂ news₂ S₂ p₂ v₂ hr => ?_
  exact (hf (Ads news₂) (.loc i) _ l vs (v₁.mono p₂) v₂).fin ok (p₁.trans p₂) List.prefix_rfl S₂ hr
noncomputable def aAppend (o : AV) (l : List AV) : AM AV := fun H => match o, l with
  | .loc i, [a] => match H[i]? with
    | some (.mix l) => if l.length ≤ 1000 then .ok .none (H.set i (.mix (l ++ [a]))) else .stuck
    | _ => .stuck
  | _, _ => .stuck
noncomputable def aPop (o : AV) (l : List AV) : AM AV := fun H => match o, l with
  | .loc i, [.int 0] => match H[i]? with
    | some (.ints (k :: ns)) => if ns.length ≤ 1000000 then .ok (.int k) (H.set i (.ints ns)) else .stuck
    | _ => .stuck
  | _, _ => .stuck
noncomputable def aExtend (o : AV) (l : List AV) : AM AV := fun H => match o, l with
  | .loc i, [.loc j] => match H[i]?, H[j]? with
    | some (.ints l), some (.ints (k :: r)) => if l.length + r.length ≤ 1000000 then .ok .none (H.set i (.ints (l ++ (k :: r)))) else .stuck
    | _, _ => .stuck
  | _, _ => .stuck
theorem append_W : SimM c lv ρ "list.append" aAppend := by
  intro as0 o v l vs ho hv H news s mloc ok hp S Q E hr
  have hz : (1000000 : Nat) ≤ sizeLine := Nat.le_of_ble_eq_true rfl
  unfold aAppend at hr
  split at hr
  · obtain ⟨u, rfl, hw⟩ := hv.one
    split at hr
    · rename_i l e1
      split at hr
      · obtain ⟨x, ox, rfl, m1, i1, vs, n, rfl, hi⟩ := S.at e1 (ho.mono hp)
        refine append_K S.F S.N (S.upd _ i1) (fun h' F' N' => ?_) (by rw [List.size_toArray, hi.len]; omega)
        have e2 : vs.toArray.push u = (vs ++ [u]).toArray := by simp
        rw [e2] at N'
        obtain ⟨S', p'⟩ := S.set (ao := .mix (l ++ [_])) e1 (by intro _ h; cases h) i1 F' N' ⟨_, _, rfl, VRs.append (hw.mono hp) hi⟩
        exact hr _ h' s.toks _ S' p' rfl
      · exact hr.elim
    · exact hr.elim
  · exact hr.elim
theorem pop_W : SimM c lv ρ "list.pop" aPop := by
  intro as0 o v l vs ho hv H news s mloc ok hp S Q E hr
  have hz : (1000001 : Nat) ≤ sizeLine := Nat.le_of_ble_eq_true rfl
  unfold aPop at hr
  split at hr
  · obtain ⟨u, rfl, t, rfl⟩ := hv.one
    split at hr
    · rename_i k ns e1
      split at hr
      · obtain ⟨x, ox, rfl, m1, i1, vs, n, rfl, hi⟩ := S.at e1 (ho.mono hp)
        cases hi with
        | @cons _ t' vs' _ r =>
          have hl := r.length
          refine kl_popAt S.F S.N (k := 0) (p := []) (q := vs') (y := .int k t') rfl ?_ rfl (S.upd _ i1) ?_ fun h' F' N' => ?_
          · show seqIndex? 0 (List.toArray (Value.int k t' :: vs')).size = some 0
            simp [seqIndex?]
          · simp only [List.length_cons]; omega
          · obtain ⟨S', p'⟩ := S.set (ao := .ints ns) e1 (by intro _ h; cases h) i1 F' N' ⟨_, _, rfl, r⟩
            exact hr _ h' s.toks _ S' p' ⟨_, rfl⟩
      · exact hr.elim
    · exact hr.elim
  · exact hr.elim
theorem extend_W : SimM c lv ρ "list.extend" aExtend := by
  intro as0 o v l vs ho hv H news s mloc ok hp S Q E hr
  have hz : (1000001 : Nat) ≤ sizeLine := Nat.le_of_ble_eq_true rfl
  have hz' := sizeLine_eq
  unfold aExtend at hr
  split at hr
  · obtain ⟨u, rfl, hw⟩ := hv.one
    split at hr
    · rename_i l k r e1 e2
      split at hr
      · obtain ⟨x, ox, rfl, m1, i1, vs, n, rfl, hi⟩ := S.at e1 (ho.mono hp)
        obtain ⟨y, oy, rfl, m2, i2, us, n', rfl, hj⟩ := S.at e2 (hw.mono hp)
        have l1 := hi.length
        have l2 := hj.length
        simp only [List.length_cons] at l2
        refine kl_extend S.F S.N m2 rfl (by rw [List.toList_toArray]; omega) (S.upd _ i1) (fun q => ?_) (by rw [List.toList_toArray]; omega) (by simp only [List.size_toArray]; omega) fun h' F' N' => ?_
        · exact absurd q (extend_door (by simp only [List.size_toArray]; omega))
        · obtain ⟨S', p'⟩ := S.set (ao := .ints (l ++ (k :: r))) e1 (by intro _ h; cases h) i1 F' N' ⟨_, _, rfl, hi.append hj⟩
          exact hr _ h' s.toks _ S' p' rfl
      · exact hr.elim
    · exact hr.elim
  · exact hr.elim
end
end Mine
end

/-! ## S7 -/
section
open PySem PySem.W PySem.Calls PyProof.Rows
namespace Mine
section
variable {α β γ δ : Type} {c : Cx} {lv : Nat} {ρ ρ' ρe : Rho} {as0 : List Addr} {ev : Env} {m : Str → Option Value} {H : AH} {news : List (Addr × Obj)} {h h' : Heap}
/-! cells -/
theorem St.cell (S : St c ρ m H news h) {x : Str} {i : Nat} {a : Option AV} (hx : c.cix.lookup x = some i) (hi : H[i]? = some (.cell a)) : ∃ ad o, c.cl.lookup x = some ad ∧ (ad, o) ∈ news ++ c.own ∧ news[i]? = some (ad, o) ∧ OR (Ads news) (.cell a) o := by
  obtain ⟨ad, h1, h2⟩ := S.Cl x i hx
  obtain ⟨o, m1, e1, r⟩ := S.R.get hi h2
  exact ⟨ad, o, h1, List.mem_append_left _ m1, e1, r⟩
theorem E_free {x : Str} {pos : Pos} {i : Nat} (hx : c.cix.lookup x = some i) (hc : ev.cells.lookup x = c.cl.lookup x) (hk : ev.scope.kind = .function) (hf : ev.kindOf x = some .free ∨ ev.kindOf x = some .cell)
    (hd : (x == ("__debug__" : Str)) = false := by decide) (hn : (x == ("__classdict__" : Str)) = false := by decide) : SimE c lv ρ ev (.Name x pos) (getCell i) := by
  intro as0 H news s mloc ok hp S Q E hr
  unfold getCell at hr
  split at hr
  · rename_i a e1
    obtain ⟨ad, o, h1, m1, e2, v, hv, hr'⟩ := S.cell hx e1
    refine wpAny_Name ?_ hd
    rcases hf with hf | hf
    · exact wpAny_loadName_free hk hf (hc.trans h1) ⟨o, S.N.get m1, hv⟩ (hr v s.heap s.toks news S List.prefix_rfl hr') hn
    · exact wpAny_loadName_cell hk hf (hc.trans h1) ⟨o, S.N.get m1, hv⟩ (hr v s.heap s.toks news S List.prefix_rfl hr')
  · exact hr.elim
theorem E_cell {x : Str} {pos : Pos} {i : Nat} (hx : c.cix.lookup x = some i) (hk : c.cs.kind = .function) (hf : c.cs.names.lookup x = some .cell ∨ c.cs.names.lookup x = some .free)
    (hd : (x == ("__debug__" : Str)) = false := by decide) (hn : (x == ("__classdict__" : Str)) = false := by decide) : SimE c lv ρ c.env (.Name x pos) (getCell i) :=
  E_free hx rfl hk hf.symm hd hn
/-! statements -/
noncomputable def rset (ρ : Rho) (x : Str) (a : AV) : Rho := fun y => if y = x then some a else ρ y
abbrev no : Rho := fun _ => none
noncomputable def SG (c : Cx) (ρe : Rho) (news : List (Addr × Obj)) (s : Shared) (Q : Flow → Shared → Prop) (o : Option AV) (H' : AH) : Prop := match o with
  | some a => ∀ v mloc h' tk news', St c no mloc H' news' h' → Ads news <+: Ads news' → VR (Ads news') a v → Q (.ret v) { s with heap := h', toks := tk }
  | none => ∀ mloc h' tk news', St c ρe mloc H' news' h' → Ads news <+: Ads news' → Q .next { s with heap := h', toks := tk }
theorem SG.shift {news₁ : List (Addr × Obj)} {s : Shared} {h₁ : Heap} {t₁ : Nat} {Q : Flow → Shared → Prop} {b : Option AV} {H' : AH}
    (g : SG c ρe news s Q b H') (p : Ads news <+: Ads news₁) : SG c ρe news₁ { s with heap := h₁, toks := t₁ } Q b H' := by
  cases b with
  | none => exact fun mloc h' tk news' S p' => g mloc h' tk news' S (p.trans p')
  | some a => exact fun v mloc h' tk news' S p' r => g v mloc h' tk news' S (p.trans p') r
noncomputable def SimS (c : Cx) (lv : Nat) (ρ ρe : Rho) (sts : List Stmt) (m : AM (Option AV)) : Prop :=
  ∀ H news s mloc, c.Ok lv → St c ρ mloc H news s.heap → ∀ Q E, (m H).run (SG c ρe news s Q) (BB c s E) → wpAny (model PG c.w) c.A (execs sts c.env) Q E s
noncomputable def XG (c : Cx) (ρ' : β → Rho) (news : List (Addr × Obj)) (s : Shared) (Q : Flow → Shared → Prop) (b : β) (H' : AH) : Prop :=
  ∀ mloc h' tk news', St c (ρ' b) mloc H' news' h' → Ads news <+: Ads news' → Q .next { s with heap := h', toks := tk }
theorem XG.shift {ρ' : β → Rho} {news₁ : List (Addr × Obj)} {s : Shared} {h₁ : Heap} {t₁ : Nat} {Q : Flow → Shared → Prop} {b : β} {H' : AH}
    (g : XG c ρ' news s Q b H') (p : Ads news <+: Ads news₁) : XG c ρ' news₁ { s with heap := h₁, toks := t₁ } Q b H' := fun mloc h' tk news' S p' => g mloc h' tk news' S (p.trans p')
noncomputable def SimX (c : Cx) (lv : Nat) (ρ : Rho) (st : Stmt) (m : AM β) (ρ' : β → Rho) : Prop :=
  ∀ H news s mloc, c.Ok lv → St c ρ mloc H news s.heap → ∀ Q E, (m H).run (XG c ρ' news s Q) (BB c s E) → wpAny (model PG c.w) c.A (exec st c.env) Q E s
theorem SimS.fin {sts : List Stmt} {ms : AM (Option AV)} {H : AH} {news news₁ : List (Addr × Obj)} {s : Shared} {h₁ : Heap} {tk : Nat} {mloc : Str → Option Value} {E : Value → Shared → Prop} {Q : Flow → Shared → Prop}
    (hw : SimS c lv ρ ρe sts ms) (ok : c.Ok lv) (p : Ads news <+: Ads news₁) (S : St c ρ mloc H news₁ h₁) (hr : (ms H).run (SG c ρe news s Q) (BB c s E)) : wpAny (model PG c.w) c.A (execs sts c.env) Q E { s with heap := h₁, toks := tk } :=
  hw H news₁ _ mloc ok S Q E (hr.mono (fun _ _ g => g.shift p) fun _ _ h => h)
theorem St.none (S : St c ρ m H news h) : St c no m H news h := ⟨S.F, S.N, S.nd, S.R, (fun _ _ e => by cases e), S.Cl, S.Fz⟩
theorem St.weak (S : St c ρ m H news h) (hw : ∀ x a, ρ' x = some a → ρ x = some a) : St c ρ' m H news h := ⟨S.F, S.N, S.nd, S.R, (fun x a e => S.Lc x a (hw x a e)), S.Cl, S.Fz⟩
theorem S_nil (hw : ∀ x a, ρe x = some a → ρ x = some a := by exact fun _ _ e => e) : SimS c lv ρ ρe [] (pure none) := by
  intro H news s mloc ok S Q E hr
  exact wpAny_execs_nil (hr mloc s.heap s.toks news (S.weak hw) List.prefix_rfl)
theorem S_cons {st : Stmt} {rest : List Stmt} {m₁ : AM β} {ρ' : β → Rho} {mr : β → AM (Option AV)} (hx : SimX c lv ρ st m₁ ρ') (hr : ∀ b, SimS c lv (ρ' b) ρe rest (mr b)) : SimS c lv ρ ρe (st :: rest) (do let b ← m₁; mr b) := by
  intro H news s mloc ok S Q E h
  rw [run_bind] at h
  refine wpAny_execs_cons (hx H news s mloc ok S _ E (h.mono (fun b H₁ g mloc₁ h₁ tk news₁ S₁ p₁ => ?_) fun _ _ h => h))
  exact (hr b).fin ok p₁ S₁ g
theorem S_ret {e : PySem.Expr} {pos : Pos} {rest : List Stmt} {me : AM AV} (he : SimE c lv ρ c.env e me) : SimS c lv ρ ρe (.Return (some e) pos :: rest) (do let a ← me; pure (some a)) := by
  intro H news s mloc ok S Q E hr
  refine wpAny_execs_cons (wpAny_Return_some ?_)
  refine (he []).step ok List.nil_prefix S hr fun a H₁ v h₁ tk news₁ S₁ p₁ v₁ hr => ?_
  exact hr v mloc h₁ tk news₁ S₁.none p₁ v₁
/-- where a suite ends by itself, the rest follows -/
noncomputable def after (o : Option AV) (mr : AM (Option AV)) : AM (Option AV) := match o with
  | some a => pure (some a)
  | none => mr
theorem S_if {t : PySem.Expr} {b o rest : List Stmt} {pos : Pos} {mt : AM Bool} {mb mo mr : AM (Option AV)} (ht : SimB c lv ρ c.env t mt) (hb : SimS c lv ρ ρ b mb) (ho : SimS c lv ρ ρ o mo) (hr : SimS c lv ρ ρe rest mr) :
    SimS c lv ρ ρe (.If t b o pos :: rest) (do let x ← mt; let r ← (if x then mb else mo); after r mr) := by
  intro H news s mloc ok S Q E h
  refine wpAny_execs_cons (wpAny_If ?_)
  refine (ht []).step ok List.nil_prefix S h fun x H₁ v h₁ tk news₁ S₁ p₁ v₁ h => ?_
  cases v₁
  have key : ∀ (sts : List Stmt) (ms : AM (Option AV)), SimS c lv ρ ρ sts ms → ((ms >>= fun r => after r mr) H₁).run (SG c ρe news s Q) (BB c s E) →
      wpAny (model PG c.w) c.A (execs sts c.env) (fun f s' => match f with | .next => wpAny (model PG c.w) c.A (execs rest c.env) Q E s' | f => Q f s') E { s with heap := h₁, toks := tk } := by
    intro sts ms hs h
    rw [run_bind] at h
    refine hs H₁ news₁ _ mloc ok S₁ _ E (h.mono (fun r H₂ g => ?_) fun _ _ h => h)
    cases r with
    | none => exact fun mloc₂ h₂ tk₂ news₂ S₂ p₂ => hr.fin (s := s) ok (p₁.trans p₂) S₂ g
    | some a => exact fun v mloc₂ h₂ tk₂ news₂ S₂ p₂ r => g v mloc₂ h₂ tk₂ news₂ S₂ (p₁.trans p₂) r
  cases x
  · exact key o mo ho h
  · exact key b mb hb h
theorem St.store (S : St c ρ m H news h) {x : Str} {a : AV} {v : Value} (hv : VR (Ads news) a v) (F' : Fr c.h₀ c.L h' (fun y => if y = x then some v else m y)) (N' : News c.h₀ c.L h' (news ++ c.own)) : St c (rset ρ x a) (fun y => if y = x then some v else m y) H news h' := by
  refine ⟨F', N', S.nd, S.R, fun y b e => ?_, S.Cl, S.Fz⟩
  unfold rset at e
  by_cases hy : y = x
  · rw [if_pos hy] at e
    cases e
    exact ⟨v, by rw [if_pos hy], hv⟩
  · rw [if_neg hy] at e
    obtain ⟨u, h1, h2⟩ := S.Lc y b e
    exact ⟨u, by rw [if_neg hy]; exact h1, h2⟩
theorem X_assign {x : Str} {pos' pos : Pos} {e : PySem.Expr} {me : AM AV} (he : SimE c lv ρ c.env e me) (hx : c.cs.names.lookup x = some .local)
    (hq : swapsWith e (some (.Name x pos')) pos.line c.env = pure false := by rfl) : SimX c lv ρ (.Assign [.Name x pos'] e pos) me (fun a => rset ρ x a) := by
  intro H news s mloc ok S Q E hr
  refine wpAny_Assign_Name ?_ hq
  refine he [] H news s mloc ok List.nil_prefix S _ E (hr.mono (fun a H₁ g v h₁ tk news₁ S₁ p₁ v₁ => ?_) fun _ _ h => h)
  exact storeX_L S₁.F S₁.N (fun h' F' N' => g (fun y => if y = x then some v else mloc y) h' _ news₁ (S₁.store v₁ F' N') p₁) ok.hke hx
noncomputable def setCell (i : Nat) (a : AV) : AM Unit := fun H => match H[i]? with
  | some (.cell _) => .ok () (H.set i (.cell (some a)))
  | _ => .stuck
theorem cellst_W {x : Str} {i : Nat} {a : AV} {v : Value} (hx : c.cix.lookup x = some i) (hk : c.cs.names.lookup x = some .cell) (ha : VR as0 a v) : W c lv ρ as0 (storeName c.env x v) (fun _ _ _ => True) (setCell i a) := by
  intro H news s mloc ok hp S Q E hr
  unfold setCell at hr
  split at hr
  · rename_i b e1
    obtain ⟨ad, o, h1, m1, e2, r⟩ := S.cell hx e1
    have hd : ∃ v₀, o.data = .cell v₀ := by
      cases b with
      | none => exact ⟨_, r⟩
      | some b => obtain ⟨v, hv, _⟩ := r; exact ⟨_, hv⟩
    obtain ⟨v₀, hd⟩ := hd
    have z := S.N (ad, o) m1
    obtain ⟨pre, post, ea, eb, o1, o2⟩ := (S.upd o e2).split
    refine wpAny_storeName_cell (env := c.env) ok.hke hk h1 ⟨o, S.N.get m1, hd⟩ fun h' hc hs => ?_
    obtain ⟨o', ho', hd'⟩ := hc
    have F' : Fr c.h₀ c.L h' mloc := ⟨S.F.ns.sameBut hs (Ne.symm z.2.1), fun b ob e => (hs.2 b (fun q => by rw [q, z.2.2] at e; cases e)).trans (S.F.keep b ob e), S.F.above⟩
    have N' : News c.h₀ c.L h' ((news ++ c.own).set i (ad, o')) := by
      obtain ⟨pre, post, ea, eb, o1, o2⟩ := (S.upd o' e2).split
      rw [eb]
      exact news_set (ea ▸ S.N) o1 o2 hs ho'
    obtain ⟨S', p'⟩ := S.set (ao := .cell (some a)) e1 (by intro _ h; cases h) e2 F' N' ⟨v, hd', ha.mono hp⟩
    exact hr () h' s.toks _ S' p' trivial
  · exact hr.elim
theorem X_assignC {x : Str} {pos' pos : Pos} {e : PySem.Expr} {i : Nat} {me : AM AV} (he : SimE c lv ρ c.env e me) (hi : c.cix.lookup x = some i) (hx : c.cs.names.lookup x = some .cell)
    (hq : swapsWith e (some (.Name x pos')) pos.line c.env = pure false := by rfl) : SimX c lv ρ (.Assign [.Name x pos'] e pos) (do let a ← me; setCell i a) (fun _ => ρ) := by
  intro H news s mloc ok S Q E hr
  refine wpAny_Assign_Name ?_ hq
  refine (he []).step ok List.nil_prefix S hr fun a H₁ v h₁ tk news₁ S₁ p₁ v₁ hr => ?_
  refine cellst_W (lv := lv) hi hx v₁ H₁ news₁ _ mloc ok List.prefix_rfl S₁ _ E (hr.mono (fun _ H₂ g _ h₂ tk₂ news₂ S₂ p₂ _ => ?_) fun _ _ h => h)
  exact g _ h₂ tk₂ news₂ S₂ (p₁.trans p₂)
theorem X_expr {e : PySem.Expr} {pos : Pos} {me : AM AV} (he : SimE c lv ρ c.env e me) (hi : interactive c.env = false := by rfl) (hq : swapsWith e none pos.line c.env = pure false := by rfl) : SimX c lv ρ (.Expr e pos) me (fun _ => ρ) := by
  intro H news s mloc ok S Q E hr
  refine wpAny_Expr_any ?_ hi hq
  refine he [] H news s mloc ok List.nil_prefix S _ E (hr.mono (fun a H₁ g v h₁ tk news₁ S₁ p₁ v₁ => ?_) fun _ _ h => h)
  exact g _ h₁ tk news₁ S₁ p₁
theorem X_attr {o e : PySem.Expr} {x : Str} {pos' pos : Pos} {me mo : AM AV} (C : Addr) (he : SimE c lv ρ c.env e me) (ho : SimE c lv ρ c.env o mo) (hs : SetOk c.K C x)
    (hq : swapsWith e (some (.Attribute o x pos')) pos.line c.env = pure false := by rfl) : SimX c lv ρ (.Assign [.Attribute o x pos'] e pos) (do let a ← me; let r ← mo; setF C x r a) (fun _ => ρ) := by
  intro H news s mloc ok S Q E hr
  refine plainObj_wpAny_Assign_Attribute ?_ hq
  refine (he []).step ok List.nil_prefix S hr fun a H₁ v h₁ tk news₁ S₁ p₁ v₁ hr => ?_
  refine (ho (Ads news₁)).step (s := { s with heap := h₁, toks := tk }) ok List.prefix_rfl S₁ hr fun b H₂ u h₂ tk₂ news₂ S₂ p₂ v₂ hr => ?_
  refine setF_W (lv := lv) hs v₂ (v₁.mono p₂) H₂ news₂ _ mloc ok List.prefix_rfl S₂ _ E (hr.mono (fun _ H₃ g _ h₃ tk₃ news₃ S₃ p₃ _ => ?_) fun _ _ h => h)
  exact g _ h₃ tk₃ news₃ S₃ ((p₁.trans p₂).trans p₃)
noncomputable def setI (o k a : AV) : AM Unit := fun H => match o, k with
  | .loc i, .int k => match H[i]? with
    | some (.ints ns) => match a with
      | .int x => if 0 ≤ k ∧ k < ns.length ∧ ns.length ≤ 1000000 then .ok () (H.set i (.ints (ns.set k.toNat x))) else .stuck
      | _ => .stuck
    | some (.mix l) => if 0 ≤ k ∧ k < l.length ∧ l.length ≤ 1000000 then .ok () (H.set i (.mix (l.set k.toNat a))) else .stuck
    | _ => .stuck
  | _, _ => .stuck
theorem setI_W {o k a : AV} {v u t : Value} (ho : VR as0 o v) (hk : VR as0 k u) (ha : VR as0 a t) : W c lv ρ as0 (setItem v u t) (fun _ _ _ => True) (setI o k a) := by
  intro H news s mloc ok hp S Q E hr
  unfold setI at hr
  split at hr
  · rename_i i k
    obtain ⟨tk, rfl⟩ := hk
    split at hr
    · rename_i ns e1
      split at hr
      · rename_i x
        obtain ⟨tk, rfl⟩ := ha
        split at hr
        · rename_i hc
          obtain ⟨y, oy, rfl, m1, i1, vs, n, rfl, hi⟩ := S.at e1 (ho.mono hp)
          refine ksa_set S.F S.N (S.upd _ i1) hi hc.1 hc.2.1 (by omega) fun h' F' N' hi' _ _ => ?_
          obtain ⟨S', p'⟩ := S.set (ao := .ints (ns.set k.toNat x)) e1 (by intro _ h; cases h) i1 F' N' ⟨_, _, rfl, hi'⟩
          exact hr () h' s.toks _ S' p' trivial
        · exact hr.elim
      · exact hr.elim
    · rename_i l e1
      split at hr
      · rename_i hc
        obtain ⟨y, oy, rfl, m1, i1, vs, n, rfl, hi⟩ := S.at e1 (ho.mono hp)
        have z := S.N _ m1
        have hl := hi.len
        have U := S.upd (listOf (vs.set k.toNat t).toArray n) i1
        refine ki_setAt z.1 hc.1 (by omega) (by rw [List.size_toArray]; omega) ?_
        have N' : News c.h₀ c.L (s.heap.update y (Obj.mapSeq fun x => x.setIfInBounds k.toNat t)) ((news ++ c.own).set i (y, listOf (vs.set k.toNat t).toArray n)) := by
          obtain ⟨pre, post, ea, eb, o1, o2⟩ := U.split
          rw [eb]
          refine ki_turn (fun x => x.setIfInBounds k.toNat t) (ea ▸ S.N) o1 o2 ?_ ?_
          · apply Array.toList_inj.mp
            simp
          · simp
        obtain ⟨S', p'⟩ := S.set (ao := .mix (l.set k.toNat a)) e1 (by intro _ h; cases h) i1 (S.F.change (Heap.SameBut.update ..) z.2.1 z.2.2) N' ⟨_, _, rfl, VRs.set (ha.mono hp) hi⟩
        exact hr () _ s.toks _ S' p' trivial
      · exact hr.elim
    · exact hr.elim
  · exact hr.elim
theorem X_item {o i e : PySem.Expr} {pos' pos : Pos} {me mo mi : AM AV} (he : SimE c lv ρ c.env e me) (ho : SimE c lv ρ c.env o mo) (hi : SimE c lv ρ c.env i mi)
    (hq : swapsWith e (some (.Subscript o i pos')) pos.line c.env = pure false := by rfl) : SimX c lv ρ (.Assign [.Subscript o i pos'] e pos) (do let a ← me; let r ← mo; let k ← mi; setI r k a) (fun _ => ρ) := by
  intro H news s mloc ok S Q E hr
  refine wpAny_Assign_Subscript ?_ hq
  refine (he []).step ok List.nil_prefix S hr fun a H₁ v h₁ tk news₁ S₁ p₁ v₁ hr => ?_
  refine (ho (Ads news₁)).step (s := { s with heap := h₁, toks := tk }) ok List.prefix_rfl S₁ hr fun b H₂ u h₂ tk₂ news₂ S₂ p₂ v₂ hr => ?_
  refine (hi (Ads news₂)).step (s := { s with heap := h₂, toks := tk₂ }) ok List.prefix_rfl S₂ hr fun b H₃ w h₃ tk₃ news₃ S₃ p₃ v₃ hr => ?_
  refine setI_W (lv := lv) (v₂.mono p₃) v₃ (v₁.mono (p₂.trans p₃)) H₃ news₃ _ mloc ok List.prefix_rfl S₃ _ E (hr.mono (fun _ H₄ g _ h₄ tk₄ news₄ S₄ p₄ _ => ?_) fun _ _ h => h)
  exact g _ h₄ tk₄ news₄ S₄ (((p₁.trans p₂).trans p₃).trans p₄)
end
end Mine
end

/-! ## S8 -/
section
open PySem PySem.W PySem.Calls PyProof.Rows
namespace Mine
section
variable {α β γ δ : Type} {c : Cx} {lv : Nat} {ρ ρ' ρe : Rho} {as0 : List Addr} {ev : Env} {m : Str → Option Value} {H : AH} {news : List (Addr × Obj)} {h h' : Heap}
theorem ErrR.leave {c c' : Cx} {x : Str} {H : AH} {e : Value} {h₁ : Heap} {s : Shared} {Q : Unit → Shared → Prop} {E : Value → Shared → Prop} {tk : Nat}
    (hb : c'.base = c.base) (ho : c'.outer = c.env :: c.outer) (hw : c'.own = c.own ∧ c'.frz = c.frz ∧ c'.pin = c.pin) (hst : ∀ b o, c.h₀.get? b = some o → c'.h₀.get? b = some o) {mm : Str → Option Value} (hN : c'.h₀.Ns c.L mm) (hL : c'.h₀.get? c'.L = none) (R : ErrR c' x H e h₁) (hQ : ∀ h' , ErrR c x H e h' → Q () { s with heap := h', toks := tk }) :
    wpAny (model PG c'.w) c'.A (leaving c'.env e) Q E { s with heap := h₁, toks := tk } := by
  obtain ⟨ea, dx, od, t, news, rfl, e1, R, fz, nd, fr, U, hns, B, hB, hG, hl, hfl⟩ := R
  obtain ⟨w1, w2, w3⟩ := hw
  unfold FzP at fz
  rw [w1] at nd fr hl
  rw [w2, w3] at fz
  rw [hb] at hB hl
  rw [ho] at hfl
  refine leaveD (env := c'.env) (outer := c.env :: c.outer) (by show some _ = some _; rw [ho]) rfl hfl fun h' x1 x2 => hQ h' ?_
  refine ⟨ea, dx, od, t, news, rfl, e1, R, fz, nd, fun q hq => ?_, (Heap.UpToSlots.of_keeps hst).trans (U.trans x2), ⟨mm, (U.trans x2).ns hN⟩, B, hB, fun b o hb hm => hG b o (hst b o hb) fun hm' => ?_, hl, x1⟩
  rotate_left
  · rw [ho] at hm'
    rcases List.mem_cons.mp (show b ∈ c'.L :: (c.env :: c.outer).filterMap (·.frame) from hm') with z | z
    · have := hst b o hb; rw [z, hL] at this; cases this
    · exact hm z
  cases z : c.h₀.get? q.1 with
  | none => rfl
  | some o => have := hst _ _ z; rw [fr q hq] at this; cases this
noncomputable def argR (names : List Str) (l : List AV) : Rho := fun y => (names.zip l).reverse.lookup y
theorem zip_lookup {as : List Addr} : ∀ {names : List Str} {l : List AV} {vs : List Value}, VRs as l vs → ∀ x a, ((names.zip l)).lookup x = some a → ∃ v, ((names.zip vs)).lookup x = some v ∧ VR as a v
  | [], _, _, _, _, _, e => by simp at e
  | _ :: _, [], [], _, _, _, e => by simp at e
  | y :: names, a :: l, v :: vs, h, x, b, e => by
    simp only [List.zip_cons_cons, List.lookup_cons] at e ⊢
    by_cases hxy : (x == y) = true
    · rw [hxy] at e ⊢
      cases e
      exact ⟨v, rfl, h.1⟩
    · simp only [hxy] at e ⊢
      exact zip_lookup h.2 x b e
theorem VRs.append2 {as : List Addr} : ∀ {l l' : List AV} {vs vs' : List Value}, VRs as l vs → VRs as l' vs' → VRs as (l ++ l') (vs ++ vs')
  | [], _, [], _, _, h' => h'
  | _ :: _, _, _ :: _, _, h, h' => ⟨h.1, VRs.append2 h.2 h'⟩
theorem VRs.reverse {as : List Addr} : ∀ {l : List AV} {vs : List Value}, VRs as l vs → VRs as l.reverse vs.reverse
  | [], [], _ => trivial
  | a :: l, v :: vs, h => by
    rw [List.reverse_cons, List.reverse_cons]
    exact VRs.append2 (VRs.reverse h.2) ⟨h.1, trivial⟩
theorem zip_rev {α β : Type} : ∀ {l : List α} {r : List β}, l.length = r.length → (l.zip r).reverse = l.reverse.zip r.reverse
  | [], [], _ => rfl
  | a :: l, b :: r, h => by
    have h' : l.length = r.length := by simpa using h
    rw [List.zip_cons_cons, List.reverse_cons, List.reverse_cons, List.reverse_cons, zip_rev h', List.zip_append (by simp [h'])]
    rfl
theorem argR_loc {as : List Addr} {names : List Str} {l : List AV} {vs : List Value} (h : VRs as l vs) (hl : l.length = names.length) : LocR as (argR names l) (fun y => (names.zip vs).reverse.lookup y) := by
  intro x a e
  unfold argR at e
  rw [zip_rev hl.symm] at e
  rw [zip_rev (hl.symm.trans h.len.symm)]
  exact zip_lookup h.reverse x a e
noncomputable def theArgs (n : Nat) (mb : List AV → AM (Option AV)) (l : List AV) : AM (Option AV) := fun H => if l.length = n then mb l H else .stuck
theorem theArgs_run {n : Nat} {mb : List AV → AM (Option AV)} {l : List AV} {H : AH} {G : Option AV → AH → Prop} {B : Str → AH → Prop} (h : (theArgs n mb l H).run G B) : l.length = n ∧ (mb l H).run G B := by
  unfold theArgs at h
  split at h
  · exact ⟨by assumption, h⟩
  · exact h.elim
noncomputable def outOf (o : Option AV) : AV := o.getD .none
/-- the callee's frame -/
abbrev Cx.callee (c : Cx) (d' u' : Nat) (gd' : Option (List Code)) (qual : Str) (scope : Scope) (f : Addr) (cdv : Value) (cl : List (Str × Addr)) (g : Heap) (L' : Addr) (cix : List (Str × Nat)) : Cx :=
  { c with dp := d' + 1, un := u' + 3, gd := gd', cn := qual, cs := scope, fa := f, ccd := cdv, cl := cl, outer := c.env :: c.outer, A₀ := ⟨none, d', some (c.env :: c.outer), gd', u'⟩, h₀ := g, L := L', cix := cix }
abbrev CalleeG (c : Cx) (ρ : Rho) (m : Str → Option Value) (news : List (Addr × Obj)) (s : Shared) (R : Result → Shared → Prop) (o : Option AV) (H' : AH) : Prop :=
  ∀ v h' tk news', St c ρ m H' news' h' → Ads news <+: Ads news' → VR (Ads news') (outOf o) v → R (.ok (.ret v)) { s with heap := h', toks := tk }
abbrev CalleeB (c : Cx) (s : Shared) (R : Result → Shared → Prop) (x : Str) (H' : AH) : Prop := ∀ e h' tk, ErrR c x H' e h' → R (.error e) { s with heap := h', toks := tk }
theorem code_sim {d' u' : Nat} {gd' : Option (List Code)} {s : Shared} {R : Result → Shared → Prop} {names : List Str}
    {name qual : Str} {params : Arguments} {body : List Stmt} {scope : Scope} {dV kV doc pm cdv ct oc : Value} {an od : Option Addr} {osl : Array (Option Value)} {f : Addr} {l : List AV} {vs : List Value} {mb : List AV → AM (Option AV)}
    (ho : c.K.lookup f = some ⟨oc, od, .func (fnOf name qual params body scope dV kV doc pm an cdv ct), osl⟩) (hcd : codeIn c.K cdv qual = true)
    (hb : BindsTo s (fnOf name qual params body scope dV kV doc pm an cdv ct) ⟨vs, []⟩ (names.zip vs)) (hloc : ∀ y ∈ names.zip vs, scope.names.lookup y.1 = some .local)
    (hco : scope.isCoroutine = false) (hgen : scope.isGenerator = false) (hk : scope.kind = .function) (hcell : ∀ x ∈ scope.names, x.2 ≠ .cell)
    (hbody : ∀ g L', SimS (c.callee d' u' gd' qual scope f cdv [] g L' []) lv (argR names l) no body (mb l))
    (hd : d' ≤ c.dp + 4) (hu : u' ≤ c.un + 40) (ok : c.Ok (lv + 1)) (S : St c ρ m H news s.heap) (hv : VRs (Ads news) l vs) (hn : l.length = names.length)
    (hr : (mb l H).run (CalleeG c ρ m news s R) (CalleeB c s R)) :
    codeAny (model PG c.w) ⟨none, d', some (c.env :: c.outer), gd', u'⟩ (.call (.ref f) ⟨vs, []⟩) R s := by
  have hdp := ok.hdp
  have hun := ok.hun
  refine code_def (env := c.env) ok.B S.F ok.X S.N ok.T rfl rfl ok.hke ho hcd (by show d' < 1000; omega) hb hloc (fun g L' h₁ FG F' N' B' X' T' => ?_) hco hgen hk hcell
  have ok' : (c.callee d' u' gd' qual scope f cdv [] g L' []).Ok lv := ⟨B', X', T', hk, by show d' + 1 + 8 * lv < 1000; omega, by show u' + 3 + 100 * lv < 9900; omega, ok.XB, ok.TB⟩
  have S' : St (c.callee d' u' gd' qual scope f cdv [] g L' []) (argR names l) (fun y => (names.zip vs).reverse.lookup y) H news h₁ := ⟨F', N', S.nd, S.R, argR_loc hv hn, (fun x i e => by cases e), S.Fz⟩
  refine hbody g L' H news { s with heap := h₁, toks := s.toks + (names.zip vs).length } _ ok' S' _ _ (hr.mono (fun o H' gg => ?_) fun x H' bb => ?_)
  · cases o with
    | none =>
      intro mloc h' tk news' S'' p
      exact leaveK_ S''.F S''.N fun kF kN => gg .none h' tk news' ⟨kF, kN, S''.nd, S''.R, S.Lc.mono p, fun x i e => (S.Cl x i e).imp fun _ q => ⟨q.1, idx_pre p q.2⟩, S''.Fz⟩ p rfl
    | some a =>
      intro v mloc h' tk news' S'' p r
      exact leaveK_ S''.F S''.N fun kF kN => gg v h' tk news' ⟨kF, kN, S''.nd, S''.R, S.Lc.mono p, fun x i e => (S.Cl x i e).imp fun _ q => ⟨q.1, idx_pre p q.2⟩, S''.Fz⟩ p r
  · intro e h' tk R'
    exact ErrR.leave (c := c) (c' := c.callee d' u' gd' qual scope f cdv [] g L' []) rfl rfl ⟨rfl, rfl, rfl⟩ FG.keep FG.ns (kts_self F') R' fun h'' R'' => bb e h'' tk R''
/-- a def without cells -/
theorem F_def {names : List Str} {name qual : Str} {params : Arguments} {body : List Stmt} {scope : Scope} {dV kV doc pm cdv ct oc : Value} {an od : Option Addr} {osl : Array (Option Value)} {f : Addr} {mb : List AV → AM (Option AV)}
    (ho : c.K.lookup f = some ⟨oc, od, .func (fnOf name qual params body scope dV kV doc pm an cdv ct), osl⟩) (hcd : codeIn c.K cdv qual = true)
    (hb : ∀ (s : Shared) (vs : List Value), c.K.In s.heap → vs.length = names.length → BindsTo s (fnOf name qual params body scope dV kV doc pm an cdv ct) ⟨vs, []⟩ (names.zip vs)) (hloc : (names.all fun y => scope.names.lookup y == some .local) = true)
    (hco : scope.isCoroutine = false) (hgen : scope.isGenerator = false) (hk : scope.kind = .function) (hcell : (scope.names.all fun x => x.2 != .cell) = true)
    (hbody : ∀ l, l.length = names.length → ∀ d' u' gd' g L', SimS (c.callee d' u' gd' qual scope f cdv [] g L' []) lv (argR names l) no body (mb l)) :
    SimF c (lv + 1) ρ (.ref f) (fun l => do let o ← theArgs names.length mb l; pure (outOf o)) := by
  intro as0 l vs hv H news s mloc ok hp S Q E hr
  dsimp only at hr
  rw [run_bind] at hr
  obtain ⟨hn, hr⟩ := theArgs_run hr
  have hv' := hv.mono hp
  refine wpAny_call (code_sim (lv := lv) ho hcd ?_ (fun y hy => ?_) hco hgen hk (fun x hx => ?_) (fun g L' => hbody l hn c.dp c.un c.gd g L') (by omega) (by omega) ok S hv' hn hr)
  · exact hb s vs (fun a o e => S.F.keep _ _ (ok.X a o e)) (hv.len.trans hn)
  · exact beq_iff_eq.mp (List.all_eq_true.mp hloc y.1 (List.of_mem_zip hy).1)
  · exact bne_iff_ne.mp (List.all_eq_true.mp hcell x hx)
end
end Mine
end

/-! ## S9 -/
section
open PySem PySem.W PySem.Calls PyProof.Rows
namespace Mine
section
variable {α β γ δ : Type} {c : Cx} {lv : Nat} {ρ ρ' ρe : Rho} {as0 : List Addr} {ev : Env} {m : Str → Option Value} {H : AH} {news : List (Addr × Obj)} {h h' : Heap}
/-! a def with cells -/
noncomputable def ciOk (as : List Addr) (a : Option AV) (v : Option Value) : Prop := match a, v with
  | none, none => True
  | some a, some v => VR as a v
  | _, _ => False
theorem ciOk.mono {as as' : List Addr} (h : as <+: as') {a : Option AV} {v : Option Value} (x : ciOk as a v) : ciOk as' a v := by
  cases a <;> cases v <;> try exact x
  exact VR.mono h x
theorem cells_at {cm : Str → Option Value} {a : Nat} {as : List Addr} {ci : Str → Option AV} : ∀ {cs : List (Str × Nat)} {cells : List (Addr × Obj)}, CellsAre cm (cs.map fun p => (p.1, a + p.2)) cells → (∀ p ∈ cs, ciOk as (ci p.1) (cm p.1)) →
    Ads cells = cs.map (fun p => a + p.2) ∧ ∀ (j : Nat) ao, (cs.map fun p => AO.cell (ci p.1))[j]? = some ao → ∃ ad o, cells[j]? = some (ad, o) ∧ OR as ao o
  | [], _, h, _ => by
    cases h
    exact ⟨rfl, fun j ao e => by simp at e⟩
  | (x, k) :: cs, _, h, hv => by
    cases h with
    | @cons _ _ o _ cells ho hr =>
      obtain ⟨h1, h2⟩ := cells_at hr fun p hp => hv p (.tail _ hp)
      refine ⟨by simp [Ads] at h1 ⊢; exact h1, fun j ao e => ?_⟩
      cases j with
      | zero =>
        simp at e
        subst e
        refine ⟨_, o, rfl, ?_⟩
        have hx := hv (x, k) (.head _)
        dsimp only at hx
        cases hc : ci x with
        | none => rw [hc] at hx; cases hm : cm x with
          | none => rw [hm] at ho; exact ho
          | some v => rw [hm] at hx; exact hx.elim
        | some b => rw [hc] at hx; cases hm : cm x with
          | none => rw [hm] at hx; exact hx.elim
          | some v => rw [hm] at hx ho; exact ⟨v, ho, hx⟩
      | succ j =>
        simp only [List.map_cons, List.getElem?_cons_succ] at e
        obtain ⟨ad, o', e1, e2⟩ := h2 j ao e
        exact ⟨ad, o', by simpa using e1, e2⟩
theorem Rel.append {H H' : AH} {news cells : List (Addr × Obj)} (R : Rel H news) (hl : cells.length = H'.length) (h : ∀ (j : Nat) ao, H'[j]? = some ao → ∃ ad o, cells[j]? = some (ad, o) ∧ OR (Ads news ++ Ads cells) ao o) : Rel (H ++ H') (news ++ cells) := by
  have hm : Ads (news ++ cells) = Ads news ++ Ads cells := by simp
  refine ⟨by simp [R.len, hl], fun i ao e => ?_⟩
  rw [hm]
  by_cases hi : i < H.length
  · rw [List.getElem?_append_left hi] at e
    obtain ⟨b, o', e1, r⟩ := R.at_ i ao e
    exact ⟨b, o', by rw [List.getElem?_append_left (by rw [R.len]; exact hi)]; exact e1, r.mono (List.prefix_append _ _)⟩
  · have hl := R.len
    rw [List.getElem?_append_right (by omega)] at e ⊢
    rw [R.len]; exact h _ _ e
/-- what a def's cells begin with: the value of an argument, or nothing -/
noncomputable def cellInit (names : List Str) (l : List AV) (cs : List (Str × Nat)) : AH := cs.map fun p => .cell (argR names l p.1)
noncomputable def cellIx : Nat → List (Str × Nat) → List (Str × Nat)
  | _, [] => []
  | k, p :: r => (p.1, k) :: cellIx (k + 1) r
theorem cellIx_at {x : Str} : ∀ {cs : List (Str × Nat)} {k i : Nat}, (cellIx k cs).lookup x = some i → ∃ j o, i = k + j ∧ cs[j]? = some (x, o) ∧ cs.lookup x = some o
  | [], _, _, h => by simp [cellIx] at h
  | (y, o) :: cs, k, i, h => by
    simp only [cellIx, List.lookup_cons] at h
    by_cases hxy : (x == y) = true
    · rw [hxy] at h
      have := beq_iff_eq.mp hxy
      subst this
      cases h
      exact ⟨0, o, rfl, rfl, by simp⟩
    · simp only [hxy] at h
      obtain ⟨j, o', e1, e2, e3⟩ := cellIx_at h
      exact ⟨j + 1, o', by omega, by simpa using e2, by simp only [List.lookup_cons, hxy]; exact e3⟩
theorem lookup_shift {x : Str} {a o : Nat} : ∀ {cs : List (Str × Nat)}, cs.lookup x = some o → (cs.map fun p => (p.1, a + p.2)).lookup x = some (a + o)
  | [], h => by simp at h
  | (y, k) :: cs, h => by
    simp only [List.map_cons, List.lookup_cons] at h ⊢
    by_cases hxy : (x == y) = true
    · rw [hxy] at h ⊢; cases h; rfl
    · simp only [hxy] at h ⊢; exact lookup_shift h
noncomputable def cellBody (names : List Str) (cs : List (Str × Nat)) (mb : List AV → Nat → AM (Option AV)) (l : List AV) : AM (Option AV) := fun H => if l.length = names.length then mb l H.length (H ++ cellInit names l cs) else .stuck
theorem F_defC {names : List Str} {cs : List (Str × Nat)} {name qual : Str} {params : Arguments} {body : List Stmt} {scope : Scope} {dV kV doc pm cdv ct oc : Value} {an od : Option Addr} {osl : Array (Option Value)} {f : Addr} {mb : List AV → Nat → AM (Option AV)}
    (ho : c.K.lookup f = some ⟨oc, od, .func (fnOf name qual params body scope dV kV doc pm an cdv ct), osl⟩) (hcd : codeIn c.K cdv qual = true)
    (hb : ∀ (s : Shared) (vs : List Value), c.K.In s.heap → vs.length = names.length → BindsTo s (fnOf name qual params body scope dV kV doc pm an cdv ct) ⟨vs, []⟩ (names.zip vs))
    (hkind : ∀ vs : List Value, vs.length = names.length → ((names.zip vs).all fun y => scope.names.lookup y.1 == some .local || scope.names.lookup y.1 == some .cell) = true)
    (hnd : ((cellsFrom 0 scope.names []).map (·.1)).Nodup) (hcs : ∀ a, cellsFrom a scope.names [] = cs.map fun p => (p.1, a + p.2)) (hcn : (cs.map (·.2)).Nodup)
    (hbl : ∀ (as : List Addr) l vs L', VRs as l vs → l.length = names.length → LocR as (argR names l) (bindL (envOfC qual scope L' f cdv).kindOf (names.zip vs) fun _ => none) ∨
      (∀ x a, argR names l x = some a → (∀ p ∈ cs, p.1 ≠ x) → ∃ v, (bindL (envOfC qual scope L' f cdv).kindOf (names.zip vs) fun _ => none) x = some v ∧ VR as a v))
    (hbc : ∀ (as : List Addr) l vs L', VRs as l vs → l.length = names.length → ∀ p ∈ cs, ciOk as (argR names l p.1) (bindC (envOfC qual scope L' f cdv).kindOf (names.zip vs) (fun _ => none) p.1))
    (hco : scope.isCoroutine = false) (hgen : scope.isGenerator = false) (hk : scope.kind = .function)
    (hbody : ∀ l, l.length = names.length → ∀ d' u' gd' g L' k, SimS (c.callee d' u' gd' qual scope f cdv (cellsFrom (L' + 1) scope.names []) g L' (cellIx k cs)) lv (fun x => if cs.any (fun p => p.1 == x) then none else argR names l x) no body (mb l k)) :
    SimF c (lv + 1) ρ (.ref f) (fun l => do let o ← cellBody names cs mb l; pure (outOf o)) := by
  intro as0 l vs hv H news s mloc ok hp S Q E hr
  dsimp only at hr
  rw [run_bind] at hr
  unfold cellBody at hr
  have hdp := ok.hdp
  have hun := ok.hun
  split at hr
  · rename_i hn
    have hv' := hv.mono hp
    have hvn : vs.length = names.length := hv.len.trans hn
    refine wpAny_call (code_defC (env := c.env) ok.B S.F ok.X S.N ok.T rfl rfl ok.hke ho hcd (by show c.dp < 1000; omega) (hb s vs (fun a o e => S.F.keep _ _ (ok.X a o e)) hvn) (hkind vs hvn) hnd (fun g L' h₁ tk cells FG F' N' Y B' X' T' lt => ?_) hco hgen hk)
    rw [hcs] at Y
    obtain ⟨hA, hC⟩ := cells_at (as := Ads news) Y (hbc _ l vs L' hv' hn)
    have hlen : cells.length = cs.length := by
      have := congrArg List.length hA
      simpa [Ads] using this
    have ok' : (c.callee c.dp c.un c.gd qual scope f cdv (cellsFrom (L' + 1) scope.names []) g L' (cellIx H.length cs)).Ok lv := ⟨B', X', T', hk, by show c.dp + 1 + 8 * lv < 1000; omega, by show c.un + 3 + 100 * lv < 9900; omega, ok.XB, ok.TB⟩
    have pre : Ads news <+: Ads (news ++ cells) := by rw [show Ads (news ++ cells) = Ads news ++ Ads cells from List.map_append]; exact List.prefix_append _ _
    have pm : (cells ++ (news ++ c.own)).Perm ((news ++ cells) ++ c.own) := by
      rw [List.append_assoc, ← List.append_assoc, ← List.append_assoc]
      exact List.perm_append_comm.append_right _
    have S' : St (c.callee c.dp c.un c.gd qual scope f cdv (cellsFrom (L' + 1) scope.names []) g L' (cellIx H.length cs)) (fun x => if cs.any (fun p => p.1 == x) then none else argR names l x) (bindL (envOfC qual scope L' f cdv).kindOf (names.zip vs) fun _ => none) (H ++ cellInit names l cs) (news ++ cells) h₁ := by
      refine ⟨F', fun p hp => N' p (pm.mem_iff.mpr hp), ?_, S.R.append (by simp [cellInit, hlen]) ?_, ?_, ?_, ?_⟩
      · refine (pm.map (·.1)).nodup_iff.mp ?_
        rw [List.map_append]
        refine List.nodup_append.mpr ⟨?_, S.nd, fun x hx y hy e => ?_⟩
        · have : cells.map (·.1) = (cs.map (·.2)).map (fun k => L' + 1 + k) := by rw [List.map_map]; exact hA
          rw [this]
          exact List.Pairwise.map (fun k => L' + 1 + k) (fun a b h (e : L' + 1 + a = L' + 1 + b) => h (Nat.add_left_cancel e)) hcn
        · subst e
          rw [show cells.map (·.1) = _ from hA] at hx
          obtain ⟨p, _, rfl⟩ := List.mem_map.mp hx
          obtain ⟨q, hq, e⟩ := List.mem_map.mp hy
          have h3 : @LT.lt Nat _ q.1 L' := lt q hq
          have e' : @Eq Nat q.1 (@HAdd.hAdd Nat Nat Nat _ (@HAdd.hAdd Nat Nat Nat _ L' 1) p.2) := e
          omega
      · intro j ao e
        obtain ⟨ad, o, e1, e2⟩ := hC j ao e
        exact ⟨ad, o, e1, e2.mono (List.prefix_append _ _)⟩
      · intro x a e
        dsimp only at e
        split at e
        · cases e
        · rename_i hx
          rcases hbl _ l vs L' hv' hn with hh | hh
          · obtain ⟨v, h1, h2⟩ := hh x a e
            exact ⟨v, h1, h2.mono pre⟩
          · obtain ⟨v, h1, h2⟩ := hh x a e (fun p hp q => hx (List.any_eq_true.mpr ⟨p, hp, beq_iff_eq.mpr q⟩))
            exact ⟨v, h1, h2.mono pre⟩
      · intro x i e
        obtain ⟨j, o, rfl, e2, e3⟩ := cellIx_at e
        refine ⟨L' + 1 + o, ?_, ?_⟩
        · show (cellsFrom (L' + 1) scope.names []).lookup x = _
          rw [hcs]; exact lookup_shift e3
        · have hl : (Ads news).length = H.length := by simp [S.R.len]
          rw [show Ads (news ++ cells) = Ads news ++ Ads cells from List.map_append, ← hl, List.getElem?_append_right (by omega), Nat.add_sub_cancel_left, hA, List.getElem?_map, e2]; rfl
      · refine ⟨fun p hf => ?_, S.Fz.2.trans pre⟩
        obtain ⟨a, ns, e1, e2⟩ := S.Fz.1 p hf
        exact ⟨a, ns, idx_pre (List.prefix_append _ _) e1, idx_pre (List.prefix_append _ _) e2⟩
    refine hbody l hn c.dp c.un c.gd g L' H.length _ _ { s with heap := h₁, toks := tk } _ ok' S' _ _ (hr.mono (fun o H' gg => ?_) fun x H' bb => ?_)
    · cases o with
      | none =>
        intro mloc' h' tk' news' S'' p
        exact leaveK_ S''.F S''.N fun kF kN => gg .none h' tk' news' ⟨kF, kN, S''.nd, S''.R, S.Lc.mono (pre.trans p), fun x i e => (S.Cl x i e).imp fun _ q => ⟨q.1, idx_pre (pre.trans p) q.2⟩, S''.Fz⟩ (pre.trans p) rfl
      | some a =>
        intro v mloc' h' tk' news' S'' p r
        exact leaveK_ S''.F S''.N fun kF kN => gg v h' tk' news' ⟨kF, kN, S''.nd, S''.R, S.Lc.mono (pre.trans p), fun x i e => (S.Cl x i e).imp fun _ q => ⟨q.1, idx_pre (pre.trans p) q.2⟩, S''.Fz⟩ (pre.trans p) r
    · intro e h' tk' R'
      exact ErrR.leave (c := c) (c' := c.callee c.dp c.un c.gd qual scope f cdv (cellsFrom (L' + 1) scope.names []) g L' (cellIx H.length cs)) rfl rfl ⟨rfl, rfl, rfl⟩ FG.keep FG.ns (kts_self F') R' fun h'' R'' => bb e h'' tk' R''
  · exact hr.elim
end
end Mine
end

/-! ## S10 -/
section
open PySem PySem.W PySem.Calls PyProof.Rows
namespace Mine
section
variable {α β γ δ : Type} {c : Cx} {lv : Nat} {ρ ρ' ρe : Rho} {as0 : List Addr} {ev : Env} {m : Str → Option Value} {H : AH} {news : List (Addr × Obj)} {h h' : Heap}
/-! an object is made -/
noncomputable def aNew (C : Addr) (n : Nat) (mb : List AV → AM (Option AV)) (l : List AV) : AM AV := fun H => if l.length + 1 = n then
  (do let o ← mb (.loc (H.length + 1) :: l); (match o with | none => pure (.loc (H.length + 1)) | some _ => fun _ => .stuck : AM AV) : AM AV) (H ++ [.dict []] ++ [.inst C H.length]) else .stuck
theorem F_new {C : Addr} {names : List Str} {name qual : Str} {params : Arguments} {body : List Stmt} {scope : Scope} {dV kV doc pm cdv ct oc : Value} {an od : Option Addr} {osl : Array (Option Value)} {f : Addr} {mb : List AV → AM (Option AV)}
    (hm : makesIn c.K C = true) (hi : findIn c.K (.ref C) "__init__" = some (some (.ref f))) (hf : isFn c.K (.ref f) = true)
    (ho : c.K.lookup f = some ⟨oc, od, .func (fnOf name qual params body scope dV kV doc pm an cdv ct), osl⟩) (hcd : codeIn c.K cdv qual = true)
    (hb : ∀ (s : Shared) (vs : List Value), c.K.In s.heap → vs.length = names.length → BindsTo s (fnOf name qual params body scope dV kV doc pm an cdv ct) ⟨vs, []⟩ (names.zip vs)) (hloc : (names.all fun y => scope.names.lookup y == some .local) = true)
    (hco : scope.isCoroutine = false) (hgen : scope.isGenerator = false) (hk : scope.kind = .function) (hcell : (scope.names.all fun x => x.2 != .cell) = true)
    (hbody : ∀ l, l.length = names.length → ∀ d' u' gd' g L', SimS (c.callee d' u' gd' qual scope f cdv [] g L' []) lv (argR names l) no body (mb l)) :
    SimF c (lv + 1) ρ (.ref C) (aNew C names.length mb) := by
  intro as0 l vs hv H news s mloc ok hp S Q E hr
  unfold aNew at hr
  split at hr
  · rename_i hn
    rw [run_bind] at hr
    refine call_cls S.F ok.X S.N hm hi hf fun x dx h' F' N' l1 l2 => ?_
    obtain ⟨S1, p1, r1⟩ := S.push (ao := .dict []) F' (fun q hq => N' q (.tail _ hq)) l1 ⟨[], rfl, .nil⟩
    have lt2 : ∀ q ∈ (news ++ [(dx, dictOf [] 0)]) ++ c.own, q.1 < x := by
      intro q hq
      simp only [List.append_assoc, List.mem_append, List.mem_singleton] at hq
      rcases hq with hq | hq | hq
      · exact Nat.lt_trans (l1 q (List.mem_append_left _ hq)) l2
      · rw [hq]; exact l2
      · exact Nat.lt_trans (l1 q (List.mem_append_right _ hq)) l2
    have N2 : News c.h₀ c.L h' ((x, instObj C dx) :: ((news ++ [(dx, dictOf [] 0)]) ++ c.own)) := by
      intro q hq
      rcases List.mem_cons.mp hq with rfl | hq
      · exact N' _ (.head _)
      · simp only [List.append_assoc, List.mem_append, List.mem_singleton] at hq
        rcases hq with hq | hq | hq
        · exact N' q (.tail _ (.tail _ (List.mem_append_left _ hq)))
        · rw [hq]; exact N' _ (.tail _ (.head _))
        · exact N' q (.tail _ (.tail _ (List.mem_append_right _ hq)))
    have hdx : (Ads (news ++ [(dx, dictOf [] 0)]))[H.length]? = some dx := by
      obtain ⟨_, e, er⟩ := r1
      cases er; exact e
    obtain ⟨S2, p2, r2⟩ := S1.push (ao := .inst C H.length) F' N2 lt2 ⟨dx, idx_pre (List.prefix_append _ _) hdx, rfl⟩
    have hv2 : VRs (Ads (news ++ [(dx, dictOf [] 0)] ++ [(x, instObj C dx)])) (.loc (H.length + 1) :: l) (.ref x :: vs) := ⟨by have := r2; simp only [List.length_append, List.length_singleton] at this; exact this, hv.mono (hp.trans (p1.trans p2))⟩
    show codeAny _ ⟨none, c.dp + 1, some (c.env :: c.outer), c.gd, c.un + 1⟩ _ _ _
    refine code_sim (s := { s with heap := h' }) (lv := lv) (l := .loc (H.length + 1) :: l) ho hcd (hb _ _ (fun a o e => F'.keep _ _ (ok.X a o e)) (by rw [hv2.len]; exact hn)) (fun y hy => beq_iff_eq.mp (List.all_eq_true.mp hloc y.1 (List.of_mem_zip hy).1)) hco hgen hk (fun x hx => bne_iff_ne.mp (List.all_eq_true.mp hcell x hx))
      (fun g L' => hbody (.loc (H.length + 1) :: l) hn (c.dp + 1) (c.un + 1) c.gd g L') (by omega) (by omega) ok S2 hv2 hn (hr.mono (fun o H' gg => ?_) fun x H' bb => ?_)
    · intro v h'' tk news' S'' p r
      cases o with
      | some a => exact gg.elim
      | none =>
        cases r
        refine ⟨rfl, ?_⟩
        exact gg (.ref x) h'' tk news' S'' ((p1.trans p2).trans p) (hv2.1.mono p)
    · intro e h'' tk R
      exact bb e h'' tk R
  · exact hr.elim
/-! chains, values of tests, or of three -/
theorem B_val {e : PySem.Expr} {me : AM AV} (he : SimE c lv ρ ev e me) (hq : isTrue e ev (eval e ev) = (do let v ← eval e ev; standAt e.pos; holding [v] (truthy v)) := by rfl) : SimB c lv ρ ev e (do let a ← me; abool a) := by
  intro as0 H news s mloc ok hp S Q E hr
  refine isTrue_plain ?_ hq
  refine (he as0).step ok hp S hr fun a H₁ v h₁ tk news₁ S₁ p₁ v₁ hr => ?_
  exact (bool_W v₁).fin ok p₁ List.prefix_rfl S₁ hr
theorem E_and {x y : PySem.Expr} {pos : Pos} {mx my : AM AV} (hx : SimE c lv ρ ev x mx) (hy : SimE c lv ρ ev y my) : SimE c lv ρ ev (.BoolOp .And [x, y] pos) (do let a ← mx; let b ← abool a; if b then my else pure a) := by
  intro as0 H news s mloc ok hp S Q E hr
  refine BoolOp_and ?_
  refine (hx as0).step ok hp S hr fun a H₁ v h₁ tk news₁ S₁ p₁ v₁ hr => ?_
  refine (bool_W (lv := lv) v₁).step (s := { s with heap := h₁, toks := tk }) ok List.prefix_rfl S₁ hr fun b H₂ u h₂ tk₂ news₂ S₂ p₂ v₂ hr => ?_
  cases v₂
  cases b
  · exact hr v h₂ tk₂ news₂ S₂ (p₁.trans p₂) (v₁.mono p₂)
  · exact BoolOp_one ((hy (Ads news₂)).fin ok (p₁.trans p₂) List.prefix_rfl S₂ hr)
theorem B_or3 {x y z : PySem.Expr} {pos : Pos} {mx my mz : AM Bool} (hx : SimB c lv ρ ev x mx) (hy : SimB c lv ρ ev y my) (hz : SimB c lv ρ ev z mz) : SimB c lv ρ ev (.BoolOp .Or [x, y, z] pos) (do let b ← mx; if b then pure true else (do let b ← my; if b then pure true else mz)) := by
  intro as0 H news s mloc ok hp S Q E hr
  refine isTrue_or ?_
  refine (hx as0).step ok hp S hr fun a H₁ v h₁ tk news₁ S₁ p₁ v₁ hr => ?_
  cases v₁
  cases a
  · exact (B_or (pos := pos) hy hz (Ads news₁)).fin ok p₁ List.prefix_rfl S₁ hr
  · exact hr _ h₁ tk news₁ S₁ p₁ rfl
theorem B_chain {l r₁ r₂ : PySem.Expr} {op₁ op₂ : CmpOp} {pos : Pos} {ma mb mc : AM AV} (ha : SimE c (lv + 1) ρ ev l ma) (hb : SimE c (lv + 1) ρ ev r₁ mb) (hc : SimE c (lv + 1) ρ ev r₂ mc) (h0 : lastMarks [op₁, op₂] [r₁, r₂] = false := by rfl) :
    SimB c (lv + 1) ρ ev (.Compare l [op₁, op₂] [r₁, r₂] pos) (do let a ← ma; let b ← mb; let x ← acmp op₁ a b; let t ← abool x; if t then (do let d ← mc; let y ← acmp op₂ b d; abool y) else pure false) := by
  intro as0 H news s mloc ok hp S Q E hr
  refine isTrue_chain ?_ h0
  refine (ha as0).step ok hp S hr fun a H₁ v h₁ tk news₁ S₁ p₁ v₁ hr => ?_
  show wpAny _ _ (do
      let rv ← holding [v] (eval r₁ ev)
      standAt pos
      let c ← holding [v, rv] (compareOp op₁ v rv)
      release [v, rv] [c]
      if ← holding [c, rv] (truthy c) then testChain pos rv [op₂] [eval r₂ ev] else pure false) Q E _
  refine wpAny_bind (wpAny_holding ?_)
  refine (hb (Ads news₁)).step (s := { s with heap := h₁, toks := tk }) ok List.prefix_rfl S₁ hr fun b H₂ u h₂ tk₂ news₂ S₂ p₂ v₂ hr => ?_
  refine wpAny_bind (wpAny_standAt (wpAny_bind (wpAny_holding ?_)))
  refine (cmp_W (v₁.mono p₂) v₂).step (s := { s with heap := h₂, toks := tk₂ }) ok List.prefix_rfl S₂ hr fun x H₃ w h₃ tk₃ news₃ S₃ p₃ v₃ hr => ?_
  refine wpAny_bind ?_
  refine wpAny_release' ?_
  refine wpAny_bind (wpAny_holding ?_)
  refine (bool_W (lv := lv + 1) v₃).step (s := { s with heap := h₃, toks := tk₃ }) ok List.prefix_rfl S₃ hr fun t H₄ t' h₄ tk₄ news₄ S₄ p₄ v₄ hr => ?_
  cases v₄
  cases t
  · exact wpAny_pure (a := false) (hr false h₄ tk₄ news₄ S₄ (((p₁.trans p₂).trans p₃).trans p₄) rfl)
  · show wpAny _ _ (do
      let rv ← holding [u] (eval r₂ ev)
      standAt pos
      let c ← operate [u, rv] (compareOp op₂ u rv)
      holding [c] (truthy c)) Q E _
    refine wpAny_bind (wpAny_holding ?_)
    refine (hc (Ads news₄)).step (s := { s with heap := h₄, toks := tk₄ }) ok List.prefix_rfl S₄ hr fun d H₅ d' h₅ tk₅ news₅ S₅ p₅ v₅ hr => ?_
    refine wpAny_bind (wpAny_standAt (wpAny_bind ?_))
    refine wpAny_operate' ?_
    refine (cmp_W (v₂.mono ((p₃.trans p₄).trans p₅)) v₅).step (s := { s with heap := h₅, toks := tk₅ }) ok List.prefix_rfl S₅ hr fun x H₆ w h₆ tk₆ news₆ S₆ p₆ v₆ hr => ?_
    refine wpAny_holding ?_
    exact (bool_W v₆).fin ok (((((p₁.trans p₂).trans p₃).trans p₄).trans p₅).trans p₆) List.prefix_rfl S₆ hr
end
end Mine
end

/-! ## S11 -/
section
open PySem PySem.W PySem.Calls PyProof.Rows
namespace Mine
section
variable {α β γ δ σ : Type} {c : Cx} {lv : Nat} {ρ ρ' ρe : Rho} {as0 : List Addr} {ev : Env} {m : Str → Option Value} {H : AH} {news : List (Addr × Obj)} {h h' : Heap}
/-! suites that fall through -/
noncomputable def SimT (c : Cx) (lv : Nat) (ρ : Rho) (sts : List Stmt) (m : AM β) (ρ' : β → Rho) : Prop :=
  ∀ H news s mloc, c.Ok lv → St c ρ mloc H news s.heap → ∀ Q E, (m H).run (XG c ρ' news s Q) (BB c s E) → wpAny (model PG c.w) c.A (execs sts c.env) Q E s
theorem T_one {st : Stmt} {m₁ : AM β} {ρ' : β → Rho} (hx : SimX c lv ρ st m₁ ρ') : SimT c lv ρ [st] m₁ ρ' := by
  intro H news s mloc ok S Q E h
  refine wpAny_execs_cons (hx H news s mloc ok S _ E (h.mono (fun b H₁ g mloc₁ h₁ tk news₁ S₁ p₁ => ?_) fun _ _ h => h))
  exact wpAny_execs_nil (g mloc₁ h₁ tk news₁ S₁ p₁)
/-- weaken what is known of the names -/
theorem X_weak {st : Stmt} {m₁ : AM β} {ρ' ρ₂ : β → Rho} (hx : SimX c lv ρ st m₁ ρ') (hw : ∀ b x a, ρ₂ b x = some a → ρ' b x = some a) : SimX c lv ρ st m₁ ρ₂ := by
  intro H news s mloc ok S Q E h
  exact hx H news s mloc ok S Q E (h.mono (fun b H₁ g mloc₁ h₁ tk news₁ S₁ p₁ => g mloc₁ h₁ tk news₁ (S₁.weak (hw b)) p₁) fun _ _ h => h)
/-! for over a list of ints -/
noncomputable def loopM (mb : σ → Int → AM σ) : List Int → σ → AM σ
  | [], a => pure a
  | k :: r, a => do let b ← mb a k; loopM mb r b
noncomputable def forInts (mb : σ → Int → AM σ) (a₀ : σ) (o : AV) : AM σ := fun H => match o with
  | .loc j => match H[j]? with
    | some (.ints ns) => match loopM mb ns a₀ (H.set j (.frozen ns)) with
      | .ok b H' => .ok b (H'.set j (.ints ns))
      | _ => .stuck
    | _ => .stuck
  | _ => .stuck
theorem Res.run_ok {r : Res β} {b : β} {H : AH} (e : r = .ok b H) {G : β → AH → Prop} {B : Str → AH → Prop} : r.run G B = G b H := by rw [e]; rfl
abbrev Cx.turn (c : Cx) (own : List (Addr × Obj)) (frz : List (Nat × Obj)) : Cx := { c with own := own, frz := frz }
theorem Cx.Ok.turn (ok : c.Ok lv) {own : List (Addr × Obj)} {frz : List (Nat × Obj)} : (c.turn own frz).Ok lv := ⟨ok.B, ok.X, ok.T, ok.hke, ok.hdp, ok.hun, ok.XB, ok.TB⟩
/-- a state without its heap -/
structure Pre (c : Cx) (ρ : Rho) (m : Str → Option Value) (H : AH) (news : List (Addr × Obj)) : Prop where
  nd : (Ads (news ++ c.own)).Nodup
  R : Rel H news
  Lc : LocR (Ads news) ρ m
  Cl : ∀ x i, c.cix.lookup x = some i → ∃ a, c.cl.lookup x = some a ∧ (Ads news)[i]? = some a
  Fz : FzP c H news
theorem St.pre (S : St c ρ m H news h) : Pre c ρ m H news := ⟨S.nd, S.R, S.Lc, S.Cl, S.Fz⟩
theorem Pre.st (P : Pre c ρ m H news) (F : Fr c.h₀ c.L h m) (N : News c.h₀ c.L h (news ++ c.own)) : St c ρ m H news h := ⟨F, N, P.nd, P.R, P.Lc, P.Cl, P.Fz⟩
/-- into a turn: objects of the loop's own beside the ledger -/
theorem St.into {its : List (Addr × Obj)} {frz : List (Nat × Obj)} (S : St (c.turn c.own frz) ρ m H news h) (N : News c.h₀ c.L h (its ++ (news ++ c.own))) (nd : (Ads its).Nodup) (off : ∀ p ∈ news ++ c.own, ∀ q ∈ its, p.1 ≠ q.1) :
    St (c.turn (c.own ++ its) frz) ρ m H news h := by
  have pm : (its ++ (news ++ c.own)).Perm (news ++ (c.own ++ its)) := by
    exact List.perm_append_comm.trans (List.Perm.of_eq (List.append_assoc ..))
  refine ⟨S.F, fun p hp => N p (pm.mem_iff.mpr hp), ?_, S.R, S.Lc, S.Cl, S.Fz⟩
  refine (pm.map (·.1)).nodup_iff.mp ?_
  rw [List.map_append]
  refine List.nodup_append.mpr ⟨nd, S.nd, fun x hx y hy e => ?_⟩
  obtain ⟨q, hq, rfl⟩ := List.mem_map.mp hx
  obtain ⟨p, hp, rfl⟩ := List.mem_map.mp hy
  exact off p hp q hq e.symm
/-- out of a turn -/
theorem St.out {its : List (Addr × Obj)} {frz : List (Nat × Obj)} (S : St (c.turn (c.own ++ its) frz) ρ m H news h) :
    St (c.turn c.own frz) ρ m H news h ∧ News c.h₀ c.L h (its ++ (news ++ c.own)) ∧ ∀ p ∈ news ++ c.own, ∀ q ∈ its, p.1 ≠ q.1 := by
  have pm : (its ++ (news ++ c.own)).Perm (news ++ (c.own ++ its)) := by
    exact List.perm_append_comm.trans (List.Perm.of_eq (List.append_assoc ..))
  have nd := (pm.map (·.1)).nodup_iff.mpr S.nd
  rw [List.map_append] at nd
  obtain ⟨n1, n2, n3⟩ := List.nodup_append.mp nd
  refine ⟨⟨S.F, fun p hp => S.N p (pm.mem_iff.mp (List.mem_append_right _ hp)), n2, S.R, S.Lc, S.Cl, S.Fz⟩, fun p hp => S.N p (pm.mem_iff.mp hp), fun p hp q hq e => ?_⟩
  exact n3 q.1 (List.mem_map_of_mem hq) p.1 (List.mem_map_of_mem hp) e.symm
theorem fz_mem {c₁ : Cx} {j : Nat} {lo : Obj} {ax : Addr} {news' : List (Addr × Obj)} (S : St c₁ ρ m H news' h) (hf : (j, lo) ∈ c₁.frz) (hj : (Ads news')[j]? = some ax) : (ax, lo) ∈ news' := by
  obtain ⟨a, ns, e1, _⟩ := S.Fz.1 _ hf
  have : (Ads news')[j]? = some a := by rw [List.getElem?_map, e1]; rfl
  rw [hj] at this
  cases this
  exact List.mem_of_getElem? e1
theorem for_core {x : Str} {px : Pos} {body : List Stmt} {mb : σ → Int → AM σ} {ρσ : σ → Rho} {s : Shared} {Q : Flow → Shared → Prop} {I ax : Addr} {lo : Obj} {j : Nat} {news₀ : List (Addr × Obj)} (ok : c.Ok lv) (hx : c.cs.names.lookup x = some .local)
    (hbody : ∀ own frz a k, SimT (c.turn own frz) lv (rset (ρσ a) x (.int k)) body (mb a k) ρσ) (hj : (Ads news₀)[j]? = some ax) :
    ∀ (ks : List Int) (vs : List Value), IntsAre vs ks → ∀ (a : σ) (H : AH) (news : List (Addr × Obj)) (mloc : Str → Option Value), Pre (c.turn c.own ((j, lo) :: c.frz)) (ρσ a) mloc H news → (∀ p ∈ news ++ c.own, p.1 ≠ I) → Ads news₀ <+: Ads news →
      (loopM mb ks a H).run (fun b H' => ∀ mloc' h' tk news', St (c.turn c.own ((j, lo) :: c.frz)) (ρσ b) mloc' H' news' h' → Ads news₀ <+: Ads news' → Q .next { s with heap := h', toks := tk }) (fun _ _ => False) →
      ItemsRest PG c.w c.A (fun _ _ => False) c.h₀ c.env (.Name x px) body Q s [(I, "list_iterator")] [(ax, lo)] (vs.map .val) mloc (news ++ c.own) := by
  intro ks vs hi
  induction hi with
  | nil =>
    intro a H news mloc P off pre hr
    exact ItemsRest.zero fun h tk F N => hr mloc h tk news (P.st F N) pre
  | @cons k t vs ks _ ih =>
    intro a H news mloc P off pre hr
    refine ItemsRest.val fun h tk F => AllObj.cons fun o hc => AllObj.nil fun N => ?_
    refine PyProof.Rows.assign_Name (storeX_L F N (fun h' F' N' => ?_) ok.hke hx)
    have S0 := P.st F (fun p hp => N p (List.mem_append_right _ hp))
    have S1 : St (c.turn c.own ((j, lo) :: c.frz)) (rset (ρσ a) x (.int k)) _ H news h' := S0.store (v := .int k t) ⟨_, rfl⟩ F' (fun p hp => N' p (List.mem_append_right _ hp))
    have S2 := S1.into (its := [(I, o)]) N' (by simp) (fun p hp q hq => by rw [List.mem_singleton.mp hq]; exact off p hp)
    have hr' : ((mb a k H).run (fun b H' => (loopM mb ks b H').run (fun b H' => ∀ mloc' h' tk news', St (c.turn c.own ((j, lo) :: c.frz)) (ρσ b) mloc' H' news' h' → Ads news₀ <+: Ads news' → Q .next { s with heap := h', toks := tk }) (fun _ _ => False)) (fun _ _ => False)) := by
      rw [← run_bind]; exact hr
    refine hbody (c.own ++ [(I, o)]) ((j, lo) :: c.frz) a k H news _ _ ok.turn S2 _ _ (hr'.mono (fun b H₁ g mloc₁ h₁ tk₁ news₁ S₃ p₁ => ?_) fun _ _ f => f.elim)
    obtain ⟨S₄, N₄, off₄⟩ := S₃.out
    refine ⟨h₁, tk₁, mloc₁, news₁ ++ c.own, rfl, S₄.F, N₄, off₄, ⟨List.mem_append_left _ (fz_mem S₄ (.head _) (idx_pre (pre.trans p₁) hj)), trivial⟩, ?_⟩
    exact ih b H₁ news₁ mloc₁ S₄.pre (fun p hp => off₄ p hp _ (.head _)) (pre.trans p₁) g
theorem St.freeze {j : Nat} {ax : Addr} {lo : Obj} {ns : List Int} (S : St c ρ m H news h) (hj : news[j]? = some (ax, lo)) (hH : H[j]? = some (.ints ns)) : St (c.turn c.own ((j, lo) :: c.frz)) ρ m (H.set j (.frozen ns)) news h := by
  have hi : j < H.length := (List.getElem?_eq_some_iff.mp hH).1
  refine ⟨S.F, S.N, S.nd, ⟨by simp [S.R.len], fun i ao e => ?_⟩, S.Lc, S.Cl, fun p hp => ?_, S.Fz.2⟩
  · rw [List.getElem?_set] at e
    by_cases hij : j = i
    · subst hij
      rw [if_pos rfl, if_pos hi] at e
      cases e
      obtain ⟨a', o', e1', r'⟩ := S.R.at_ j _ hH
      rw [hj] at e1'; cases e1'
      obtain ⟨vs', n', rfl, hi'⟩ := r'
      exact ⟨ax, _, hj, rfl, vs', n', rfl, hi'⟩
    · rw [if_neg hij] at e
      exact S.R.at_ i ao e
  · rcases List.mem_cons.mp hp with rfl | hp
    · exact ⟨ax, ns, hj, by rw [List.getElem?_set_self hi]⟩
    · obtain ⟨a, ns', e1, e2⟩ := S.Fz.1 p hp
      have hne : j ≠ p.1 := fun q => by subst q; rw [hH] at e2; cases e2
      exact ⟨a, ns', e1, by rw [List.getElem?_set_ne hne]; exact e2⟩
theorem St.melt {j : Nat} {lo : Obj} {ns : List Int} (S : St (c.turn c.own ((j, lo) :: c.frz)) ρ m H news h) (ho : OR [] (.ints ns) lo) (hz : ∀ p ∈ c.frz, p.1 ≠ j) : St c ρ m (H.set j (.ints ns)) news h := by
  obtain ⟨ax, ns', e1, e2⟩ := S.Fz.1 (j, lo) (.head _)
  have hi : j < H.length := (List.getElem?_eq_some_iff.mp e2).1
  refine ⟨S.F, S.N, S.nd, ⟨by simp [S.R.len], fun i ao e => ?_⟩, S.Lc, S.Cl, fun p hp => ?_, S.Fz.2⟩
  · rw [List.getElem?_set] at e
    by_cases hij : j = i
    · subst hij
      rw [if_pos rfl, if_pos hi] at e
      cases e
      exact ⟨ax, lo, e1, ho.mono List.nil_prefix⟩
    · rw [if_neg hij] at e
      exact S.R.at_ i ao e
  · obtain ⟨a, ns', e1, e2⟩ := S.Fz.1 p (.tail _ hp)
    exact ⟨a, ns', e1, by rw [List.getElem?_set_ne (fun q => hz p hp q.symm)]; exact e2⟩
theorem forInts_run {mb : σ → Int → AM σ} {a₀ : σ} {o : AV} {G : σ → AH → Prop} {B : Str → AH → Prop} (h : (forInts mb a₀ o H).run G B) : ∃ j ns, o = .loc j ∧ H[j]? = some (.ints ns) ∧ (loopM mb ns a₀ (H.set j (.frozen ns))).run (fun b H' => G b (H'.set j (.ints ns))) (fun _ _ => False) := by
  unfold forInts at h
  cases o <;> try exact h.elim
  rename_i j
  dsimp only at h
  split at h
  · rename_i ns e
    refine ⟨j, ns, rfl, e, ?_⟩
    split at h
    · rename_i b H' e'
      rw [Res.run_ok e']; exact h
    · exact h.elim
  · exact h.elim
noncomputable def noErr (m : AM β) : AM β := fun H => match m H with
  | .err _ _ => .stuck
  | r => r
theorem noErr_run {m : AM β} {G : β → AH → Prop} {B : Str → AH → Prop} (h : (noErr m H).run G B) : (m H).run G (fun _ _ => False) := by
  unfold noErr at h
  cases e : m H with
  | ok b H' => rw [e] at h; exact h
  | err x H' => rw [e] at h; exact h.elim
  | stuck => rw [e] at h; exact h.elim
theorem X_for {x : Str} {px pos : Pos} {iter : PySem.Expr} {body : List Stmt} {mi : AM AV} {mb : σ → Int → AM σ} {ρσ : σ → Rho} (a₀ : σ) (hi : SimE c lv ρ c.env iter mi) (hx : c.cs.names.lookup x = some .local)
    (hbody : ∀ own frz a k, SimT (c.turn own frz) lv (rset (ρσ a) x (.int k)) body (mb a k) ρσ) (hρ : ∀ y v, ρσ a₀ y = some v → ρ y = some v)
    (hs : ∀ x, foldedSetIterable iter c.env x = pure x := by intro _; rfl) :
    SimX c lv ρ (.For (.Name x px) iter body [] pos) (do let o ← noErr mi; forInts mb a₀ o) ρσ := by
  intro H news s mloc ok S Q E hr
  rw [run_bind] at hr
  refine wpAny_mono (E := fun _ _ => False) (Q := Q) ?_ (fun _ _ h => h) fun _ _ h => h.elim
  refine For_turns (env := c.env) S.F ?_ hs PassesOwn.never
  refine hi [] H news s mloc ok List.nil_prefix S _ _ ((noErr_run hr).mono (fun o H₁ hr v h₁ tk news₁ S₁ p₁ v₁ => ?_) fun _ _ f => f.elim)
  obtain ⟨j, ns, rfl, e1, hr⟩ := forInts_run hr
  obtain ⟨ax, lo, rfl, m1, i1, hO⟩ := S₁.at e1 v₁
  obtain ⟨vs, n, rfl, hv⟩ := hO
  have hj : (Ads news₁)[j]? = some ax := by rw [List.getElem?_map, i1]; rfl
  have hz : ∀ p ∈ c.frz, p.1 ≠ j := fun p hp q => by
    obtain ⟨a, ns', _, e2⟩ := S₁.Fz.1 p hp
    rw [q, e1] at e2; cases e2
  have S₂ := (S₁.weak hρ).freeze i1 e1
  refine iter_listTurns (env := c.env) rfl S₁.F S₁.N m1 rfl rfl fun I hI => ?_
  refine for_core (news₀ := news₁) ok hx hbody hj ns vs hv a₀ _ news₁ mloc S₂.pre (fun p hp => Nat.ne_of_lt (hI p hp)) List.prefix_rfl (hr.mono (fun b H' g mloc' h' tk' news' S' p' => ?_) fun _ _ f => f)
  exact g mloc' h' tk' news' (S'.melt ⟨vs, n, rfl, hv⟩ hz) (p₁.trans p')
end
end Mine
end

/-! ## S12 -/
section
open PySem PySem.W PySem.Calls PyProof.Rows
namespace Mine
section
variable {α β γ δ σ : Type} {c : Cx} {lv : Nat} {ρ ρ' ρe : Rho} {as0 : List Addr} {ev : Env} {m : Str → Option Value} {H : AH} {news : List (Addr × Obj)} {h h' : Heap}
/-! for over enumerate of a list of ints -/
noncomputable def loopE (mb : σ → Int → Int → AM σ) : Nat → List Int → σ → AM σ
  | _, [], a => pure a
  | i, k :: r, a => do let b ← mb a i k; loopE mb (i + 1) r b
noncomputable def forEnum (mb : σ → Int → Int → AM σ) (a₀ : σ) (o : AV) : AM σ := fun H => match o with
  | .loc j => match H[j]? with
    | some (.ints ns) => match loopE mb 0 ns a₀ (H.set j (.frozen ns)) with
      | .ok b H' => .ok b (H'.set j (.ints ns))
      | _ => .stuck
    | _ => .stuck
  | _ => .stuck
theorem enum_core {x y : Str} {k : Nat} {px py tp : Pos} {body : List Stmt} {mb : σ → Int → Int → AM σ} {ρσ : σ → Rho} {s : Shared} {Q : Flow → Shared → Prop} {I ax : Addr} {lo : Obj} {j : Nat} {news₀ : List (Addr × Obj)} (ok : c.Ok lv) (hx : c.cs.names.lookup x = some .local) (hy : c.cs.names.lookup y = some .local)
    (hbody : ∀ own frz a i k, SimT (c.turn own frz) lv (rset (rset (ρσ a) x (.int i)) y (.int k)) body (mb a i k) ρσ) (hj : (Ads news₀)[j]? = some ax) :
    ∀ (ks : List Int) (vs : List Value), IntsAre vs ks → ∀ (i : Nat) (a : σ) (H : AH) (news : List (Addr × Obj)) (mloc : Str → Option Value), Pre (c.turn c.own ((j, lo) :: c.frz)) (ρσ a) mloc H news → (∀ p ∈ news ++ c.own, p.1 ≠ I + 1 ∧ p.1 ≠ I) → Ads news₀ <+: Ads news →
      (loopE mb i ks a H).run (fun b H' => ∀ mloc' h' tk news', St (c.turn c.own ((j, lo) :: c.frz)) (ρσ b) mloc' H' news' h' → Ads news₀ <+: Ads news' → Q .next { s with heap := h', toks := tk }) (fun _ _ => False) →
      ItemsRest PG c.w c.A (fun _ _ => False) c.h₀ c.env (.Tuple [.Name x px, .Name y py] k tp) body Q s [(I + 1, "enumerate"), (I, "list_iterator")] [(ax, lo)] (enumItems i vs) mloc (news ++ c.own) := by
  intro ks vs hi
  induction hi with
  | nil =>
    intro i a H news mloc P off pre hr
    exact ItemsRest.zero fun h tk F N => hr mloc h tk news (P.st F N) pre
  | @cons n t vs ks _ ih =>
    intro i a H news mloc P off pre hr
    refine ItemsRest.pair fun T u h tk hT F => AllObj.cons fun o₁ c₁ => AllObj.cons fun o₂ c₂ => AllObj.nil fun N => ?_
    refine unpackN_ F N hT rfl rfl rfl fun h₁ F₁ N₁ => ?_
    refine assignInOrder_cons (PyProof.Rows.assign_Name (storeX_L F₁ N₁ (fun h₂ F₂ N₂ => ?_) ok.hke hx))
    refine assignInOrder_cons (PyProof.Rows.assign_Name (storeX_L F₂ N₂ (fun h₃ F₃ N₃ => ?_) ok.hke hy))
    refine assignInOrder_nil ?_
    have sb : ∀ {h'}, News c.h₀ c.L h' ([(I + 1, o₁), (I, o₂)] ++ (news ++ c.own)) → News c.h₀ c.L h' (news ++ c.own) := fun N p hp => N p (List.mem_append_right _ hp)
    have S0 := P.st F₁ (sb N₁)
    have S1 : St (c.turn c.own ((j, lo) :: c.frz)) (rset (ρσ a) x (.int i)) _ H news h₂ := S0.store (v := .int i u) ⟨_, rfl⟩ F₂ (sb N₂)
    have S1' : St (c.turn c.own ((j, lo) :: c.frz)) (rset (rset (ρσ a) x (.int i)) y (.int n)) _ H news h₃ := S1.store (v := .int n t) ⟨_, rfl⟩ F₃ (sb N₃)
    have hne : (I + 1 : Nat) ≠ I := Nat.succ_ne_self _
    have S2 := S1'.into (its := [(I + 1, o₁), (I, o₂)]) N₃ (by simp [Ads]) (fun p hp q hq => by
      rcases List.mem_cons.mp hq with rfl | hq
      · exact (off p hp).1
      · rw [List.mem_singleton.mp hq]; exact (off p hp).2)
    have hr' : ((mb a i n H).run (fun b H' => (loopE mb (i + 1) ks b H').run (fun b H' => ∀ mloc' h' tk news', St (c.turn c.own ((j, lo) :: c.frz)) (ρσ b) mloc' H' news' h' → Ads news₀ <+: Ads news' → Q .next { s with heap := h', toks := tk }) (fun _ _ => False)) (fun _ _ => False)) := by
      rw [← run_bind]; exact hr
    refine hbody (c.own ++ [(I + 1, o₁), (I, o₂)]) ((j, lo) :: c.frz) a i n H news _ _ ok.turn S2 _ _ (hr'.mono (fun b H₁ g mloc₁ h₁ tk₁ news₁ S₃ p₁ => ?_) fun _ _ f => f.elim)
    obtain ⟨S₄, N₄, off₄⟩ := S₃.out
    refine ⟨h₁, tk₁, mloc₁, news₁ ++ c.own, rfl, S₄.F, N₄, off₄, ⟨List.mem_append_left _ (fz_mem S₄ (.head _) (idx_pre (pre.trans p₁) hj)), trivial⟩, ?_⟩
    exact ih (i + 1) b H₁ news₁ mloc₁ S₄.pre (fun p hp => ⟨off₄ p hp _ (.head _), off₄ p hp _ (.tail _ (.head _))⟩) (pre.trans p₁) g
theorem forEnum_run {mb : σ → Int → Int → AM σ} {a₀ : σ} {o : AV} {G : σ → AH → Prop} {B : Str → AH → Prop} (h : (forEnum mb a₀ o H).run G B) : ∃ j ns, o = .loc j ∧ H[j]? = some (.ints ns) ∧ (loopE mb 0 ns a₀ (H.set j (.frozen ns))).run (fun b H' => G b (H'.set j (.ints ns))) (fun _ _ => False) := by
  unfold forEnum at h
  cases o <;> try exact h.elim
  rename_i j
  dsimp only at h
  split at h
  · rename_i ns e
    refine ⟨j, ns, rfl, e, ?_⟩
    split at h
    · rename_i b H' e'
      rw [Res.run_ok e']; exact h
    · exact h.elim
  · exact h.elim
theorem X_enum {x y f : Str} {k : Nat} {px py tp np cp pos : Pos} {e : PySem.Expr} {body : List Stmt} {mi : AM AV} {mb : σ → Int → Int → AM σ} {ρσ : σ → Rho} (a₀ : σ) (hn : NameV c lv ρ c.env f (.type "enumerate")) (hi : SimE c lv ρ c.env e mi) (hx : c.cs.names.lookup x = some .local) (hy : c.cs.names.lookup y = some .local)
    (hbody : ∀ own frz a i k, SimT (c.turn own frz) lv (rset (rset (ρσ a) x (.int i)) y (.int k)) body (mb a i k) ρσ) (hρ : ∀ y v, ρσ a₀ y = some v → ρ y = some v)
    (hq : eval (.Call (.Name f np) [e] [] cp) c.env = (do callWith cp (← eval (.Name f np) c.env) [] (backTo cp (starEach [e] c.env)) (backToKw cp (keywordEach [] c.env))) := by rfl)
    (hst : starEach [e] c.env = (false, eval e c.env) :: starEach [] c.env := by rfl)
    (hs : ∀ x, foldedSetIterable (.Call (.Name f np) [e] [] cp) c.env x = pure x := by intro _; rfl) :
    SimX c lv ρ (.For (.Tuple [.Name x px, .Name y py] k tp) (.Call (.Name f np) [e] [] cp) body [] pos) (do let o ← noErr mi; forEnum mb a₀ o) ρσ := by
  intro H news s mloc ok S Q E hr
  rw [run_bind] at hr
  refine wpAny_mono (E := fun _ _ => False) (Q := Q) ?_ (fun _ _ h => h) fun _ _ h => h.elim
  refine For_turns (env := c.env) S.F ?_ hs PassesOwn.never
  refine Call_ ?_ hq
  refine hn [] np H news s mloc ok List.nil_prefix S _ _ (fun v h₁ tk₁ news₁ S₁ p₁ e₁ => ?_)
  subst e₁
  refine PyProof.Rows.callWith_type1 (spliced_more ?_ hst) hst rfl
  refine hi [] H news₁ _ mloc ok List.nil_prefix S₁ _ _ ((noErr_run hr).mono (fun o H₁ hr v h₁ tk news₂ S₂ p₂ v₂ => ?_) fun _ _ f => f.elim)
  refine spliced_none ?_
  obtain ⟨j, ns, rfl, e1, hr⟩ := forEnum_run hr
  obtain ⟨ax, lo, rfl, m1, i1, hO⟩ := S₂.at e1 v₂
  obtain ⟨vs, n, rfl, hv⟩ := hO
  have hj : (Ads news₂)[j]? = some ax := by rw [List.getElem?_map, i1]; rfl
  have hz : ∀ p ∈ c.frz, p.1 ≠ j := fun p hp q => by
    obtain ⟨a, ns', _, e2⟩ := S₂.Fz.1 p hp
    rw [q, e1] at e2; cases e2
  have S₃ := (S₂.weak hρ).freeze i1 e1
  refine ktu_enum (env := c.env) rfl S₂.F S₂.N m1 rfl rfl rfl fun I hI => ?_
  refine enum_core (news₀ := news₂) ok hx hy hbody hj ns vs hv 0 a₀ _ news₂ mloc S₃.pre (fun p hp => ⟨Nat.ne_of_lt (Nat.lt_succ_of_lt (hI p hp)), Nat.ne_of_lt (hI p hp)⟩) List.prefix_rfl (hr.mono (fun b H' g mloc' h' tk' news' S' p' => ?_) fun _ _ f => f)
  exact g mloc' h' tk' news' (S'.melt ⟨vs, n, rfl, hv⟩ hz) ((p₁.trans p₂).trans p')
/-! for over a written tuple -/
noncomputable def loopR (mb : AV → AM (Option AV)) : List AV → AM (Option AV)
  | [] => pure none
  | a :: r => do let o ← mb a; after o (loopR mb r)
theorem tup_core {x : Str} {px : Pos} {body : List Stmt} {mb : AV → AM (Option AV)} {s : Shared} {Q : Flow → Shared → Prop} {I T : Addr} {lo : Obj} {news₀ : List (Addr × Obj)} (ok : c.Ok lv) (hx : c.cs.names.lookup x = some .local)
    (hbody : ∀ own frz a, SimS (c.turn own frz) lv (rset ρ x a) ρ body (mb a)) :
    ∀ (l : List AV) (vs : List Value), VRs (Ads news₀) l vs → ∀ (H : AH) (news : List (Addr × Obj)) (mloc : Str → Option Value), Pre (c.turn (c.own ++ [(T, lo)]) c.frz) ρ mloc H news → (∀ p ∈ news ++ (c.own ++ [(T, lo)]), p.1 ≠ I) → Ads news₀ <+: Ads news →
      (loopR mb l H).run (SG c ρ news₀ s Q) (fun _ _ => False) →
      ItemsRest PG c.w c.A (fun _ _ => False) c.h₀ c.env (.Name x px) body Q s [(I, "tuple_iterator")] [(T, lo)] (vs.map .val) mloc (news ++ (c.own ++ [(T, lo)]))
  | [], [], _, H, news, mloc, P, off, pre, hr => ItemsRest.zero fun h tk F N => hr mloc h tk news (by
      have S := P.st F N
      exact (St.out (c := c) (frz := c.frz) S).1) pre
  | a :: l, v :: vs, hv, H, news, mloc, P, off, pre, hr => by
    refine ItemsRest.val fun h tk F => AllObj.cons fun o hc => AllObj.nil fun N => ?_
    refine PyProof.Rows.assign_Name (storeX_L F N (fun h' F' N' => ?_) ok.hke hx)
    have S0 := P.st F (fun p hp => N p (List.mem_append_right _ hp))
    have S1 : St (c.turn (c.own ++ [(T, lo)]) c.frz) (rset ρ x a) _ H news h' := S0.store (hv.1.mono pre) F' (fun p hp => N' p (List.mem_append_right _ hp))
    have S2 := St.into (c := c.turn (c.own ++ [(T, lo)]) c.frz) (frz := c.frz) (its := [(I, o)]) S1 N' (by simp) (fun p hp q hq => by rw [List.mem_singleton.mp hq]; exact off p hp)
    have hr' : ((mb a H).run (fun o H' => (after o (loopR mb l) H').run (SG c ρ news₀ s Q) (fun _ _ => False)) (fun _ _ => False)) := by
      rw [← run_bind]; exact hr
    refine hbody ((c.own ++ [(T, lo)]) ++ [(I, o)]) c.frz a H news _ _ ok.turn S2 _ _ (hr'.mono (fun b H₁ g => ?_) fun _ _ f => f.elim)
    cases b with
    | some b =>
      intro v₁ mloc₁ h₁ tk₁ news₁ S₃ p₁ r₁
      have S₄ := (St.out (c := c.turn (c.own ++ [(T, lo)]) c.frz) (frz := c.frz) S₃).1
      have S₅ := (St.out (c := c) (frz := c.frz) S₄).1
      exact g v₁ mloc₁ h₁ tk₁ news₁ S₅ (pre.trans p₁) r₁
    | none =>
      intro mloc₁ h₁ tk₁ news₁ S₃ p₁
      obtain ⟨S₄, N₄, off₄⟩ := St.out (c := c.turn (c.own ++ [(T, lo)]) c.frz) (frz := c.frz) S₃
      refine ⟨h₁, tk₁, mloc₁, news₁ ++ (c.own ++ [(T, lo)]), rfl, S₄.F, N₄, off₄, ⟨List.mem_append_right _ (List.mem_append_right _ (.head _)), trivial⟩, ?_⟩
      exact tup_core ok hx hbody l vs hv.2 H₁ news₁ mloc₁ S₄.pre (fun p hp => off₄ p hp _ (.head _)) (pre.trans p₁) g
noncomputable def loopT (mb : AV → AM (Option AV)) (l : List AV) : AM (Option AV) := fun H => if l.length ≤ 10 then loopR mb l H else .stuck
theorem S_forTup {x : Str} {k : Nat} {px tp pos : Pos} {es : List PySem.Expr} {body rest : List Stmt} {ml : AM (List AV)} {mb : AV → AM (Option AV)} {mr : AM (Option AV)} (hl : SimL c lv ρ c.env es ml) (hx : c.cs.names.lookup x = some .local)
    (hbody : ∀ own frz a, SimS (c.turn own frz) lv (rset ρ x a) ρ body (mb a)) (hr : SimS c lv ρ ρe rest mr) (hs : ∀ x, foldedSetIterable (.Tuple es k tp) c.env x = pure x := by intro _; rfl) :
    SimS c lv ρ ρe (.For (.Name x px) (.Tuple es k tp) body [] pos :: rest) (do let l ← noErr ml; let r ← noErr (loopT mb l); after r mr) := by
  intro H news s mloc ok S Q E hh
  rw [run_bind] at hh
  refine wpAny_execs_cons ?_
  refine wpAny_mono (E := fun _ _ => False) (Q := fun f s' => match f with | .next => wpAny (model PG c.w) c.A (execs rest c.env) Q E s' | f => Q f s') ?_ (fun _ _ h => h) fun _ _ h => h.elim
  refine For_turns (env := c.env) S.F ?_ hs PassesOwn.never
  refine Tuple_ ?_
  refine hl [] tp H news s mloc ok List.nil_prefix S _ _ ((noErr_run hh).mono (fun l H₁ hh vs h₁ tk news₁ S₁ p₁ v₁ => ?_) fun _ _ f => f.elim)
  rw [run_bind] at hh
  have hh := noErr_run hh
  unfold loopT at hh
  split at hh
  · rename_i hc
    have hz : (10 : Nat) ≤ sizeLine := Nat.le_of_ble_eq_true rfl
    refine newTuple_N S₁.F S₁.N (fun h₂ F₂ N₂ => ?_) (by rw [v₁.len]; omega)
    have S₁' : St (c.turn c.own c.frz) ρ mloc H₁ news₁ h₂ := ⟨F₂, fun p hp => N₂ p (.tail _ hp), S₁.nd, S₁.R, S₁.Lc, S₁.Cl, S₁.Fz⟩
    have S₂ := St.into (c := c) (frz := c.frz) (its := [(h₁.objs.size, { cls := .type "tuple", data := .seq vs.toArray })]) S₁' N₂ (by simp) (fun p hp q hq e => by
      rw [List.mem_singleton.mp hq] at e
      exact absurd (Heap.lt_size (S₁.N p hp).1) (by rw [e]; exact Nat.lt_irrefl _))
    refine iter_tupTurns (env := c.env) rfl S₂.F S₂.N (List.mem_append_right _ (List.mem_append_right _ (.head _))) rfl rfl fun I hI => ?_
    refine tup_core (news₀ := news₁) ok hx hbody l vs v₁ H₁ news₁ mloc S₂.pre (fun p hp => Nat.ne_of_lt (hI p hp)) List.prefix_rfl (hh.mono (fun r H' g => ?_) fun _ _ f => f)
    cases r with
    | some a => exact fun v mloc' h' tk' news' S' p' r' => g v mloc' h' tk' news' S' (p₁.trans p') r'
    | none => exact fun mloc' h' tk' news' S' p' => hr.fin ok (p₁.trans p') S' g
  · exact hh.elim
/-! two names at once -/
noncomputable def pair : List AV → AM (AV × AV)
  | [a, b] => pure (a, b)
  | _ => fun _ => .stuck
theorem pair_run {l : List AV} {G : AV × AV → AH → Prop} {B : Str → AH → Prop} (h : (pair l H).run G B) : ∃ a b, l = [a, b] ∧ G (a, b) H := by
  match l, h with
  | [a, b], h => exact ⟨a, b, rfl, h⟩
  | [], h => exact h.elim
  | [_], h => exact h.elim
  | _ :: _ :: _ :: _, h => exact h.elim
theorem X_swap {x y : Str} {k k' : Nat} {px py tp tp' pos : Pos} {es : List PySem.Expr} {ml : AM (List AV)} (hl : SimL c lv ρ c.env es ml) (hx : c.cs.names.lookup x = some .local) (hy : c.cs.names.lookup y = some .local)
    (hs : swapsWithSole [.Tuple [.Name x px, .Name y py] k tp] (.Tuple es k' tp') pos.line c.env = pure false := by rfl)
    (hw : swappedStores [.Tuple [.Name x px, .Name y py] k tp] (.Tuple es k' tp') c.env = pure (some [x, y])) :
    SimX c lv ρ (.Assign [.Tuple [.Name x px, .Name y py] k tp] (.Tuple es k' tp') pos) (do let l ← ml; pair l) (fun p => rset (rset ρ y p.2) x p.1) := by
  intro H news s mloc ok S Q E hr
  refine Assign_Tuple_swapped ?_ hs hw
  refine Tuple_ ?_
  refine (hl [] tp').step ok List.nil_prefix S hr fun l H₁ vs h₁ tk news₁ S₁ p₁ v₁ hr => ?_
  obtain ⟨a, b, rfl, g⟩ := pair_run hr
  obtain ⟨v, u, rfl, va, vb⟩ := v₁.two
  refine newTuple_N S₁.F S₁.N (fun h₂ F₂ N₂ => ?_) (Nat.le_of_ble_eq_true rfl)
  have hT : IsTup h₂ h₁.objs.size #[v, u] := ⟨_, (N₂ _ (.head _)).1, rfl, 0, rfl⟩
  refine unpackItemsN_ F₂ N₂ hT rfl rfl fun h₃ F₃ N₃ => ?_
  have sb : ∀ {h'} {T : Addr × Obj}, News c.h₀ c.L h' (T :: (news₁ ++ c.own)) → News c.h₀ c.L h' (news₁ ++ c.own) := fun N p hp => N p (.tail _ hp)
  have S3 : St c ρ mloc H₁ news₁ h₃ := S₁.pre.st F₃ (sb N₃)
  refine assignInOrder_cons (bindName_ (storeX_L F₃ N₃ (fun h₄ F₄ N₄ => ?_) ok.hke hy))
  have S4 := S3.store vb F₄ (sb N₄)
  refine assignInOrder_cons (bindName_ (storeX_L F₄ N₄ (fun h₅ F₅ N₅ => ?_) ok.hke hx))
  have S5 := S4.store va F₅ (sb N₅)
  refine assignInOrder_nil ?_
  exact g _ h₅ _ news₁ S5 p₁
/-! two targets of other kinds -/
abbrev SimA (c : Cx) (lv : Nat) (ρ : Rho) (t : PySem.Expr) (mA : AV → AM Unit) : Prop := ∀ as0 a v, VR as0 a v → W c lv ρ as0 (assign t c.env v) (fun _ _ _ => True) (mA a)
theorem A_attr {o : PySem.Expr} {x : Str} {pos : Pos} {mo : AM AV} (C : Addr) (ho : SimE c lv ρ c.env o mo) (hs : SetOk c.K C x) : SimA c lv ρ (.Attribute o x pos) (fun a => do let r ← mo; setF C x r a) := by
  intro as0 a v ha H news s mloc ok hp S Q E hr
  rw [PySem.assign_Attribute]
  refine wpAny_bind (wpAny_holding ?_)
  refine (ho as0).step ok hp S hr fun r H₁ u h₁ tk news₁ S₁ p₁ v₁ hr => ?_
  refine wpAny_bind (wpAny_standAt (wpAny_bind (wpAny_holding ?_)))
  refine setF_W (lv := lv) hs v₁ (ha.mono (hp.trans p₁)) H₁ news₁ _ mloc ok List.prefix_rfl S₁ _ E (hr.mono (fun _ H₂ g _ h₂ tk₂ news₂ S₂ p₂ _ => ?_) fun _ _ h => h)
  exact wpAny_release' (g _ h₂ tk₂ news₂ S₂ (p₁.trans p₂) trivial)
theorem A_cell {x : Str} {pos : Pos} {i : Nat} (hi : c.cix.lookup x = some i) (hx : c.cs.names.lookup x = some .cell) : SimA c lv ρ (.Name x pos) (fun a => setCell i a) := by
  intro as0 a v ha H news s mloc ok hp S Q E hr
  exact PyProof.Rows.assign_Name (cellst_W (lv := lv) hi hx ha H news s mloc ok hp S Q E hr)
theorem X_two {t u : PySem.Expr} {k k' : Nat} {tp tp' pos : Pos} {es : List PySem.Expr} {ml : AM (List AV)} {ma mb : AV → AM Unit} (hl : SimL c lv ρ c.env es ml) (ha : SimA c lv ρ t ma) (hb : SimA c lv ρ u mb)
    (hs : swapsWithSole [.Tuple [t, u] k tp] (.Tuple es k' tp') pos.line c.env = pure false := by rfl) (hw : swappedStores [.Tuple [t, u] k tp] (.Tuple es k' tp') c.env = pure none)
    (he : (assignEach [t, u] c.env).map (·.2) = [assign t c.env, assign u c.env]) (hn : (assignEach [t, u] c.env).length = 2) (hst : (assignEach [t, u] c.env).findIdx? (·.1) = none) :
    SimX c lv ρ (.Assign [.Tuple [t, u] k tp] (.Tuple es k' tp') pos) (do let l ← ml; let p ← pair l; ma p.1; mb p.2) (fun _ => ρ) := by
  intro H news s mloc ok S Q E hr
  refine PyProof.Rows.Assign_Tuple ?_ hs hw
  refine Tuple_ ?_
  refine (hl [] tp').step ok List.nil_prefix S hr fun l H₁ vs h₁ tk news₁ S₁ p₁ v₁ hr => ?_
  rw [run_bind] at hr
  obtain ⟨a, b, rfl, hr⟩ := pair_run hr
  obtain ⟨v, u', rfl, va, vb⟩ := v₁.two
  refine newTuple_N S₁.F S₁.N (fun h₂ F₂ N₂ => ?_) (Nat.le_of_ble_eq_true rfl)
  have hT : IsTup h₂ h₁.objs.size #[v, u'] := ⟨_, (N₂ _ (.head _)).1, rfl, 0, rfl⟩
  refine unpackN_ F₂ N₂ hT rfl hn hst fun h₃ F₃ N₃ => ?_
  rw [he]
  have S3 : St c ρ mloc H₁ news₁ h₃ := S₁.pre.st F₃ (fun p hp => N₃ p (.tail _ hp))
  refine assignInOrder_cons ?_
  refine (ha (Ads news₁) a v va).step (s := { s with heap := h₃, toks := tk }) ok List.prefix_rfl S3 hr fun _ H₄ _ h₄ tk₄ news₄ S₄ p₄ _ hr => ?_
  refine assignInOrder_cons ?_
  refine hb (Ads news₁) b u' vb H₄ news₄ _ mloc ok p₄ S₄ _ E (hr.mono (fun _ H₅ g _ h₅ tk₅ news₅ S₅ p₅ _ => ?_) fun _ _ h => h)
  exact assignInOrder_nil (g _ h₅ tk₅ news₅ S₅ ((p₁.trans p₄).trans p₅))
theorem X_twoL {t : PySem.Expr} {y : Str} {k k' : Nat} {py tp tp' pos : Pos} {es : List PySem.Expr} {ml : AM (List AV)} {ma : AV → AM Unit} (hl : SimL c lv ρ c.env es ml) (ha : SimA c lv ρ t ma) (hy : c.cs.names.lookup y = some .local)
    (hs : swapsWithSole [.Tuple [t, .Name y py] k tp] (.Tuple es k' tp') pos.line c.env = pure false := by rfl) (hw : swappedStores [.Tuple [t, .Name y py] k tp] (.Tuple es k' tp') c.env = pure none)
    (he : (assignEach [t, .Name y py] c.env).map (·.2) = [assign t c.env, assign (.Name y py) c.env]) (hn : (assignEach [t, .Name y py] c.env).length = 2) (hst : (assignEach [t, .Name y py] c.env).findIdx? (·.1) = none) :
    SimX c lv ρ (.Assign [.Tuple [t, .Name y py] k tp] (.Tuple es k' tp') pos) (do let l ← ml; let p ← pair l; ma p.1; pure p.2) (fun b => rset ρ y b) := by
  intro H news s mloc ok S Q E hr
  refine PyProof.Rows.Assign_Tuple ?_ hs hw
  refine Tuple_ ?_
  refine (hl [] tp').step ok List.nil_prefix S hr fun l H₁ vs h₁ tk news₁ S₁ p₁ v₁ hr => ?_
  rw [run_bind] at hr
  obtain ⟨a, b, rfl, hr⟩ := pair_run hr
  obtain ⟨v, u', rfl, va, vb⟩ := v₁.two
  refine newTuple_N S₁.F S₁.N (fun h₂ F₂ N₂ => ?_) (Nat.le_of_ble_eq_true rfl)
  have hT : IsTup h₂ h₁.objs.size #[v, u'] := ⟨_, (N₂ _ (.head _)).1, rfl, 0, rfl⟩
  refine unpackN_ F₂ N₂ hT rfl hn hst fun h₃ F₃ N₃ => ?_
  rw [he]
  have S3 : St c ρ mloc H₁ news₁ h₃ := S₁.pre.st F₃ (fun p hp => N₃ p (.tail _ hp))
  refine assignInOrder_cons ?_
  refine (ha (Ads news₁) a v va).step (s := { s with heap := h₃, toks := tk }) ok List.prefix_rfl S3 hr fun _ H₄ _ h₄ tk₄ news₄ S₄ p₄ _ hr => ?_
  refine assignInOrder_cons (PyProof.Rows.assign_Name (storeX_L S₄.F S₄.N (fun h₅ F₅ N₅ => ?_) ok.hke hy))
  refine assignInOrder_nil ?_
  exact hr _ h₅ _ news₄ (S₄.store (vb.mono p₄) F₅ N₅) (p₁.trans p₄)
end
end Mine
end

/-! ## S13 -/
section
open PySem PySem.W PySem.Calls PyProof.Rows
namespace Mine
section
variable {α β γ δ σ : Type} {c : Cx} {lv : Nat} {ρ ρ' ρe : Rho} {as0 : List Addr} {ev : Env} {m : Str → Option Value} {H : AH} {news : List (Addr × Obj)} {h h' : Heap}
/-! comprehensions whose items are ints -/
noncomputable def asInt (a : AV) : AM Int := fun H => match a with
  | .int k => .ok k H
  | _ => .stuck
noncomputable def compM (me : Int → AM AV) : List Int → AM (List Int)
  | [] => pure []
  | k :: r => do let a ← me k; let i ← asInt a; let l ← compM me r; pure (i :: l)
/-- an element: its own name is read from the block's namespace, which stands among the loop's own objects -/
abbrev EltOk (c : Cx) (lv : Nat) (ρ : Rho) (x : Str) (scope : Scope) (cl : List (Str × Addr)) (elt : PySem.Expr) (me : Int → AM AV) : Prop :=
  ∀ own frz C oC m₂ (t : Tok) (k : Int), (C, oC) ∈ own → LCg.NsObj oC m₂ → m₂ x = some (.int k t) → SimE (c.turn own frz) lv ρ (compEnvC scope cl C c.env) elt (me k)
theorem E_cvar {x : Str} {pos : Pos} {scope : Scope} {cl : List (Str × Addr)} {C : Addr} {oC : Obj} {m₂ : Str → Option Value} {t : Tok} {k : Int} {own : List (Addr × Obj)} {frz : List (Nat × Obj)} {env : Env} (hm : (C, oC) ∈ own) (hn : LCg.NsObj oC m₂) (hv : m₂ x = some (.int k t)) (hx : scope.names.lookup x = some .local) (hk : scope.kind = .function)
    (hd : (x == ("__debug__" : Str)) = false := by decide) : SimE (c.turn own frz) lv ρ (compEnvC scope cl C env) (.Name x pos) (pure (.int k)) := by
  intro as0 H news s mloc ok hp S Q E hr
  refine wpAny_Name (wpAny_loadName_local ?_ (lookup_relabel_local hx) (hn.ns (S.N _ (List.mem_append_right _ hm)).1) hv ?_) hd
  · simp [compEnvC, relabel, hk]
  · exact hr _ s.heap s.toks news S List.prefix_rfl ⟨t, rfl⟩
theorem comp_core {x : Str} {scope : Scope} {cl : List (Str × Addr)} {elt : PySem.Expr} {me : Int → AM AV} {frz : List (Nat × Obj)} {s : Shared} {SS : List (Addr × Obj) → Prop} {P : Nat → Value → Prop} {Fin : List Value → List (Addr × Obj) → Prop} {mloc : Str → Option Value} {ks : List Int} {news₀ : List (Addr × Obj)} (ok : c.Ok lv)
    (helt : EltOk c lv ρ x scope cl elt me) (hP : ∀ i v, i < ks.length → P i v → ∃ t, v = .int (ks.getD i 0) t)
    (hS : ∀ H' news' h', St (c.turn c.own frz) ρ mloc H' news' h' → Ads news₀ <+: Ads news' → SS (news' ++ c.own)) :
    ∀ (j i : Nat) (ys : List Value) (is : List Int) (H : AH) (news : List (Addr × Obj)), i + j = ks.length → IntsAre ys is → is.length = i → Pre (c.turn c.own frz) ρ mloc H news → Ads news₀ <+: Ads news →
      (compM me (ks.drop i) H).run (fun l H' => ∀ news' ys', Pre (c.turn c.own frz) ρ mloc H' news' → Ads news₀ <+: Ads news' → IntsAre ys' (is ++ l) → Fin ys' (news' ++ c.own)) (fun _ _ => False) →
      LCg.CompRest PG c.w c.A c.h₀ c.L mloc c.env elt x scope cl s SS P Fin j i ys (news ++ c.own) := by
  intro j
  induction j with
  | zero =>
    intro i ys is H news hi hy hl P0 pre hr
    rw [List.drop_of_length_le (by omega)] at hr
    exact LCg.CompRest.zero (hr news ys P0 pre (by simpa using hy))
  | succ j ih =>
    intro i ys is H news hi hy hl P0 pre hr
    refine LCg.CompRest.succ fun v I oI C oC D m₂ h tk E' hv hC hx F N off ne => ?_
    obtain ⟨t, rfl⟩ := hP i v (by omega) hv
    have hlt : i < ks.length := by omega
    rw [List.drop_eq_getElem_cons hlt] at hr
    have hg : ks.getD i 0 = ks[i] := by simp [List.getD_eq_getElem?_getD, hlt]
    rw [hg] at hx
    have hr' : (me ks[i] H).run (fun a H' => (asInt a H').run (fun k H' => (compM me (ks.drop (i + 1)) H').run (fun l H' => ∀ news' ys', Pre (c.turn c.own frz) ρ mloc H' news' → Ads news₀ <+: Ads news' → IntsAre ys' (is ++ (k :: l)) → Fin ys' (news' ++ c.own)) (fun _ _ => False)) (fun _ _ => False)) (fun _ _ => False) := by
      unfold compM at hr
      rw [run_bind] at hr
      refine hr.mono (fun a H' hr => ?_) fun _ _ f => f
      rw [run_bind] at hr
      refine hr.mono (fun k H' hr => ?_) fun _ _ f => f
      rw [run_bind] at hr
      exact hr
    have S0 := P0.st F (fun p hp => N p (.tail _ (.tail _ (.tail _ hp))))
    have off3 := off.mem
    have S1 := S0.into (its := [(I, oI), (C, oC), (D, LCg.lst ys)]) N (by
      obtain ⟨n1, n2, n3⟩ := ne
      refine List.nodup_cons.mpr ⟨fun hm => ?_, List.nodup_cons.mpr ⟨fun hm => ?_, by simp⟩⟩
      · rcases List.mem_cons.mp hm with e | hm
        · exact n1 e
        · exact n2 (List.mem_singleton.mp hm)
      · exact n3 (List.mem_singleton.mp hm)) (fun p hp q hq => by
      have := off3 p hp
      rcases List.mem_cons.mp hq with rfl | hq
      · exact this.1
      · rcases List.mem_cons.mp hq with rfl | hq
        · exact this.2.1
        · rw [List.mem_singleton.mp hq]; exact this.2.2)
    refine helt (c.own ++ [(I, oI), (C, oC), (D, LCg.lst ys)]) frz C oC m₂ t ks[i] (List.mem_append_right _ (.tail _ (.head _))) hC hx [] H news _ _ ok.turn List.nil_prefix S1 _ _ (hr'.mono (fun a H₁ g v h₁ tk₁ news₁ S₂ p₁ v₁ => ?_) fun _ _ f => f.elim)
    obtain ⟨S₃, N₃, off₃⟩ := S₂.out
    cases a <;> try exact g.elim
    rename_i k
    obtain ⟨t', rfl⟩ := v₁
    refine ⟨h₁, tk₁, news₁ ++ c.own, rfl, S₃.F, N₃, LCg.Off3.of (fun p hp => ⟨off₃ p hp _ (.head _), off₃ p hp _ (.tail _ (.head _)), off₃ p hp _ (.tail _ (.tail _ (.head _)))⟩), hS H₁ news₁ h₁ S₃ (pre.trans p₁), ?_⟩
    refine ih (i + 1) (ys ++ [.int k t']) (is ++ [k]) H₁ news₁ (by omega) (hy.append (.cons k t' .nil)) (by simp [hl]) S₃.pre (pre.trans p₁) (Res.run.mono g (fun l H₂ g news' ys' P' p' hi' => g news' ys' P' p' ?_) fun _ _ f => f)
    rw [List.append_assoc] at hi'
    exact hi'
/-! ranges -/
noncomputable def rangeIs (a step : Int) (n : Nat) : List Int := (List.range n).map fun (i : Nat) => a + (i : Int) * step
theorem rangeIs_len {a step : Int} {n : Nat} : (rangeIs a step n).length = n := by simp [rangeIs]
theorem rangeIs_get {a step : Int} {n i : Nat} (h : i < n) : (rangeIs a step n).getD i 0 = a + (i : Int) * step := by simp [rangeIs, List.getD_eq_getElem?_getD, h]
/-- an expression that hands out a range -/
noncomputable def SimR (c : Cx) (lv : Nat) (ρ : Rho) (iter : PySem.Expr) (mr : AM (Int × Int × Nat)) : Prop :=
  ∀ H news s mloc, c.Ok lv → St c ρ mloc H news s.heap → ∀ (Q : Value → Shared → Prop) E, (mr H).run (fun p H' => ∀ r b t u v h' tk news', St c ρ mloc H' news' h' → Ads news <+: Ads news' → IsRange h' r p.1 b p.2.1 t u v → Builtin.Range.small p.1 b p.2.1 = true → Builtin.Range.rangeSize p.1 b p.2.1 = (p.2.2 : Int) → Q (.ref r) { s with heap := h', toks := tk }) (BB c s E) →
    wpAny (model PG c.w) c.A (eval iter c.env) Q E s
noncomputable def rangeOf (l : List AV) : AM (Int × Int × Nat) := fun H => match l with
  | [.int n] => if 0 ≤ n ∧ n ≤ 100000 then .ok (0, 1, n.toNat) H else .stuck
  | [.int 16, .int 32, .int 2] => .ok (16, 2, 8) H
  | _ => .stuck
theorem VRs.three {as : List Addr} {a b d : AV} {vs : List Value} (h : VRs as [a, b, d] vs) : ∃ v u t, vs = [v, u, t] ∧ VR as a v ∧ VR as b u ∧ VR as d t := by
  match vs, h with
  | [v, u, t], h => exact ⟨v, u, t, rfl, h.1, h.2.1, h.2.2.1⟩
theorem St.grown (S : St c ρ m H news h) (o : Obj) (hf : o.isFreed = false := by rfl) : St c ρ m H news (h.push o) := S.pre.st (S.F.push o) (fun p hp => News.push S.F S.N o hf p (.tail _ hp))
theorem R_range {f : Str} {np pos : Pos} {e : PySem.Expr} {args : List PySem.Expr} {ml : AM (List AV)} (hn : NameV c lv ρ c.env f (.type "range")) (hl : SimL c lv ρ c.env (e :: args) ml)
    (hq : eval (.Call (.Name f np) (e :: args) [] pos) c.env = (do callWith pos (← eval (.Name f np) c.env) [] (backTo pos (starEach (e :: args) c.env)) (backToKw pos (keywordEach [] c.env))) := by rfl)
    (hs : starEach (e :: args) c.env = (false, eval e c.env) :: starEach args c.env := by rfl) (ha : ((backTo pos (starEach args c.env)).any fun x => x.1) = false := by rfl) : SimR c lv ρ (.Call (.Name f np) (e :: args) [] pos) (do let l ← ml; rangeOf l) := by
  intro H news s mloc ok S Q E hr
  refine Call_ ?_ hq
  refine hn [] np H news s mloc ok List.nil_prefix S _ E (fun v h₁ tk₁ news₁ S₁ p₁ e₁ => ?_)
  subst e₁
  refine PyProof.Rows.callWith_type1 ?_ hs ha
  refine (hl (Ads news₁) pos).step (s := { s with heap := h₁, toks := tk₁ }) ok List.prefix_rfl S₁ hr fun l H₂ vs h₂ tk₂ news₂ S₂ p₂ v₂ hr => ?_
  unfold rangeOf at hr
  split at hr
  · rename_i n
    obtain ⟨v, rfl, t, rfl⟩ := v₂.one
    split at hr
    · rename_i hc
      refine call_range_1 ?_
      exact hr _ n _ _ _ _ _ news₂ (S₂.grown _) (p₁.trans p₂) (Heap.get?_push_size _ rfl) (small_one (by omega) (by omega) (by omega) (by omega)) (by rw [rangeSize_nat, Int.sub_zero])
    · exact hr.elim
  · obtain ⟨v, u, w, rfl, ⟨t₁, rfl⟩, ⟨t₂, rfl⟩, ⟨t₃, rfl⟩⟩ := v₂.three
    refine call_range_3 (by decide) ?_
    exact hr _ 32 _ _ _ _ _ news₂ (S₂.grown _) (p₁.trans p₂) (Heap.get?_push_size _ rfl) (by decide +kernel) (by decide +kernel)
  · exact hr.elim
/-! the comprehensions themselves -/
theorem ListComp_R {s : Shared} {E : Value → Shared → Prop} {env : Env} {h₀ : Heap} {L : Addr} {prog : Program} {w : World} {A : Around} {elt iter : PySem.Expr} {x : Str} {px : Pos} {scope : Scope} {cl : List (Str × Addr)} {pos : Pos} {Q : Value → Shared → Prop} (hh : A.handled = none)
    (hclos : closureFor scope env = pure cl) (hcell : ∀ y ∈ scope.names, y.2 ≠ .cell) (hkind : scope.kind = .function)
    (hnames : ∀ y ∈ scope.names, y.2 = .local → scope.names.lookup y.1 = some .local) (hx : scope.names.lookup x = some .local)
    (h : wpAny (model prog w) A (eval iter env) (fun xv s₁ => ∃ r a b st t u v n news, xv = .ref r ∧ Fr h₀ L s₁.heap m ∧ News h₀ L s₁.heap news ∧ IsRange s₁.heap r a b st t u v ∧ Builtin.Range.small a b st = true ∧ Builtin.Range.rangeSize a b st = ((n : Nat) : Int) ∧ n ≤ sizeLine ∧
      ∀ s₂ : Shared, (∃ h, s₂ = { s₁ with heap := h }) → LCg.CompRest prog w A h₀ L m env elt x scope cl s₂ (fun _ => True) (fun i v => i < n ∧ ∃ t, v = .int (a + (i : Int) * st) t) (LCg.FinE h₀ L m s₂ Q) n 0 [] news) E s)
    (hs : ∀ x, foldedSetIterable iter env x = pure x := by intro _; rfl) :
    wpAny (model prog w) A (eval (.ListComp elt [⟨.Name x px, iter, [], 0⟩] scope pos) env) Q E s := by
  rw [eval_ListComp]
  refine wpAny_comprehension_free (use := none) rfl hs hclos hkind hnames (wpAny_mono h (fun xv s₁ h₁ => ?_) fun _ _ e => e)
  obtain ⟨r, a, b, st, t, u, v, n, news, rfl, F, N, hr, hsm, hn, hsz, R⟩ := h₁
  refine wpAny_pyIter_range hr hsm ?_
  have W : Walks prog w A s₁.heap.objs.size [s₁.heap.objs.size] [s₁.heap.objs.size] n (fun i v => i < n ∧ ∃ t, v = .int (a + i * st) t) (fun i h => IsRangeIter h s₁.heap.objs.size (a + (i : Nat) * st) ((n : Int) - (i : Nat)) st) := (Walks.range hh _ a st n).bound
  refine LCg.block_U W hsz (fun i h st => ⟨_, st⟩) (fun i h h' o nw st e e' _ _ _ => ?_) hcell hkind hx (by show IsRangeIter _ _ _ _ _; rw [hn]; simpa using Heap.get?_push_size _ rfl) (fun b hb => ?_)
    (F.keeps fun _ _ e => Heap.get?_push_of_some _ e) (N.grown fun _ _ e => Heap.get?_push_of_some _ e) (Nat.ne_of_lt F.ns.lt) (next_is_new F) (fun p hp => Nat.ne_of_lt (Heap.lt_size (N p hp).1)) trivial (R _ ⟨_, rfl⟩) ?_
  · have st' : h.get? _ = some _ := st
    show h'.get? _ = some _
    rw [e', ← e]; exact st'
  · rw [List.mem_singleton.mp hb]
    show s₁.heap.objs.size < (s₁.heap.push _).objs.size
    rw [Heap.size_push]; exact Nat.lt_succ_self _
  · intro D C h tk m' ys news' F' N' o1 hn hC₀ hD₀ hCL hDL hCD offC fin
    refine ⟨m', hn, fun h'' hs'' => fin D h'' tk (F'.change hs'' hCL hC₀) (fun p hp => ?_) o1⟩
    refine ⟨hs''.extBut _ _ ?_ (N' p hp).1, (N' p hp).2⟩
    rcases List.mem_cons.mp hp with rfl | hp
    · exact Ne.symm hCD
    · exact offC p hp
theorem off1 {D : Addr} : ∀ {news : List (Addr × Obj)}, LCg.Off1 D news → ∀ p ∈ news, p.1 ≠ D
  | [], _ => fun _ h => nomatch h
  | q :: r, h => fun p hp => by
    rcases List.mem_cons.mp hp with rfl | hp
    · exact h.1
    · exact off1 h.2 p hp
structure CompOk (c : Cx) (x : Str) (scope : Scope) (cl : List (Str × Addr)) : Prop where
  clos : closureFor scope c.env = pure cl
  cell : (scope.names.all fun y => y.2 != .cell) = true
  kind : scope.kind = .function
  names : (scope.names.all fun y => y.2 != .local || scope.names.lookup y.1 == some .local) = true
  x : scope.names.lookup x = some .local
theorem CompOk.cells {x : Str} {scope : Scope} {cl : List (Str × Addr)} (h : CompOk c x scope cl) : ∀ y ∈ scope.names, y.2 ≠ .cell := fun y hy => bne_iff_ne.mp (List.all_eq_true.mp h.cell y hy)
theorem CompOk.locs {x : Str} {scope : Scope} {cl : List (Str × Addr)} (h : CompOk c x scope cl) : ∀ y ∈ scope.names, y.2 = .local → scope.names.lookup y.1 = some .local := fun y hy e => by
  have := List.all_eq_true.mp h.names y hy
  rw [e] at this
  simpa using this
theorem Pre.pushLst {m' : Str → Option Value} {ρ' : Rho} {D : Addr} {ys : List Value} {l : List Int} {h' : Heap} (P : Pre (c.turn c.own c.frz) ρ m H news) (hy : IntsAre ys l) (F' : Fr c.h₀ c.L h' m') (N' : News c.h₀ c.L h' ((D, LCg.lst ys) :: (news ++ c.own))) (o1 : LCg.Off1 D (news ++ c.own))
    (hL : VR (Ads (news ++ [(D, LCg.lst ys)])) (.loc H.length) (.ref D) → LocR (Ads (news ++ [(D, LCg.lst ys)])) ρ' m') :
    St c ρ' m' (H ++ [.ints l]) (news ++ [(D, LCg.lst ys)]) h' ∧ (Ads news <+: Ads (news ++ [(D, LCg.lst ys)])) ∧ VR (Ads (news ++ [(D, LCg.lst ys)])) (.loc H.length) (.ref D) := by
  have hp : Ads news <+: Ads (news ++ [(D, LCg.lst ys)]) := by rw [Ads_push]; exact List.prefix_append _ _
  have pm : ((D, LCg.lst ys) :: (news ++ c.own)).Perm ((news ++ [(D, LCg.lst ys)]) ++ c.own) := by
    rw [List.append_assoc]
    exact List.perm_middle.symm
  have hD : VR (Ads (news ++ [(D, LCg.lst ys)])) (.loc H.length) (.ref D) := by
    refine ⟨D, ?_, rfl⟩
    rw [Ads_push, ← P.R.len]
    have : news.length = (Ads news).length := by simp
    rw [this]; simp
  refine ⟨⟨F', fun p hp => N' p (pm.mem_iff.mpr hp), ?_, P.R.push ⟨ys, ys.length, rfl, hy⟩, hL hD, fun x i e => (P.Cl x i e).imp fun _ q => ⟨q.1, idx_pre hp q.2⟩, fun p hf => ?_, P.Fz.2.trans hp⟩, hp, hD⟩
  · refine (pm.map (·.1)).nodup_iff.mp (List.nodup_cons.mpr ⟨fun hm => ?_, P.nd⟩)
    obtain ⟨p, hp, e⟩ := List.mem_map.mp hm
    exact off1 o1 p hp e
  · obtain ⟨a, ns, e1, e2⟩ := P.Fz.1 p hf
    exact ⟨a, ns, idx_pre (List.prefix_append _ _) e1, idx_pre (List.prefix_append _ _) e2⟩
noncomputable def newL (l : List Int) : AM AV := fun H => .ok (.loc H.length) (H ++ [.ints l])
noncomputable def compR (me : Int → AM AV) (p : Int × Int × Nat) : AM (List Int) := fun H => if p.2.2 ≤ 1000000 ∧ p.2.1 = 1 then noErr (compM me (rangeIs p.1 1 p.2.2)) H else if p.2.2 ≤ 1000000 then noErr (compM me (rangeIs p.1 p.2.1 p.2.2)) H else .stuck
theorem compR_run {me : Int → AM AV} {p : Int × Int × Nat} {G : List Int → AH → Prop} {B : Str → AH → Prop} (h : (compR me p H).run G B) : p.2.2 ≤ 1000000 ∧ (compM me (rangeIs p.1 p.2.1 p.2.2) H).run G (fun _ _ => False) := by
  unfold compR at h
  split at h
  · rename_i hc
    rw [hc.2]
    exact ⟨hc.1, noErr_run h⟩
  · split at h
    · exact ⟨by assumption, noErr_run h⟩
    · exact h.elim
theorem E_compR {elt iter : PySem.Expr} {x : Str} {px pos : Pos} {scope : Scope} {cl : List (Str × Addr)} {mr : AM (Int × Int × Nat)} {me : Int → AM AV} (hi : SimR c lv ρ iter mr) (hc : CompOk c x scope cl) (helt : EltOk c lv ρ x scope cl elt me)
    (hs : ∀ x, foldedSetIterable iter c.env x = pure x := by intro _; rfl) :
    SimE c lv ρ c.env (.ListComp elt [⟨.Name x px, iter, [], 0⟩] scope pos) (do let p ← mr; let l ← compR me p; newL l) := by
  intro as0 H news s mloc ok hp S Q E hr
  have hz : (1000000 : Nat) ≤ sizeLine := Nat.le_of_ble_eq_true rfl
  refine ListComp_R (m := mloc) (h₀ := c.h₀) (L := c.L) rfl hc.clos hc.cells hc.kind hc.locs hc.x ?_ hs
  rw [run_bind] at hr
  refine hi H news s mloc ok S _ E (hr.mono (fun p H₁ hr r b t u v h₁ tk news₁ S₁ p₁ hR hsm hsz => ?_) fun _ _ f => f)
  rw [run_bind] at hr
  obtain ⟨hn, hr⟩ := compR_run hr
  refine ⟨r, p.1, b, p.2.1, t, u, v, p.2.2, news₁ ++ c.own, rfl, S₁.F, S₁.N, hR, hsm, hsz, Nat.le_trans hn hz, ?_⟩
  rintro s₂ ⟨g, rfl⟩
  refine comp_core (frz := c.frz) (ρ := ρ) (ks := rangeIs p.1 p.2.1 p.2.2) (news₀ := news₁) ok helt (fun i v hi hv => ?_) (fun _ _ _ _ _ => trivial) p.2.2 0 [] [] H₁ news₁ (by rw [rangeIs_len]; omega) .nil rfl S₁.pre List.prefix_rfl
    (hr.mono (fun l H₂ g news₂ ys P₂ p₂ hy => ?_) fun _ _ f => f)
  · obtain ⟨hi', t, rfl⟩ := hv
    exact ⟨t, by rw [rangeIs_get hi']⟩
  · intro D h₂ tk₂ F₂ N₂ o1
    obtain ⟨S₃, p₃, r₃⟩ := P₂.pushLst (ρ' := ρ) hy F₂ N₂ o1 (fun _ => P₂.Lc.mono (by rw [Ads_push]; exact List.prefix_append _ _))
    exact g _ h₂ tk₂ _ S₃ ((p₁.trans p₂).trans p₃) r₃
noncomputable def step1 (p : Int × Int × Nat) : AM (Int × Int × Nat) := fun H => if p.2.1 = 1 then .ok p H else .stuck
theorem X_compR {elt iter : PySem.Expr} {x y : Str} {px py pos spos : Pos} {scope : Scope} {cl : List (Str × Addr)} {mr : AM (Int × Int × Nat)} {me : Int → AM AV} (hi : SimR c lv ρ iter mr) (hc : CompOk c x scope cl) (helt : EltOk c lv ρ x scope cl elt me) (hy : c.cs.names.lookup y = some .local)
    (hsw : swapsWith (.ListComp elt [⟨.Name x px, iter, [], 0⟩] scope pos) (some (.Name y py)) spos.line c.env = pure true)
    (hs : ∀ x, foldedSetIterable iter c.env x = pure x := by intro _; rfl) :
    SimX c lv ρ (.Assign [.Name y py] (.ListComp elt [⟨.Name x px, iter, [], 0⟩] scope pos) spos) (do let p ← mr; let p ← step1 p; let l ← compR me p; newL l) (fun a => rset ρ y a) := by
  intro H news s mloc ok S Q E hr
  have hz : (1000000 : Nat) ≤ sizeLine := Nat.le_of_ble_eq_true rfl
  refine LCg.Assign_ListComp_U (m := mloc) S.F rfl hsw hc.clos hc.cells hc.kind hc.locs hc.x hy (by show (c.cs.kind == .class || (c.cs.kind == .module && _)) = false; rw [ok.hke]; rfl) ?_ hs
  rw [run_bind] at hr
  refine hi H news s mloc ok S _ E (hr.mono (fun p H₁ hr r b t u v h₁ tk news₁ S₁ p₁ hR hsm hsz => ?_) fun _ _ f => f)
  obtain ⟨a, st, n⟩ := p
  rw [run_bind] at hr
  unfold step1 at hr
  split at hr
  · rename_i h1
    dsimp only at h1 hR hsm hsz
    subst h1
    have hr : ((compR me (a, 1, n) >>= fun l => newL l) H₁).run (XG c (fun a => rset ρ y a) news s Q) (BB c s E) := hr
    rw [run_bind] at hr
    obtain ⟨hn, hr⟩ := compR_run hr
    dsimp only at hn hr
    refine LCg.CompSrc.range rfl S₁.F S₁.N hR hsm hsz (Nat.le_trans hn hz) fun g => ?_
    refine comp_core (frz := c.frz) (ρ := ρ) (ks := rangeIs a 1 n) (news₀ := news₁) ok helt (fun i v hi hv => ?_) (fun _ _ _ _ _ => trivial) n 0 [] [] H₁ news₁ (by rw [rangeIs_len]; omega) .nil rfl S₁.pre List.prefix_rfl
      (hr.mono (fun l H₂ g news₂ ys P₂ p₂ hy => ?_) fun _ _ f => f)
    · obtain ⟨t, rfl⟩ := hv
      exact ⟨t, by rw [rangeIs_get (by rw [rangeIs_len] at hi; exact hi), Int.mul_one]⟩
    · intro D h₂ tk₂ F₂ N₂ o1
      have F₂' : Fr c.h₀ c.L h₂ (fun z => if z = y then some (.ref D) else mloc z) := F₂
      obtain ⟨S₃, p₃, r₃⟩ := P₂.pushLst (ρ' := rset ρ y (.loc H₂.length)) hy F₂' N₂ o1 (fun hD z b e => by
        unfold rset at e
        by_cases hz : z = y
        · rw [if_pos hz] at e
          cases e
          exact ⟨.ref D, by rw [if_pos hz], hD⟩
        · rw [if_neg hz] at e
          obtain ⟨v, h1, h2⟩ := P₂.Lc z b e
          exact ⟨v, by rw [if_neg hz]; exact h1, h2.mono (by rw [Ads_push]; exact List.prefix_append _ _)⟩)
      exact g _ h₂ tk₂ _ S₃ ((p₁.trans p₂).trans p₃)
  · exact hr.elim
noncomputable def compL (me : Int → AM AV) (o : AV) : AM AV := fun H => match o with
  | .loc j => match H[j]? with
    | some (.ints ns) => if ns.length ≤ 1000000 then match compM me ns (H.set j (.frozen ns)) with
      | .ok l H' => .ok (.loc (H'.set j (.ints ns)).length) (H'.set j (.ints ns) ++ [.ints l])
      | _ => .stuck
      else .stuck
    | _ => .stuck
  | _ => .stuck
theorem compL_run {me : Int → AM AV} {o : AV} {G : AV → AH → Prop} {B : Str → AH → Prop} (h : (compL me o H).run G B) : ∃ j ns, o = .loc j ∧ H[j]? = some (.ints ns) ∧ ns.length ≤ 1000000 ∧ (compM me ns (H.set j (.frozen ns))).run (fun l H' => G (.loc (H'.set j (.ints ns)).length) (H'.set j (.ints ns) ++ [.ints l])) (fun _ _ => False) := by
  unfold compL at h
  cases o <;> try exact h.elim
  rename_i j
  dsimp only at h
  split at h
  · rename_i ns e
    split at h
    · rename_i hn
      refine ⟨j, ns, rfl, e, hn, ?_⟩
      split at h
      · rename_i b H' e'
        rw [Res.run_ok e']; exact h
      · exact h.elim
    · exact h.elim
  · exact h.elim
theorem E_compL {elt iter : PySem.Expr} {x : Str} {px pos : Pos} {scope : Scope} {cl : List (Str × Addr)} {mi : AM AV} {me : Int → AM AV} (hi : SimE c lv ρ c.env iter mi) (hc : CompOk c x scope cl) (helt : EltOk c lv ρ x scope cl elt me)
    (hs : ∀ x, foldedSetIterable iter c.env x = pure x := by intro _; rfl) :
    SimE c lv ρ c.env (.ListComp elt [⟨.Name x px, iter, [], 0⟩] scope pos) (do let o ← mi; compL me o) := by
  intro as0 H news s mloc ok hp S Q E hr
  have hz : (1000000 : Nat) ≤ sizeLine := Nat.le_of_ble_eq_true rfl
  refine LCg.ListComp_U (m := mloc) S.F hc.clos hc.cells hc.kind hc.locs hc.x ?_ hs
  rw [run_bind] at hr
  refine hi [] H news s mloc ok List.nil_prefix S _ E (hr.mono (fun o H₁ hr v h₁ tk news₁ S₁ p₁ v₁ => ?_) fun _ _ f => f)
  obtain ⟨j, ns, rfl, e1, hn, hr⟩ := compL_run hr
  obtain ⟨ax, lo, rfl, m1, i1, vs, k, rfl, hv⟩ := S₁.at e1 v₁
  have hj : (Ads news₁)[j]? = some ax := by rw [List.getElem?_map, i1]; rfl
  have hzf : ∀ p ∈ c.frz, p.1 ≠ j := fun p hp q => by
    obtain ⟨a, ns', _, e2⟩ := S₁.Fz.1 p hp
    rw [q, e1] at e2; cases e2
  have S₂ := S₁.freeze i1 e1
  refine LCg.CompSrc.ledger (its := vs.toArray) (k := k) rfl S₁.F S₁.N m1 (by rw [List.size_toArray, hv.length]; omega) fun g => ?_
  rw [show vs.toArray.size = ns.length by rw [List.size_toArray, hv.length]]
  refine comp_core (frz := (j, listOf vs.toArray k) :: c.frz) (ρ := ρ) (ks := ns) (news₀ := news₁) ok helt (fun i v hi hv' => ?_) (fun H' news' h' S' p' => .inr ⟨_, List.mem_append_left _ (fz_mem S' (.head _) (idx_pre p' hj)), rfl, k, rfl⟩) ns.length 0 [] [] _ news₁ (by omega) .nil rfl S₂.pre List.prefix_rfl
    (hr.mono (fun l H₂ g news₂ ys P₂ p₂ hy => ?_) fun _ _ f => f)
  · obtain ⟨t, ht⟩ := hv.get i (ns.getD i 0) (by simp [List.getD_eq_getElem?_getD, hi])
    refine ⟨t, ?_⟩
    have hv' : vs[i]? = some v := by simpa using hv'
    rw [ht] at hv'
    exact (Option.some.inj hv').symm
  · intro D h₂ tk₂ F₂ N₂ o1
    have S₃ : St c ρ mloc (H₂.set j (.ints ns)) news₂ h₂ := St.melt (c := c) (P₂.st F₂ (fun p hp => N₂ p (.tail _ hp))) ⟨vs, k, rfl, hv⟩ hzf
    obtain ⟨S₄, p₄, r₄⟩ := (show Pre (c.turn c.own c.frz) ρ mloc (H₂.set j (.ints ns)) news₂ from S₃.pre).pushLst (c := c) (ρ' := ρ) hy F₂ N₂ o1 (fun _ => P₂.Lc.mono (by rw [Ads_push]; exact List.prefix_append _ _))
    exact g _ h₂ tk₂ _ S₄ ((p₁.trans p₂).trans p₄) r₄
end
end Mine
end

/-! ## X4 -/
section
open PySem PySem.W PySem.Calls PyProof.Rows Builtin Builtin.ObjectAttr
namespace Mine
section
variable {prog : Program} {w : World} {A : Around} {E : Value → Shared → Prop} {h : Heap} {g : Array GenState} {d : Drawn} {t : Nat} {os : OsState}
variable {nm q : Str} {C N x : Addr} {bs bm : List Value} {sn : List Str} {sub : List Value} {ab : Bool} {col : Option Bool} {dd : Option Addr} {k0 k1 k2 k3 k5 : Option Value} {B newId sa owner : String}
  {mN : Str → Option Value} {name : Str} {v : Value}
/-- the first attribute laid on an object that has no dict yet: the dict is made, and it is new -/
abbrev FirstDict (h h' : Heap) (x : Addr) (o : Obj) (name : Str) (v : Value) : Prop :=
  h'.Ns1 h.objs.size (fun y => if y = name then some v else none) ∧ h'.get? x = some { o with dict := some h.objs.size } ∧ ∀ b o, b ≠ x → h.get? b = some o → h'.get? b = some o
theorem store_new {tk : Tok} {o : Obj} {Q : PySem.Fin → Shared → Prop} (SF : StoreFacts B bm sa owner)
    (hC : h.get? C = some (excClassObj nm q C N bs bm true sn sub ab col dd k0 k1 k2 k3 k5 newId)) (hn : h.Ns N mN) (hna : mN name = none)
    (hB : typeLookup (.type B) name = pure none) (hx : h.get? x = some o) (hc : o.cls = .ref C) (hnc : ∀ c, o.data ≠ .cls c) (hdn : o.dict = none)
    (hq : ∀ h' tk', FirstDict h h' x o name v → Q (.done (.ret .none)) ⟨h', g, d, tk', os⟩) :
    wpAny (model prog w) A (Builtin.«object.__setattr__» ⟨[.ref x, .str name tk, v], []⟩) Q E ⟨h, g, d, t, os⟩ := by
  have hpass := SF.passes (.ref x)
  unfold Builtin.«object.__setattr__»
  repeat (first | rw [refuse_eq] | (rw [refuseLoop_ref, hpass]) | (with_reducible refine wpAny_loadPart_at hx ?_; rw [hc]) | with_reducible refine wpAny_mroOf_exc hC ?_ | (with_reducible refine wpAny_typeLookup_exc hC hn SF.mro hB ?_; rw [hna]) | wp_step)
  rw [hdn, if_neg (by simp [typeHasDict])]
  split
  · rename_i hcd
    cases hcd
  split
  · rename_i c hcd
    exact absurd hcd (hnc c)
  · have hx₁ : (h.push { cls := .type "dict", data := .dict #[] }).get? x = some o := Heap.get?_push_of_some _ hx
    have hxs : x ≠ h.objs.size := Nat.ne_of_lt (Heap.lt_size hx)
    refine wpAny_bind (wpAny_alloc' ?_)
    refine wpAny_bind (wpAny_update' hx₁ ?_)
    refine wpAny_pure ?_
    have hgd : ((h.push { cls := .type "dict", data := .dict #[] }).update x fun o => { cls := o.cls, dict := some h.objs.size, data := o.data, slots := o.slots }).get? h.objs.size
        = some { cls := .type "dict", data := .dict #[] } :=
      (Heap.get?_update_ne _ _ _ _ hxs.symm).trans (Heap.get?_push_at rfl rfl)
    have hnd : ((h.push { cls := .type "dict", data := .dict #[] }).update x fun o => { cls := o.cls, dict := some h.objs.size, data := o.data, slots := o.slots }).Ns h.objs.size (fun _ => none) :=
      ⟨_, #[], _, hgd, rfl, fun e he => absurd he (by simp), fun _ => rfl⟩
    show wpAny _ _ (storeInDict h.objs.size (.str name tk) name v) _ _ _
    unfold storeInDict newKeyGuard
    refine wpAny_bind (wpAny_pure (wpAny_bind (wpAny_nsSet1 (Heap.Ns1.of_empty hnd) fun h' hn' hs => ?_)))
    obtain ⟨oD, esD, epD, hoD, hdD, hcD⟩ := hn'.count (Within.cons name v Within.nil)
    refine wpAny_bind (wpAny_lookBehind hoD (by rw [hdD]; exact pastItsLine_dict (Nat.le_trans hcD (by rw [List.length_cons, List.length_nil, sizeLine_eq]; omega))) ?_)
    wp_walk
    refine hq h' _ ⟨hn', (hs.2 x hxs).trans (Heap.get?_update_self _ hx₁ ?_), fun b ob hbx hb => ?_⟩
    · have hfr := (Heap.get?_some_iff.mp hx).2
      obtain ⟨oc, od, odt, osl⟩ := o
      cases odt <;> first | rfl | exact hfr
    · exact (hs.2 b (Nat.ne_of_lt (Heap.lt_size hb))).trans ((Heap.get?_update_ne _ _ _ _ hbx).trans (Heap.get?_push_of_some _ hb))
theorem set_new {o : Obj} {Q : Unit → Shared → Prop} (SF : StoreFacts B bm sa owner)
    (hC : h.get? C = some (excClassObj nm q C N bs bm true sn sub ab col dd k0 k1 k2 k3 k5 newId)) (hn : h.Ns N mN) (hns : mN "__setattr__" = none) (hna : mN name = none)
    (hB : typeLookup (.type B) name = pure none) (hx : h.get? x = some o) (hc : o.cls = .ref C) (hnc : ∀ c, o.data ≠ .cls c) (hdn : o.dict = none)
    (hq : ∀ h' tk', FirstDict h h' x o name v → Q () ⟨h', g, d, tk', os⟩) :
    wpAny (model prog w) A (setAttr (.ref x) name v) Q E ⟨h, g, d, t, os⟩ := by
  have f3 := SF.slot.bind (.ref x)
  unfold setAttr callSpecial? specialOf
  repeat (any_goals (first | assumption | (with_reducible refine wpAny_loadPart_at hx ?_; rw [hc]) | (with_reducible refine wpAny_typeLookup_exc hC hn SF.mro SF.slot.lookup ?_; rw [hns]) | wp_step))
  refine codeAny_call_builtin SF.slot.plain SF.entry (wpAny_check_sa SF hC hx hc (store_new SF hC hn hna hB hx hc hnc hdn fun h' tk' F1 => ?_))
  repeat (any_goals (first | assumption | wp_step))
  exact hq h' tk' F1
end
namespace F
theorem word_exc : typeLookup (.type "Exception") "word" = pure none := by rw [typeLookup_type, builtinLookup_eq_fast]; kernel_rfl
end F
end Mine
end

/-! ## X5 -/
section
open PySem PySem.W PySem.Calls PyProof.Rows
namespace Mine
section
variable {α β γ δ : Type} {c : Cx} {lv : Nat} {ρ ρ' ρe : Rho} {as0 : List Addr} {ev : Env} {m : Str → Option Value} {H : AH} {news : List (Addr × Obj)} {h h' : Heap}
variable {nm q : Str} {N : Addr} {bs bm : List Value} {sn : List Str} {sub : List Value} {ab : Bool} {col : Option Bool} {dd : Option Addr} {k0 k1 k2 k3 k5 : Option Value}
/-- the class of the exception -/
abbrev errBm : List Value := [.type "Exception", .type "BaseException", .type "object"]
structure ErrCls (K : Frag) : Prop where
  cls : ∃ nm q N bs sn sub ab col dd k0 k1 k2 k3 k5, K.lookup 33 = some (excClassObj nm q 33 N bs errBm true sn sub ab col dd k0 k1 k2 k3 k5 "Exception.__new__") ∧
    nsOkIn K N = true ∧ nsIn K N "__setattr__" = some none ∧ nsIn K N "word" = some none ∧ nsIn K N "__getattribute__" = some none ∧ nsIn K N "__getattr__" = some none
  ini : findIn K (.ref 33) "__init__" = some (some (.ref 30))
  fn : typeIn K (.ref 30) = some (.type "function")
  opq : nsIn K cStatics "thirdparty.any" = some none
/-- what is made -/
abbrev errObj (t2 dx : Addr) : Obj := { cls := .ref 33, dict := some dx, data := .fields #[.ref t2, .none, .none, .none, .bool false, .none] }
noncomputable def ErrMade (h h' : Heap) (e dx : Addr) (x : Str) (t : Tok) : Prop :=
  (∀ b o, h.get? b = some o → h'.get? b = some o) ∧ h.get? e = none ∧ h.get? dx = none ∧ dx ≠ e ∧ ∃ t2 od, h'.get? e = some (errObj t2 dx) ∧ h'.get? dx = some od ∧ WordIs dx od x t
theorem alongErr {K : Frag} : alongIn K "__init__" errBm = some (some (.builtin "Exception.__init__")) := by kernel_rfl

theorem err_init {name qual : Str} {params : Arguments} {scope : Scope} {dV kV doc pm ct oc : Value} {an od : Option Addr} {osl : Array (Option Value)} {cda cc : Addr} {p0 p1 p2 p3 p4 p5 p6 p7 p8 p9 : Pos}
    {ccl cl : Value} {cdd cld : Option Addr} {vs : Array Value} {ccs csl : Array (Option Value)} {file : Str} {tf : Tok}
    {d' u' : Nat} {gd' : Option (List Code)} {s : Shared} {R : Result → Shared → Prop} {e tp : Addr} {tup : Obj} {x : Str} {t : Tok} {news0 : List (Addr × Obj)} (FC : ErrCls c.K)
    (ho : c.K.lookup 30 = some ⟨oc, od, .func (ksFn name qual params [.Expr (.Call (.Attribute (.Call (.Name "super" p0) [] [] p1) "__init__" p2) [.Name "word" p3] [] p4) p5, .Assign [.Attribute (.Name "self" p6) "word" p7] (.Name "word" p8) p9] scope dV kV doc pm an (.ref cda) ct cc), osl⟩)
    (hcd : codeIn c.K (.ref cda) qual = true) (hb : ∀ (s : Shared) (vs : List Value), c.K.In s.heap → vs.length = 2 → BindsTo s (ksFn name qual params [.Expr (.Call (.Attribute (.Call (.Name "super" p0) [] [] p1) "__init__" p2) [.Name "word" p3] [] p4) p5, .Assign [.Attribute (.Name "self" p6) "word" p7] (.Name "word" p8) p9] scope dV kV doc pm an (.ref cda) ct cc) ⟨vs, []⟩ ([("self" : Str), "word"].zip vs))
    (hp : (params.posonlyargs ++ params.args).head?.map (·.arg) = some "self") (hcode : c.K.lookup cda = some ⟨ccl, cdd, .fields vs, ccs⟩) (hvs : vs[2]? = some (.str file tf)) (hfile : ((PG.main.file : Str) == file) = true)
    (hcell : c.K.lookup cc = some ⟨cl, cld, .cell (some (.ref 33)), csl⟩) (hsuper : nsIn c.K mainGlobals "super" = some none)
    (l1 : scope.names.lookup ("self" : Str) = some .local) (l2 : scope.names.lookup ("word" : Str) = some .local) (hks : scope.names.lookup ("super" : Str) = some .globalImplicit) (hkc : scope.names.lookup ("__class__" : Str) = some .free)
    (hco : scope.isCoroutine = false) (hgen : scope.isGenerator = false) (hk : scope.kind = .function) (hcl : (scope.names.all fun x => x.2 != .cell) = true)
    {pl : Env → Sem Bool} (he : ∀ env, eval (.Call (.Attribute (.Call (.Name "super" p0) [] [] p1) "__init__" p2) [.Name "word" p3] [] p4) env = (do
      let ov ← attributeBase (.Call (.Name "super" p0) [] [] p1) "__init__" env (eval (.Call (.Name "super" p0) [] [] p1) env)
      standAt p2.atName
      let (f, first) ← holding [ov] (getMethod ov "__init__" (pl env))
      callWith p4 f first (backTo p4 (starEach [.Name "word" p3] env)) []))
    (htop : (PG.main.scope.names.lookup ("super" : Str)).isSome = false) (hboot : bootBuiltins "super" = some (.type "super"))
    (hd : d' ≤ c.dp + 4) (ok : c.Ok (lv + 1)) (F : Fr c.h₀ c.L s.heap m) (N : News c.h₀ c.L s.heap ((e, excObj 33 tp) :: (tp, tup) :: news0)) (hlt : ∀ p ∈ (tp, tup) :: news0, p.1 < e)
    (hq : ∀ h' tk dx t2 od, WordIs dx od x t → News c.h₀ c.L h' ((dx, od) :: (e, errObj t2 dx) :: (tp, tup) :: news0) → Fr c.h₀ c.L h' m → (∀ p ∈ (e, errObj t2 dx) :: (tp, tup) :: news0, p.1 < dx) → R (.ok (.ret .none)) { s with heap := h', toks := tk }) :
    codeAny (model PG c.w) ⟨none, d', some (c.env :: c.outer), gd', u'⟩ (.call (.ref 30) ⟨[.ref e, .str x t], []⟩) R s := by
  have hdp := ok.hdp
  obtain ⟨nm, q, NN, bs, sn, sub, ab, col, dd, k0, k1, k2, k3, k5, hC, hnok, hn1, hn2, hn3, hn4⟩ := FC.cls
  have hcls : clsIn c.K 33 = some { name := nm, bases := bs, mro := .ref 33 :: errBm, ns := NN, qualname := q, hasDict := true, slotNames := sn, subclasses := sub, abstract := ab, collection := col, hasDel := false } := by
    unfold clsIn; rw [hC]
  have hsubE : mroIn c.K 33 (.type "Exception") = some true := by unfold mroIn; rw [hcls]; rfl
  have hsubS : mroIn c.K 33 (.ref 33) = some true := by unfold mroIn; rw [hcls]; simp
  cases hh : (params.posonlyargs ++ params.args).head? with
  | none => rw [hh] at hp; cases hp
  | some ar =>
  rw [hh] at hp
  have har : ar.arg = "self" := Option.some.inj hp
  refine ks_code_super (env := c.env) (binds := [("self", .ref e), ("word", .str x t)]) ok.B F ok.X N ok.T rfl rfl ok.hke ho hcd (by show d' < 1000; omega) (hb s [.ref e, .str x t] (fun a o z => F.keep _ _ (ok.X a o z)) rfl) (fun y hy => ?_)
    (fun g L' h₁ FG F₁ N₁ B₁ X₁ T₁ lt₁ => ?_) (fun x hx => bne_iff_ne.mp (List.all_eq_true.mp hcl x hx)) hco hgen hk
  · rcases List.mem_cons.mp hy with rfl | hy
    · exact l1
    · rcases List.mem_cons.mp hy with rfl | hy
      · exact l2
      · cases hy
  have m1 : (fun y : Str => ([("self", Value.ref e), (("word" : Str), Value.str x t)] : List (Str × Value)).reverse.lookup y) "self" = some (.ref e) := rfl
  have m2 : (fun y : Str => ([("self", Value.ref e), (("word" : Str), Value.str x t)] : List (Str × Value)).reverse.lookup y) "word" = some (.str x t) := rfl
  generalize hmm : (fun y : Str => ([("self", Value.ref e), (("word" : Str), Value.str x t)] : List (Str × Value)).reverse.lookup y) = mm at F₁ m1 m2 ⊢
  have I₁ : InstAt h₁ e (excObj 33 tp) 33 none := ⟨(N₁ _ (.head _)).1, rfl, rfl, trivial⟩
  refine ks_wpAt_execs_cons (ks_wpAt_Expr_any (ks_wpAt_MethodCall (he := he _) ?_) (by unfold interactive; show (scope.kind == .module && _) = false; rw [hk]; rfl))
  refine ks_node (s := { s with heap := h₁, toks := s.toks + 2 }) F₁ X₁ N₁ T₁ ho hh (by rw [har]; exact m1) I₁ hcode hvs hfile hcell hcls hsubS hsuper (by decide) hks hkc (by rw [har]; exact l1) hk htop hboot ?_
  intro so h₂ F₂ N₂ lt₂
  have X₂ : c.K.In h₂ := fun a o z => F₂.keep _ _ (X₁ a o z)
  have I₂ := (N₂ _ (.tail _ (.head _))).1
  have ne33 : e ≠ 33 := fun z => by have := X₂ _ _ hC; rw [← z, I₂] at this; cases this
  have hmro : Looks (model PG c.w) h₂ (mroOf (.ref 33)) (.ref 33 :: errBm) := fun A Q E s k q => wpAny_bind ((looks_clsIn X₂ hcls) A _ E s k (wpAny_pure q))
  refine super_gm (N₂ _ (.head _)).1 (looks_opaque X₂ FC.opq) hmro rfl X₂ alongErr I₂ (looks_mroIn X₂ hsubE) ne33 ?_
  have hC₃ := Heap.get?_push_of_some { cls := .type "method-wrapper", data := .fields #[.builtin "Exception.__init__", .ref e] } (X₂ _ _ hC)
  have N₃ := N₂.push F₂ { cls := .type "method-wrapper", data := .fields #[.builtin "Exception.__init__", .ref e] }
  have F₃ := F₂.push { cls := .type "method-wrapper", data := .fields #[.builtin "Exception.__init__", .ref e] }
  have lt₃ : ∀ p ∈ (so, ks_superObj 33 e 33) :: (e, excObj 33 tp) :: (tp, tup) :: news0, p.1 < h₂.objs.size := fun p hp => Heap.lt_size (N₂ p hp).1
  generalize hh₃ : h₂.push { cls := .type "method-wrapper", data := .fields #[.builtin "Exception.__init__", .ref e] } = h₃ at hC₃ N₃ F₃ ⊢
  generalize hq₃ : h₂.objs.size = mw at N₃ lt₃ ⊢
  dsimp only
  refine callWith_of (P := fun h => h.get? mw = some { cls := .type "method-wrapper", data := .fields #[.builtin "Exception.__init__", .ref e] }) rfl (fun h hm => ⟨.machine, .inr (.inl rfl), (Looks.ld (part := none) hm).andThen .now⟩) (evalArgs_plain ?_)
  refine spliced_more (nameX_L F₃ m2 ?_ hk l2) rfl
  refine Calls.spliced_nil ⟨(N₃ _ (.head _)).1, ?_⟩
  refine mw_call hC₃ (by decide) (N₃ _ (.head _)).1 (N₃ _ (.tail _ (.tail _ (.head _)))).1 rfl rfl rfl ?_
  have N₄ := N₃.push F₃ { cls := .type "tuple", data := .seq #[.str x t] }
  have F₄ := F₃.push { cls := .type "tuple", data := .seq #[.str x t] }
  have lt₄ : ∀ p ∈ (mw, _) :: (so, ks_superObj 33 e 33) :: (e, excObj 33 tp) :: (tp, tup) :: news0, p.1 < h₃.objs.size := fun p hp => Heap.lt_size (N₃ p hp).1
  generalize hq₄ : h₃.objs.size = t2 at N₄ lt₄ ⊢
  have le : e < so := lt₂ _ (.head _)
  obtain ⟨F₅, N₅⟩ := news_upd (o' := excObj 33 t2) (pre := [(t2, _), (mw, _), (so, _)]) (f := Obj.mapFields (·.setIfInBounds 0 (.ref t2))) F₄ N₄
    (fun p hp => by
      have a1 := lt₄ _ (.tail _ (.tail _ (.head _)))
      have a2 := lt₃ _ (.tail _ (.head _))
      simp only [List.mem_cons, List.not_mem_nil, or_false] at hp
      rcases hp with rfl | rfl | rfl
      · exact Nat.ne_of_gt a1
      · exact Nat.ne_of_gt a2
      · exact Nat.ne_of_gt le) (fun p hp => Nat.ne_of_lt (hlt p hp)) rfl rfl
  generalize (h₃.push _).update e _ = h₅ at F₅ N₅ ⊢
  have X₅ : c.K.In h₅ := fun a o z => F₅.keep _ _ (X₁ a o z)
  have M₅ := N₅ (e, excObj 33 t2) (by simp)
  refine ks_wpAt_execs_cons (ks_wpAt_Assign_Attr (wpAt_of_wpAny (nameX_L F₅ m2 (nameX_L F₅ m1 ?_ hk l1) hk l2)))
  refine set_new PySem.F.store_Exception (X₅ _ _ hC) (.of_isNs (isNs_of_in X₅ hnok)) (nsMap_none_of_in X₅ hnok hn1) (nsMap_none_of_in X₅ hnok hn2) Mine.F.word_exc M₅.1 rfl (fun _ z => by cases z) rfl fun h₆ tk ⟨z1, z2, z3⟩ => ?_
  have lt₆ : ∀ p ∈ (e, excObj 33 t2) :: (tp, tup) :: news0, p.1 < h₅.objs.size := fun p hp => by
    refine Heap.lt_size (N₅ p ?_).1
    simp only [List.mem_cons, List.mem_append, List.not_mem_nil, or_false] at hp ⊢
    exact .inr hp
  obtain ⟨od, es, ep, e1, e2, e3, e4, e5⟩ := z1
  have hnone : ∀ h₀ : Heap, (∀ b o, h₀.get? b = some o → h₅.get? b = some o) → h₀.get? h₅.objs.size = none := fun h₀ k => by
    cases z : h₀.get? h₅.objs.size with
    | none => rfl
    | some o => exact absurd (Heap.lt_size (k _ _ z)) (Nat.lt_irrefl _)
  have F₆ : Fr g L' h₆ mm := by
    obtain ⟨oL, a1, a2, hL, a3⟩ := F₅.ns
    exact ⟨⟨oL, a1, a2, z3 _ _ (Ne.symm M₅.2.1) hL, a3⟩, fun b o z => z3 b o (fun w => by have := M₅.2.2; rw [← w, z] at this; cases this) (F₅.keep b o z), F₅.above⟩
  have N₆ : News g L' h₆ ((h₅.objs.size, od) :: (e, errObj t2 h₅.objs.size) :: (tp, tup) :: news0) := by
    intro p hp
    rcases List.mem_cons.mp hp with rfl | hp
    · refine ⟨e1, ?_, hnone _ F₅.keep⟩
      obtain ⟨oL, _, _, hL, _⟩ := F₅.ns
      exact Nat.ne_of_gt (Heap.lt_size hL)
    · rcases List.mem_cons.mp hp with rfl | hp
      · exact ⟨z2, M₅.2.1, M₅.2.2⟩
      · have P := N₅ p (by simp only [List.mem_append, List.mem_cons] at hp ⊢; exact .inr (.inr hp))
        exact ⟨z3 _ _ (Nat.ne_of_lt (hlt p hp)) P.1, P.2⟩
  refine wpAt_of_wpAny (wpAny_execs_nil ?_)
  refine leaveK_ F₆ N₆ fun kF kN => ?_
  exact hq h₆ tk _ t2 od ⟨_, by rw [if_pos rfl], fun h hz => ⟨od, es, ep, hz, e2, e3, e5⟩⟩ kN kF (fun p hp => by
    rcases List.mem_cons.mp hp with rfl | hp
    · exact lt₆ (e, excObj 33 t2) (.head _)
    · exact lt₆ _ (.tail _ hp))
end
end Mine
end

/-! ## X6 -/
section
open PySem PySem.W PySem.Calls PyProof.Rows
namespace Mine
section
variable {α β γ δ : Type} {c : Cx} {lv : Nat} {ρ ρ' ρe : Rho} {as0 : List Addr} {ev : Env} {m : Str → Option Value} {H : AH} {news : List (Addr × Obj)} {h h' : Heap}
noncomputable def InitOk (c : Cx) (lv : Nat) : Prop :=
  ∀ (d' u' : Nat) (gd' : Option (List Code)) (s : Shared) (R : Result → Shared → Prop) (e tp : Addr) (tup : Obj) (x : Str) (t : Tok) (news0 : List (Addr × Obj)) (m : Str → Option Value),
    d' ≤ c.dp + 4 → c.Ok (lv + 1) → Fr c.h₀ c.L s.heap m → News c.h₀ c.L s.heap ((e, excObj 33 tp) :: (tp, tup) :: news0) → (∀ p ∈ (tp, tup) :: news0, p.1 < e) →
    (∀ h' tk dx t2 od, WordIs dx od x t → News c.h₀ c.L h' ((dx, od) :: (e, errObj t2 dx) :: (tp, tup) :: news0) → Fr c.h₀ c.L h' m → (∀ p ∈ (e, errObj t2 dx) :: (tp, tup) :: news0, p.1 < dx) → R (.ok (.ret .none)) { s with heap := h', toks := tk }) →
    codeAny (model PG c.w) ⟨none, d', some (c.env :: c.outer), gd', u'⟩ (.call (.ref 30) ⟨[.ref e, .str x t], []⟩) R s
theorem err_call {s : Shared} {Q : Value → Shared → Prop} {E : Value → Shared → Prop} {x : Str} {t : Tok} {news0 : List (Addr × Obj)} (FC : ErrCls c.K) (FI : InitOk c lv) (ok : c.Ok (lv + 1)) (F : Fr c.h₀ c.L s.heap m) (N : News c.h₀ c.L s.heap news0)
    (hq : ∀ h' tk e dx t2 od, WordIs dx od x t → News c.h₀ c.L h' ((dx, od) :: (e, errObj t2 dx) :: news0) → Fr c.h₀ c.L h' m → (∀ p ∈ news0, p.1 < e) → e < dx → Q (.ref e) { s with heap := h', toks := tk }) :
    wpAny (model PG c.w) c.A (call (.ref 33) [.str x t]) Q E s := by
  obtain ⟨nm, q, NN, bs, sn, sub, ab, col, dd, k0, k1, k2, k3, k5, hC, hnok, hn1, hn2, hn3, hn4⟩ := FC.cls
  obtain ⟨hh, g, d, tk, os⟩ := s
  have X : c.K.In hh := fun a o z => F.keep _ _ (ok.X a o z)
  refine exc_call PySem.F.excBase_Exception (X _ _ hC) X FC.ini FC.fn (by show 1 ≤ sizeLine; exact Nat.le_trans (by decide) (@Nat.le_of_ble_eq_true 1000000 sizeLine rfl)) ?_
  have F₁ := F.push { cls := .type "tuple", data := .seq [Value.str x t].toArray }
  have N₁ := N.push F { cls := .type "tuple", data := .seq [Value.str x t].toArray }
  have lt₁ : ∀ p ∈ (hh.objs.size, _) :: news0, p.1 < (hh.push { cls := .type "tuple", data := .seq [Value.str x t].toArray }).objs.size := fun p hp => Heap.lt_size (N₁ p hp).1
  have F₂ := F₁.push (excObj 33 hh.objs.size)
  have N₂ := N₁.push F₁ (excObj 33 hh.objs.size)
  have hlt0 : ∀ p ∈ news0, p.1 < hh.objs.size := fun p hp => Heap.lt_size (N p hp).1
  rw [Heap.size_push] at N₂ lt₁
  show codeAny _ ⟨none, c.dp + 1, some (c.env :: c.outer), c.gd, c.un + 1⟩ _ _ _
  refine FI (c.dp + 1) (c.un + 1) c.gd _ _ (hh.objs.size + 1) hh.objs.size _ x t news0 m (by omega) ok F₂ N₂ lt₁ fun h' tk dx t2 od w1 w2 w3 w4 => ⟨rfl, ?_⟩
  refine hq h' tk (hh.objs.size + 1) dx t2 od w1 (fun p hp => w2 p ?_) w3 (fun p hp => Nat.lt_succ_of_lt (hlt0 p hp)) (w4 _ (.head _))
  rcases List.mem_cons.mp hp with rfl | hp
  · exact .head _
  · rcases List.mem_cons.mp hp with rfl | hp
    · exact .tail _ (.head _)
    · exact .tail _ (.tail _ (.tail _ hp))
section
variable {M : Model} {A : Around} {E : Value → Shared → Prop} {env : Env}
variable {nm q : Str} {C N : Addr} {bs bm : List Value} {hdct : Bool} {sn : List Str} {sub : List Value} {ab : Bool} {col : Option Bool} {dd : Option Addr} {k0 k1 k2 k3 k5 : Option Value} {newId : String}
theorem raiseD {s : Shared} {x : Sem Value} {Q : Flow → Shared → Prop} (hbase : bm.contains (.type "BaseException") = true) (hh : A.handled = none)
    (h : wpAny M A x (fun v s₁ => ∃ e o vs, v = .ref e ∧ s₁.heap.get? C = some (excClassObj nm q C N bs bm hdct sn sub ab col dd k0 k1 k2 k3 k5 newId) ∧
      s₁.heap.get? e = some o ∧ o.cls = .ref C ∧ o.data = .fields vs ∧ vs[1]? = some .none ∧ E (.ref e) s₁) E s) :
    wpAny M A (raiseStmt env (some x) none) Q E s := by
  have hcB : (Value.ref C :: bm).contains (.type "BaseException") = true := by rw [List.contains_cons, hbase, Bool.or_true]
  unfold raiseStmt
  refine wpAny_bind (wpAny_mono h (fun v s₁ h₁ => ?_) fun _ _ x => x)
  obtain ⟨e, o, vs, rfl, hC, he, hc, hd, h1, hE⟩ := h₁
  obtain ⟨hp, g, d, tk, os⟩ := s₁
  repeat (first | (with_reducible refine wpAny_loadPart_at he ?_; first | rw [hc] | rw [hd]) | with_reducible refine wpAny_loadPart_at hC ?_ | (with_reducible refine wpAny_isSubtype_exc hC ?_; rw [hcB]) | wp_step)
  rw [hd]
  refine wpAny_pure ?_
  rw [h1]
  refine wpAny_pure ?_
  rw [if_neg (by decide)]
  exact wpAny_pure (wpAny_raiseNew_none hh hE)
end
theorem raisedD {s : Shared} {e dx t2 : Addr} {od : Obj} {x : Str} {t : Tok} (ok : c.Ok lv) (S : St c ρ m H news s.heap) (U : ∀ b o, c.h₀.get? b = some o → h'.get? b = some o) (F : Fr c.h₀ c.L h' m) (w : WordIs dx od x t) (N : News c.h₀ c.L h' ((dx, od) :: (e, errObj t2 dx) :: (news ++ c.own))) (lt : ∀ p ∈ news ++ c.own, p.1 < e) (le : e < dx) : ErrR c x H (.ref e) h' := by
  have hfrm : (c.env :: c.outer).filterMap (·.frame) = c.L :: c.outer.filterMap (·.frame) := rfl
  have hff : h'.FunFrames c.base (c.env :: c.outer) := by
    refine ⟨by show c.cs.kind ≠ .module; rw [ok.hke]; decide, ?_, ok.B.frames.of_keeps fun b o hb _ => ⟨o, U b o hb, rfl⟩⟩
    obtain ⟨oL, es, ep, hL, hd, _⟩ := F.ns
    refine ⟨c.L, oL, rfl, ?_, hL, fun vs z => by rw [hd] at z; cases z⟩
    cases hq : c.base.get? c.L with
    | none => rfl
    | some o => exact absurd (Nat.lt_of_lt_of_le (Heap.lt_size (ok.B.stays c.L o hq)) F.above) (Nat.lt_irrefl _)
  have hfree : ∀ p ∈ (dx, od) :: (e, errObj t2 dx) :: (news ++ c.own), p.1 ∉ (c.env :: c.outer).filterMap (·.frame) := by
    intro p hp hm
    rw [hfrm] at hm
    rcases List.mem_cons.mp hm with q | q
    · exact (N p hp).2.1 q
    · obtain ⟨o, ho, _⟩ := (ok.B.frames.mem q).2
      rw [(N p hp).2.2] at ho; cases ho
  have hbn : ∀ p ∈ (dx, od) :: (e, errObj t2 dx) :: (news ++ c.own), c.base.get? p.1 = none := fun p hp => fresh_of_stays ok.B.stays (N p hp).2.2
  refine ⟨e, dx, od, t, news, rfl, w, S.R, S.Fz, S.nd, fun q hq => (N q (by rcases List.mem_cons.mp hq with rfl | hq; exact .head _; exact .tail _ (.tail _ hq))).2.2, .of_keeps U, ⟨_, F.ns⟩, hideAll h' (e :: (c.env :: c.outer).filterMap (·.frame)), fun b o hb => ?_, fun b o hb hm => ?_, fun q hq => ?_, ⟨fun b o z => of_hideAll _ z, hideAll_none _ (.head _), funFrames_hide hff fun env he b hb => .tail _ (List.mem_filterMap.mpr ⟨env, he, hb⟩)⟩, .inr ⟨_, _, (N (e, errObj t2 dx) (.tail _ (.head _))).1, ⟨rfl, rfl⟩, rfl, rfl⟩⟩
  · refine hideAll_get _ (U b o (ok.B.stays b o hb)) fun hm => ?_
    rcases List.mem_cons.mp hm with z | hm
    · have := hbn (e, errObj t2 dx) (.tail _ (.head _)); rw [← z, hb] at this; cases this
    · rw [(hff.mem hm).1] at hb; cases hb
  · refine hideAll_get _ (U b o hb) fun hm' => ?_
    rcases List.mem_cons.mp hm' with z | hm'
    · have := (N (e, errObj t2 dx) (.tail _ (.head _))).2.2; rw [← z, hb] at this; cases this
    · exact hm hm'
  · have hq' : q ∈ (dx, od) :: (e, errObj t2 dx) :: (news ++ c.own) := by
      rcases List.mem_cons.mp hq with rfl | hq
      · exact .head _
      · exact .tail _ (.tail _ hq)
    refine ⟨hideAll_get _ (N q hq').1 fun hm => ?_, hbn q hq'⟩
    rcases List.mem_cons.mp hm with z | hm
    · rcases List.mem_cons.mp hq with rfl | hq
      · exact absurd le (by rw [← z]; exact Nat.lt_irrefl _)
      · exact absurd (lt q hq) (by rw [z]; exact Nat.lt_irrefl _)
    · exact hfree q hq' hm
theorem X_raise {x : Str} {np cpos pos p : Pos} {k : Nat} (FC : ErrCls c.K) (FI : InitOk c lv) (hn : nsIn c.K mainGlobals "DiskError" = some (some (.ref 33))) (hkp : keepIn c.K (.ref 33) = true) (hx : c.cs.names.lookup ("DiskError" : Str) = some .globalImplicit) :
    SimX c (lv + 1) ρ (.Raise (some (.Call (.Name "DiskError" np) [.Constant (.str x) k p] [] cpos)) none pos) (fun H => .err x H) (fun _ : Unit => ρ) := by
  intro H news s mloc ok S Q E hr
  obtain ⟨nm, q, NN, bs, sn, sub, ab, col, dd, k0, k1, k2, k3, k5, hC, hnok, hn1, hn2, hn3, hn4⟩ := FC.cls
  replace hr : BB c s E x H := hr
  rw [arm_exec_Raise]
  simp only [evalOpt, Option.map]
  refine wpAny_bind (wpAny_standAt (raiseD (C := 33) (nm := nm) (q := q) (N := NN) (bs := bs) (bm := errBm) (hdct := true) (sn := sn) (sub := sub) (ab := ab) (col := col) (dd := dd) (k0 := k0) (k1 := k1) (k2 := k2) (k3 := k3) (k5 := k5) (newId := "Exception.__new__") (by decide) rfl (wpAny_bind (wpAny_Call_ofName ?_))))
  refine nameX_K S.F ok.X (topRead_of ok.T) hn ?_ ok.hke hx
  refine callWith_K (K := c.K) ok.X hkp (spliced_more (Calls.Constant_str ?_)) 
  refine Calls.spliced_nil ⟨fun a o e => S.F.keep _ _ (ok.X a o e), ?_⟩
  refine err_call (s := _) FC FI ok S.F S.N fun h' tk e dx t2 od w N' F' l1 l2 => ?_
  refine wpAny_bind (wpAny_standAt (wpAny_pure ⟨e, errObj t2 dx, _, rfl, F'.keep _ _ (ok.X _ _ hC), (N' _ (.tail _ (.head _))).1, rfl, rfl, rfl, ?_⟩))
  exact hr _ _ _ (raisedD (s := s) ok S F'.keep F' w N' l1 l2)
end
end Mine
end

/-! ## X7 -/
section
open PySem PySem.W PySem.Calls PyProof.Rows
namespace Mine
/-! the ground after a catch: the outer frames' slots have changed -/
abbrev Cx.at (c : Cx) (g : Heap) : Cx := { c with h₀ := g }
abbrev Cx.fs (c : Cx) : List Addr := c.outer.filterMap (·.frame)
section
variable {α β γ δ : Type} {c : Cx} {lv : Nat} {ρ ρ' ρe : Rho} {as0 : List Addr} {ev : Env} {m : Str → Option Value} {H : AH} {news : List (Addr × Obj)} {h h' g g' : Heap}
structure GT (c : Cx) (g' : Heap) : Prop where
  turn : KtsTurn c.fs c.h₀ g'
  B : Below c.A₀ c.base c.outer g'
theorem GT.ok (x : GT c g') (ok : c.Ok lv) : (c.at g').Ok lv := ⟨x.B, ok.XB.keeps x.B.stays, ok.TB.keeps x.B.stays, ok.hke, ok.hdp, ok.hun, ok.XB, ok.TB⟩
theorem GT.refl (ok : c.Ok lv) : GT c c.h₀ := ⟨.refl, ok.B⟩
theorem GT.trans (x : GT c g) (y : GT (c.at g) g') : GT c g' := ⟨x.turn.trans y.turn, y.B⟩
theorem GT.mk' (ok : c.Ok lv) (T : KtsTurn c.fs c.h₀ g') : GT c g' := by
  refine ⟨T, ok.B.stack, fun b o e => T.other b o (ok.B.stays b o e) (fun hm => ?_), ok.B.frames.of_keeps fun b o e _ => ?_⟩
  · rw [(ok.B.frames.mem hm).1] at e; cases e
  · obtain ⟨sl, hs⟩ := T.up e
    exact ⟨_, hs, rfl⟩
/-- the ground where it was caught -/
theorem groundD {B h₅ : Heap} {mm : Str → Option Value} (ok : c.Ok lv) (ha : c.h₀.objs.size ≤ c.L) (hG : ∀ b o, c.h₀.get? b = some o → b ∉ (c.env :: c.outer).filterMap (·.frame) → B.get? b = some o) (hB : B.StaysIn h₅) (U : c.h₀.UpToSlots h₅) (hn : h₅.Ns c.L mm) :
    ∃ g', GT c g' ∧ Fr g' c.L h₅ mm := by
  have hL : c.h₀.get? c.L = none := by
    cases q : c.h₀.get? c.L with
    | none => rfl
    | some o => exact absurd (Nat.lt_of_lt_of_le (Heap.lt_size q) ha) (Nat.lt_irrefl _)
  obtain ⟨T₁, S₁⟩ := kts_turn_at (h := h₅) (fs := c.fs) (g := c.h₀)
    (fun b hb => by obtain ⟨_, o, ho, _⟩ := ok.B.frames.mem hb; exact ⟨o, ho⟩)
    (fun b o e nm => hB _ _ (hG b o e fun q => by
      rcases List.mem_cons.mp (show b ∈ c.L :: c.fs from q) with z | z
      · rw [z, hL] at e; cases e
      · exact nm z))
    (fun b o e hm => by
      obtain ⟨_, o', ho, hd⟩ := ok.B.frames.mem hm
      rw [e] at ho; cases ho
      exact U b o e hd)
  exact ⟨_, .mk' ok T₁, hn, S₁, by rw [T₁.size]; exact ha⟩
theorem GT.none (x : GT c g') {b : Addr} (e : c.h₀.get? b = none) : g'.get? b = none := x.turn.none_ b e
/-- the ground of the caller after a callee whose ground has turned -/
theorem retS {L' : Addr} {m' : Str → Option Value} {news' : List (Addr × Obj)} (ok : c.Ok lv) (F0 : Fr c.h₀ c.L h m) (FG : Fr c.h₀ c.L g m) (st : c.h₀.StaysIn g) (T' : KtsTurn (c.L :: c.fs) g g') (F' : Fr g' L' h' m') (N' : News g' L' h' news') :
    ∃ h₀', GT c h₀' ∧ Fr h₀' c.L h' m ∧ News h₀' c.L h' news' := by
  have nL₀ : c.h₀.get? c.L = none := kts_self F0
  obtain ⟨oL, es, ep, hLg, hLd, hLk, hLf⟩ := FG.ns
  obtain ⟨sl, hs⟩ := T'.up hLg
  obtain ⟨T₁, S₁⟩ := kts_turn_at (h := h') (fs := c.fs) (g := c.h₀)
    (fun b hb => by obtain ⟨_, o, ho, _⟩ := ok.B.frames.mem hb; exact ⟨o, ho⟩)
    (fun b o e nm => F'.keep b o (T'.other b o (st b o e) (fun q => by
      rcases List.mem_cons.mp q with z | z
      · rw [z, nL₀] at e; cases e
      · exact nm z)))
    (fun b o e hm => by
      obtain ⟨sl', hs'⟩ := T'.up (st b o e)
      exact ⟨sl', F'.keep _ _ hs'⟩)
  refine ⟨_, .mk' ok T₁, ⟨⟨_, es, ep, F'.keep _ _ hs, hLd, hLk, hLf⟩, S₁, by rw [T₁.size]; exact F0.above⟩, fun p hp => ⟨(N' p hp).1, fun q => ?_, T₁.none_ _ ?_⟩⟩
  · have := (N' p hp).2.2; rw [q, hs] at this; cases this
  · cases q : c.h₀.get? p.1 with
    | none => rfl
    | some o =>
      obtain ⟨sl', hs'⟩ := T'.up (st _ _ q)
      have := (N' p hp).2.2
      rw [hs'] at this; cases this
/-- with no outer frame the ground is as it was -/
theorem GT.nil {news' : List (Addr × Obj)} {L : Addr} (x : GT c g') (h0 : c.outer = []) (F : Fr g' L h' m) (N : News g' L h' news') : Fr c.h₀ L h' m ∧ News c.h₀ L h' news' := by
  have hf : c.fs = [] := by show c.outer.filterMap _ = []; rw [h0]; rfl
  have T := x.turn
  rw [hf] at T
  refine ⟨⟨F.ns, fun b o e => F.keep b o (T.other b o e (fun q => nomatch q)), by rw [← T.size]; exact F.above⟩, fun p hp => ⟨(N p hp).1, (N p hp).2.1, ?_⟩⟩
  cases q : c.h₀.get? p.1 with
  | none => rfl
  | some o => have := T.other _ _ q (fun z => nomatch z); rw [(N p hp).2.2] at this; cases this
end
end Mine
end

/-! ## X8 -/
section
open PySem PySem.W PySem.Calls PyProof.Rows
namespace Mine
section
variable {prog : Program} {w : World} {A : Around} {E : Value → Shared → Prop} {h : Heap} {g : Array GenState} {d : Drawn} {t : Nat} {os : OsState} {a dx : Addr} {o : Obj}
  {nm q : Str} {C N : Addr} {bs : List Value} {sn : List Str} {sub : List Value} {ab : Bool} {col : Option Bool} {dd : Option Addr} {k0 k1 k2 k3 k5 : Option Value} {newId : String} {mN mm : Str → Option Value} {v : Value}
theorem word_entry {tk : Tok} {Q : PySem.Fin → Shared → Prop} (hC : h.get? C = some (excClassObj nm q C N bs errBm true sn sub ab col dd k0 k1 k2 k3 k5 newId)) (hN : h.Ns N mN) (hw : mN "word" = none)
    (hx : h.get? a = some o) (hc : o.cls = .ref C) (hnc : ∀ c, o.data ≠ .cls c) (hd : o.dict = some dx) (hm : h.Ns dx mm) (hv : mm "word" = some v) (hq : Q (.done (.ret v)) ⟨h, g, d, t, os⟩) :
    wpAny (model prog w) A (Builtin.«object.__getattribute__» ⟨[.ref a, .str "word" tk], []⟩) Q E ⟨h, g, d, t, os⟩ := by
  unfold Builtin.«object.__getattribute__»
  repeat (first | (with_reducible refine wpAny_loadPart_at hx ?_; rw [hc]) | (with_reducible refine wpAny_typeLookup_exc hC hN PySem.F.attrBase_Exception.mro F.word_exc ?_; rw [hw]) | wp_step)
  split
  · rename_i c hcd
    exact absurd hcd (hnc c)
  unfold instanceDict
  repeat (first | (with_reducible refine wpAny_loadPart_at hx ?_; rw [hc]) | with_reducible refine wpAny_loadPart_at hC ?_ | wp_step)
  rw [hd]
  repeat (first | (with_reducible refine wpAny_nsGet hm ?_; rw [hv]) | wp_step)
  exact hq
theorem word_by {tk : Tok} {fill expr : Bool} {Q : Value → Shared → Prop} (hC : h.get? C = some (excClassObj nm q C N bs errBm true sn sub ab col dd k0 k1 k2 k3 k5 newId)) (hN : h.Ns N mN) (hw : mN "word" = none) (hg1 : mN "__getattribute__" = none) (hg2 : mN "__getattr__" = none)
    (hx : h.get? a = some o) (hc : o.cls = .ref C) (hnc : ∀ c, o.data ≠ .cls c) (hd : o.dict = some dx) (hm : h.Ns dx mm) (hv : mm "word" = some v) (hh : handedOut v = pure v) (hq : Q v ⟨h, g, d, t, os⟩) :
    wpAny (model prog w) A (getAttrBy (.ref a) (.str "word" tk) fill expr) Q E ⟨h, g, d, t, os⟩ := by
  have f3 := PySem.F.attrBase_Exception.ga.bind (.ref a)
  have hx0 : (expr && onTheHeap (Value.builtin "BaseException.__getattribute__")) = false := by cases expr <;> rfl
  have hx2 : (Value.builtin "BaseException.__getattribute__" == Value.builtin "object.__getattribute__") = false := by decide +kernel
  have hx1 : (onTheHeap (Value.ref C) && Value.builtin "BaseException.__getattribute__" == Value.builtin "object.__getattribute__") = false := by rw [hx2]; rfl
  repeat (any_goals (first | assumption | (with_reducible refine wpAny_loadPart_at hx ?_; rw [hc]) | (with_reducible refine wpAny_typeLookup_exc hC hN PySem.F.attrBase_Exception.mro PySem.F.attrBase_Exception.ga.lookup ?_; rw [hg1]) | (with_reducible refine wpAny_typeLookup_exc hC hN PySem.F.attrBase_Exception.mro PySem.F.attrBase_Exception.noGetattr ?_; rw [hg2]) | wp_step))
  refine codeAny_call_builtin PySem.F.attrBase_Exception.ga.plain PySem.F.entry_bexc_ga (wpAny_check_ga_own PySem.F.attrBase_Exception hC .base hx hc (word_entry hC hN hw hx hc hnc hd hm hv ?_))
  show wpAny _ _ (handedOut v) _ _ _
  rw [hh]
  exact wpAny_pure hq
theorem word_get {expr : Bool} {Q : Value → Shared → Prop} (hC : h.get? C = some (excClassObj nm q C N bs errBm true sn sub ab col dd k0 k1 k2 k3 k5 newId)) (hN : h.Ns N mN) (hw : mN "word" = none) (hg1 : mN "__getattribute__" = none) (hg2 : mN "__getattr__" = none)
    (hx : h.get? a = some o) (hc : o.cls = .ref C) (hnc : ∀ c, o.data ≠ .cls c) (hd : o.dict = some dx) (hm : h.Ns dx mm) (hv : mm "word" = some v) (hh : handedOut v = pure v) (hq : Q v ⟨h, g, d, t + 1, os⟩) :
    wpAny (model prog w) A (getAttr (.ref a) "word" expr) Q E ⟨h, g, d, t, os⟩ := by
  unfold getAttr
  repeat (any_goals (first | assumption | with_reducible apply word_by hC hN hw hg1 hg2 hx hc hnc hd hm hv hh | wp_step))
end
end Mine
end

/-! ## X9 -/
section
open PySem PySem.W PySem.Calls PyProof.Rows
namespace Mine
theorem landD2 {M : Model} {A : Around} {E : Value → Shared → Prop} {s : Shared} {base : Heap} {l : List Env} {e C dx : Addr} {fl : Value} {Q : Unit → Shared → Prop} (G : GrdD base l e s.heap) (T : TrcD base s.heap e C dx fl)
    (hQ : ∀ h', GrdD base l e h' → TrcD base h' e C dx .none → s.heap.UpToSlots h' → Q () { s with heap := h' }) : wpAny M A (setFlight (.ref e) none) Q E s := by
  obtain ⟨oe, vs, T, oT, ts, he, hx, hd, h1, hnT, hTe, hT, hdT, h3⟩ := T
  unfold setFlight
  refine wpAny_bind (wpAny_field he hd h1 ?_)
  rw [if_pos (show (Value.ref T != Value.none) = true from by simp)]
  exact markD G he hx hd h1 hnT hTe hT hdT h3 fun h' G' T' _ U => hQ h' G' T' U
section
variable {α β γ δ : Type} {c : Cx} {lv : Nat} {ρ ρ' ρe : Rho} {as0 : List Addr} {ev : Env} {m : Str → Option Value} {H : AH} {news : List (Addr × Obj)} {h h' g g' : Heap}
theorem catchD {x : Str} {e : Value} {h₁ : Heap} {s : Shared} {tk : Nat} {np q5 q6 q7 q8 : Pos} {Q : Flow → Shared → Prop} {E : Value → Shared → Prop} (FC : ErrCls c.K) (ok : c.Ok lv) (ha : c.h₀.objs.size ≤ c.L) (R : ErrR c x H e h₁) (hcix : c.cix = [])
    (hn : nsIn c.K mainGlobals "DiskError" = some (some (.ref 33))) (hx : c.cs.names.lookup ("DiskError" : Str) = some .globalImplicit) (hxe : c.cs.names.lookup ("e" : Str) = some .local)
    (k : ∀ g' m' h' tk' news' t, GT c g' → St (c.at g') no m' H news' h' → Q (.ret (.str x t)) { s with heap := h', toks := tk' }) :
    wpAny (model PG c.w) c.A (noteFrame e c.env) (fun _ s₂ => wpAny (model PG c.w) c.A (setFlight e none) (fun _ s₃ =>
      wpAny (model PG c.w) c.A (handleBy e c.env [.ExceptHandler (some (.Name "DiskError" np)) (some "e") [.Return (some (.Attribute (.Name "e" q5) "word" q6)) q7] q8]) Q E s₃) E s₂) E { s with heap := h₁, toks := tk } := by
  obtain ⟨nm, q, NN, bs, sn, sub, ab, col, dd, k0, k1, k2, k3, k5, hC, hnok, hn1, hn2, hn3, hn4⟩ := FC.cls
  obtain ⟨ea, dx, od, t, news', rfl, ⟨mw, w1, w2⟩, R, fz, nd, fr, U, ⟨mm, hns⟩, B, hB, hG, hl, hfl⟩ := R
  refine noteD (L := c.L) rfl rfl hfl fun h₄ x₄ U₄ => landD x₄ fun h₅ G₅ T₅ U₅ => ?_
  obtain ⟨g₅, gt₅, F₅⟩ := groundD ok ha hG G₅.st ((U.trans U₄).trans U₅) ((U₄.trans U₅).ns hns)
  have ok₅ := gt₅.ok ok
  refine wpAny_handleBy_cons (codeAny_handlers_test (nameX_K F₅ ok₅.X (topRead_of ok₅.T) hn ?_ ok.hke hx)) (by intro q; cases q)
  obtain ⟨oe, vs, _, _, _, he, hcl, hd, _⟩ := id T₅
  refine wpAny_excMatches_sub_self (F₅.keep _ _ (ok₅.X _ _ hC)) he hcl.1 (by decide) (codeAny_handlers_suite_as ?_)
  refine landD2 G₅ T₅ fun h₆ G₆ T₆ U₆ => ?_
  have U6 := ((U.trans U₄).trans U₅).trans U₆
  obtain ⟨g₆, gt₆, F₆⟩ := groundD ok ha hG G₆.st U6 (((U₄.trans U₅).trans U₆).ns hns)
  have ok₆ := gt₆.ok ok
  obtain ⟨oe, vs, _, _, _, he, hcl, hd, _⟩ := id T₆
  have hLB : B.get? c.L = none := (G₆.ff.mem (b := c.L) (.head _)).1
  have hea : c.h₀.get? ea = none := by
    cases z : c.h₀.get? ea with
    | none => rfl
    | some o =>
      have nf : ea ∉ (c.env :: c.outer).filterMap (·.frame) := fun hm => by
        obtain ⟨_, o', ho', hd'⟩ := G₆.ff.mem hm
        rw [he] at ho'; cases ho'
        exact hd' vs hd
      have := hG ea o z nf
      rw [G₆.no] at this; cases this
  have N₆ : News g₆ c.L h₆ ((ea, oe) :: (dx, od) :: (news' ++ c.own)) := by
    intro p hp
    rcases List.mem_cons.mp hp with rfl | hp
    · refine ⟨he, fun z => ?_, gt₆.none hea⟩
      obtain ⟨oL, es, ep, hL, hLd, _⟩ := F₆.ns
      dsimp only at z
      rw [← z, he] at hL; cases hL; rw [hd] at hLd; cases hLd
    · exact ⟨G₆.st _ _ (hl p hp).1, (fun z => by have := (hl p hp).1; rw [z, hLB] at this; cases this), gt₆.none (fr p hp)⟩
  refine storeX_L F₆ N₆ (fun h₇ F₇ N₇ => ?_) ok.hke hxe
  refine wpAny_execs_cons (wpAny_Return_some (Attribute_name (nameX_L F₇ (by rw [if_pos rfl]) ?_ ok.hke hxe)))
  have X₇ : c.K.In h₇ := fun a o z => F₇.keep _ _ (ok₆.X a o z)
  refine word_get (X₇ _ _ hC) (.of_isNs (isNs_of_in X₇ hnok)) (nsMap_none_of_in X₇ hnok hn2) (nsMap_none_of_in X₇ hnok hn3) (nsMap_none_of_in X₇ hnok hn4) (N₇ _ (.head _)).1 hcl.1 (fun c z => by rw [hd] at z; cases z) hcl.2 (w2 _ (N₇ _ (.tail _ (.head _))).1) w1 rfl ?_
  refine wpAny_nameGoes (m := _) hxe F₇.ns (by show (c.cs.kind == .class || (c.cs.kind == .module && c.L != mainGlobals)) = false; rw [ok.hke]; rfl) fun h₈ m₈ hn₈ hs₈ => ?_
  have F₈ : Fr g₆ c.L h₈ m₈ := F₇.set hn₈ hs₈
  have N₈ := N₇.set hs₈
  exact k g₆ m₈ h₈ _ news' t gt₆ ⟨F₈, fun p hp => N₈ p (.tail _ (.tail _ hp)), nd, R, (fun x a e => by cases e), (fun x i e => by rw [show (c.at g₆).cix = [] from hcix] at e; cases e), fz⟩
end
end Mine
end

/-! ## X10 -/
section
open PySem PySem.W PySem.Calls PyProof.Rows
namespace Mine
section
variable {α β γ δ : Type} {c : Cx} {lv : Nat} {ρ ρ' ρe : Rho} {as0 : List Addr} {ev : Env} {m mloc : Str → Option Value} {H : AH} {news : List (Addr × Obj)} {h h' g g' : Heap}
/-- a lambda without arguments is called -/
theorem lam_call {s : Shared} {name qual : Str} {params : Arguments} {body : PySem.Expr} {scope : Scope} {clos : List (Str × Addr)} {pm ctv : Value} {c' f : Addr} {oc : Obj} {vs : Array Value} {t : Tok} {cix' : List (Str × Nat)} {mb : AM AV} {Q : Value → Shared → Prop} {E : Value → Shared → Prop}
    (ok : c.Ok (lv + 1)) (S : St c ρ mloc H news s.heap) (hf : (f, kla_obj name qual params body scope clos pm c' ctv) ∈ c.own) (hc : (c', oc) ∈ c.own) (hd : oc.data = .fields vs) (hv : vs[1]? = some (.str qual t))
    (hbind : bindArgs (kla_fn name qual params body scope clos pm (.ref c') ctv) ⟨[], []⟩ = pure [])
    (hco : scope.isCoroutine = false) (hgen : scope.isGenerator = false) (hk : scope.kind = .function) (hcell : (scope.names.all fun x => x.2 != .cell) = true)
    (hcl : ∀ x i, cix'.lookup x = some i → ∃ a, clos.lookup x = some a ∧ (Ads news)[i]? = some a)
    (hbody : ∀ g L', SimE (c.callee c.dp c.un c.gd qual scope f (.ref c') clos g L' cix') lv no (c.callee c.dp c.un c.gd qual scope f (.ref c') clos g L' cix').env body mb)
    (hr : (mb H).run (GG c ρ mloc news s VR Q) (BB c s E)) : wpAny (model PG c.w) c.A (call (.ref f) []) Q E s := by
  have hdp := ok.hdp
  have hun := ok.hun
  refine wpAny_call (kla_code (env := c.env) (outer := c.outer) ok.B S.F ok.X S.N ok.T rfl rfl ok.hke (List.mem_append_right _ hf) (codeRec_news S.N (List.mem_append_right _ hc) hd hv) (by show c.dp < 1000; omega) hbind (fun y hy => nomatch hy)
    (fun g L' h₁ FG F' N' B' X' T' => ?_) hco hgen hk (fun x hx => bne_iff_ne.mp (List.all_eq_true.mp hcell x hx)))
  have ok' : (c.callee c.dp c.un c.gd qual scope f (.ref c') clos g L' cix').Ok lv := ⟨B', X', T', hk, by show c.dp + 1 + 8 * lv < 1000; omega, by show c.un + 3 + 100 * lv < 9900; omega, ok.XB, ok.TB⟩
  have S' : St (c.callee c.dp c.un c.gd qual scope f (.ref c') clos g L' cix') no (fun y => ([] : List (Str × Value)).reverse.lookup y) H news h₁ := ⟨F', N', S.nd, S.R, (fun x a e => by cases e), hcl, S.Fz⟩
  refine hbody g L' [] H news { s with heap := h₁, toks := s.toks + ([] : List (Str × Value)).length } _ ok' List.nil_prefix S' _ _ (hr.mono (fun o H' gg => ?_) fun x H' bb => ?_)
  · intro v h' tk news' S'' p r
    exact leaveK_ S''.F S''.N fun kF kN => gg v h' tk news' ⟨kF, kN, S''.nd, S''.R, S.Lc.mono p, fun x i e => (S.Cl x i e).imp fun _ q => ⟨q.1, idx_pre p q.2⟩, S''.Fz⟩ p r
  · intro e h' tk R'
    exact ErrR.leave (c := c) (c' := c.callee c.dp c.un c.gd qual scope f (.ref c') clos g L' cix') rfl rfl ⟨rfl, rfl, rfl⟩ FG.keep FG.ns (kts_self F') R' fun h'' R'' => bb e h'' tk R''
noncomputable def wordRes (mb : AM AV) : AM AV := fun H => match mb H with
  | .ok _ H' => .ok (.str "done") H'
  | .err x H' => .ok (.str x) H'
  | .stuck => .stuck
theorem word_body {s : Shared} {name qual : Str} {params : Arguments} {body : PySem.Expr} {scope : Scope} {clos : List (Str × Addr)} {pm ctv : Value} {c' f : Addr} {oc : Obj} {vs : Array Value} {t : Tok} {cix' : List (Str × Nat)} {mb : AM AV} {Q : Flow → Shared → Prop} {E : Value → Shared → Prop} {q1 q2 q3 np q5 q6 q7 q8 q9 q10 q11 : Pos} {kk : Nat}
    (FC : ErrCls c.K) (hn : nsIn c.K mainGlobals "DiskError" = some (some (.ref 33))) (hx : c.cs.names.lookup ("DiskError" : Str) = some .globalImplicit) (hxe : c.cs.names.lookup ("e" : Str) = some .local) (hxw : c.cs.names.lookup ("work" : Str) = some .local)
    (ok : c.Ok (lv + 1)) (S : St c no mloc H news s.heap) (hm : mloc "work" = some (.ref f)) (hcix : c.cix = []) (hpin : c.pin = Ads news)
    (hf : (f, kla_obj name qual params body scope clos pm c' ctv) ∈ c.own) (hc : (c', oc) ∈ c.own) (hd : oc.data = .fields vs) (hv : vs[1]? = some (.str qual t))
    (hbind : bindArgs (kla_fn name qual params body scope clos pm (.ref c') ctv) ⟨[], []⟩ = pure [])
    (hco : scope.isCoroutine = false) (hgen : scope.isGenerator = false) (hk : scope.kind = .function) (hcell : (scope.names.all fun x => x.2 != .cell) = true)
    (hcl : ∀ x i, cix'.lookup x = some i → ∃ a, clos.lookup x = some a ∧ (Ads news)[i]? = some a)
    (hbody : ∀ g L', SimE (c.callee c.dp c.un c.gd qual scope f (.ref c') clos g L' cix') lv no (c.callee c.dp c.un c.gd qual scope f (.ref c') clos g L' cix').env body mb)
    (hr : (wordRes mb H).run (fun a H' => ∀ v g' m' h' tk' news', GT c g' → St (c.at g') no m' H' news' h' → Ads news <+: Ads news' → VR (Ads news') a v → Q (.ret v) { s with heap := h', toks := tk' }) (fun _ _ => False)) :
    wpAny (model PG c.w) c.A (execs [.Try [.Expr (.Call (.Name "work" q1) [] [] q2) q3] [.ExceptHandler (some (.Name "DiskError" np)) (some "e") [.Return (some (.Attribute (.Name "e" q5) "word" q6)) q7] q8] [] [] q9, .Return (some (.Constant (.str "done") kk q10)) q11] c.env) Q E s := by
  refine wpAny_execs_cons (wpAny_Try_except (wpAny_execs_cons ?_))
  refine wpAny_Expr_any ?_ (by unfold interactive; show (c.cs.kind == .module && _) = false; rw [ok.hke]; rfl) rfl
  refine Call_ (nameX_L S.F hm ?_ ok.hke hxw) rfl
  refine callWith_F0 (FnAt.of S.N (List.mem_append_right _ hf)) ?_
  refine lam_call (s := s) ok S hf hc hd hv hbind hco hgen hk hcell hcl hbody ?_
  unfold wordRes at hr
  cases e : mb H with
  | ok b H' =>
    rw [e] at hr
    intro v h' tk news' S' p r
    refine wpAny_execs_nil (wpAny_execs_nil (wpAny_execs_cons (wpAny_Return_some (Calls.Constant_str ?_))))
    exact hr _ c.h₀ mloc h' _ news' (.refl ok) S' p ⟨_, rfl⟩
  | err x H' =>
    rw [e] at hr
    intro e h' tk R
    exact catchD FC ok S.F.above R hcix hn hx hxe fun g' m' h'' tk' news' t gt S' => hr _ g' m' h'' tk' news' gt S' (by have := S'.Fz.2; rw [show (c.at g').pin = Ads news from hpin] at this; exact this) ⟨t, rfl⟩
  | stuck => rw [e] at hr; exact hr.elim
end
end Mine
end

/-! ## X11 -/
section
open PySem PySem.W PySem.Calls PyProof.Rows
namespace Mine
theorem updF_at {D : Addr} {o : Obj} : ∀ {l : List (Addr × Obj)} {i : Nat}, (Ads l).Nodup → l[i]? = some (D, o) → ∃ gf, UpdF D o l gf ∧ ∀ o', gf o' = l.set i (D, o')
  | [], _, _, h => by simp at h
  | (a, x) :: r, 0, hd, h => by
    simp at h
    obtain ⟨rfl, rfl⟩ := h
    exact ⟨_, UpdF.head fun p hp e => (List.nodup_cons.mp hd).1 (List.mem_map.mpr ⟨p, hp, e⟩), fun _ => rfl⟩
  | (a, x) :: r, i + 1, hd, h => by
    simp only [List.getElem?_cons_succ] at h
    obtain ⟨gf, U, hg⟩ := updF_at (List.nodup_cons.mp hd).2 h
    exact ⟨_, UpdF.tail (fun e => (List.nodup_cons.mp hd).1 (List.mem_map.mpr ⟨_, List.mem_of_getElem? h, e.symm⟩)) U, fun o' => by rw [List.set_cons_succ, hg]⟩
theorem among_snoc {pos : Pos} {a b : Nat} {c : Value} (l : List Value) (h : TriplesOk l) (hn : codeAmong pos l = none) (hp : (pos.line, pos.col) ≠ (a, b)) : codeAmong pos (l ++ [rawInt a, rawInt b, c]) = none := by
  fun_induction TriplesOk l with
  | case1 =>
    simp only [List.nil_append, codeAmong, rawInt]
    rw [if_neg]
    intro z
    simp only [Bool.and_eq_true, beq_iff_eq] at z
    refine hp (Prod.ext ?_ ?_)
    · exact (Int.ofNat_inj.mp z.1).symm
    · exact (Int.ofNat_inj.mp z.2).symm
  | case2 a t b u x rest ih =>
    simp only [List.cons_append, codeAmong] at hn ⊢
    split at hn
    · cases hn
    · rename_i hc; rw [if_neg hc]; exact ih h hn
  | case3 l h1 h2 => exact h.elim
section
variable {α β γ δ : Type} {c : Cx} {lv : Nat} {ρ ρ' ρe : Rho} {as0 : List Addr} {ev : Env} {m mloc : Str → Option Value} {H : AH} {news : List (Addr × Obj)} {h h' g g' : Heap}
noncomputable def LeaveG (c : Cx) (m : Str → Option Value) (g : Heap) (R : Result → Shared → Prop) (v : Value) (s' : Shared) : Prop :=
  ∃ g' L' m' news', KtsTurn (c.L :: c.fs) g g' ∧ Fr g' L' s'.heap m' ∧ News g' L' s'.heap news' ∧ (∀ h₀', GT c h₀' → Fr h₀' c.L s'.heap m → News h₀' c.L s'.heap news' → R (.ok (.ret v)) s')
/-- a call whose ground may turn -/
theorem code_turn {d' u' : Nat} {gd' : Option (List Code)} {s : Shared} {R : Result → Shared → Prop} {binds : List (Str × Value)} {args : Args} {NN : List (Addr × Obj)}
    {name qual : Str} {params : Arguments} {body : List Stmt} {scope : Scope} {dV kV doc pm cdv ct oc : Value} {an od : Option Addr} {osl : Array (Option Value)} {f : Addr}
    (ho : c.K.lookup f = some ⟨oc, od, .func (fnOf name qual params body scope dV kV doc pm an cdv ct), osl⟩) (hcd : codeIn c.K cdv qual = true)
    (hb : BindsTo s (fnOf name qual params body scope dV kV doc pm an cdv ct) args binds) (hloc : ∀ y ∈ binds, scope.names.lookup y.1 = some .local)
    (hco : scope.isCoroutine = false) (hgen : scope.isGenerator = false) (hk : scope.kind = .function) (hcell : ∀ x ∈ scope.names, x.2 ≠ .cell)
    (hd : d' ≤ c.dp + 4) (ok : c.Ok (lv + 1)) (F : Fr c.h₀ c.L s.heap m) (N : News c.h₀ c.L s.heap NN)
    (h : ∀ g L' h₁, Fr c.h₀ c.L g m → c.h₀.StaysIn g → Fr g L' h₁ (fun y => binds.reverse.lookup y) → News g L' h₁ NN → Below ⟨none, d', some (c.env :: c.outer), gd', u'⟩ c.base (c.env :: c.outer) g → c.K.In g → Top c.p c.loose c.mean c.mg c.mb g → (∀ p ∈ NN, p.1 < L') →
      wpAny (model PG c.w) (Around.deeper ⟨none, d', some (c.env :: c.outer), gd', u'⟩ (envX qual scope L' f cdv [])) (execs body (envX qual scope L' f cdv []))
        (fun fl s' => LeaveG c m g R (match fl with | .ret v => v | _ => .none) s')
        (fun e s' => wpAny (model PG c.w) (Around.deeper ⟨none, d', some (c.env :: c.outer), gd', u'⟩ (envX qual scope L' f cdv [])) (leaving (envX qual scope L' f cdv []) e) (fun _ s'' => R (.error e) s'') (fun e' s'' => R (.error e') s'') s')
        { s with heap := h₁, toks := s.toks + binds.length }) :
    codeAny (model PG c.w) ⟨none, d', some (c.env :: c.outer), gd', u'⟩ (.call (.ref f) args) R s := by
  have hdp := ok.hdp
  obtain ⟨FG, BG, st, _⟩ := groundX (A := ⟨none, d', some (c.env :: c.outer), gd', u'⟩) (env := c.env) (R := R) ok.B F N rfl rfl ok.hke
  refine codeAny_call_def (fd := fnX name qual params body scope [] dV kV doc pm an cdv ct) (body := body) (binds := binds) (by show d' < 1000; omega) (F.keep _ _ (ok.X _ _ ho)) rfl (ok.T.nolimit.keeps F.keep) (codeRec_of (fun a o e => F.keep _ _ (ok.X a o e)) hcd) rfl hb hcell hloc (fun h₁ hns hk₁ => ?_) hco hgen hk
  refine wpAny_mono (h _ s.heap.objs.size h₁ FG st ⟨hns, fun b o e => hk₁ b o (of_hideAll _ e), Nat.le_of_eq (hideAll_size _ _)⟩
    (fun p hp => ⟨hk₁ _ _ (N p hp).1, Nat.ne_of_lt (Heap.lt_size (N p hp).1), hideAll_none _ (List.mem_map_of_mem hp)⟩) BG (ok.X.keeps st) (ok.T.keeps st) (fun p hp => Heap.lt_size (N p hp).1)) (fun fl s' hl => ?_) fun _ _ y => y
  obtain ⟨g', L', m', news', T', F', N', k⟩ := hl
  obtain ⟨h₀', gt, F₂, N₂⟩ := retS ok F FG st T' F' N'
  exact k h₀' gt F₂ N₂
/-! an expression that may turn the ground -/
noncomputable def SimG (c : Cx) (lv : Nat) (ρ : Rho) (ev : Env) (e : PySem.Expr) (m : AM AV) : Prop :=
  ∀ H news s mloc, c.Ok lv → St c ρ mloc H news s.heap → ∀ Q E, (m H).run (fun a H' => ∀ v g' h' tk news', GT c g' → St (c.at g') ρ mloc H' news' h' → Ads news <+: Ads news' → VR (Ads news') a v → Q v { s with heap := h', toks := tk }) (fun _ _ => False) → wpAny (model PG c.w) c.A (eval e ev) Q E s
noncomputable def wordM (i : Nat) (p : Nat × Nat) (mb : AM AV) : AM AV := fun H => match H[i]? with
  | some (.tab ts) => if p ∈ ts then .stuck else wordRes mb (H.set i (.tab (p :: ts)))
  | _ => .stuck
end
end Mine
end

/-! ## X12 -/
section
open PySem PySem.W PySem.Calls PyProof.Rows
namespace Mine
section
variable {α β γ δ : Type} {c : Cx} {lv : Nat} {ρ ρ' ρe : Rho} {as0 : List Addr} {ev : Env} {m mloc : Str → Option Value} {H : AH} {news : List (Addr × Obj)} {h h' g g' : Heap}
theorem St_tab {i : Nat} {P c' : Addr} {ps : Array Value} {a b : Nat} {ts : List (Nat × Nat)} (S : St c ρ m H news h) (hH : H[i]? = some (.tab ts)) (hi : news[i]? = some (P, tabObj ps)) (ht : TriplesOk ps.toList) (hno : ∀ pos : Pos, (pos.line, pos.col) ∉ ts → codeAmong pos ps.toList = none)
    (F' : Fr c.h₀ c.L h' m) (N' : News c.h₀ c.L h' ((news ++ c.own).set i (P, tabObj (ps ++ #[rawInt a, rawInt b, .ref c'])))) :
    St c ρ m (H.set i (.tab ((a, b) :: ts))) (news.set i (P, tabObj (ps ++ #[rawInt a, rawInt b, .ref c']))) h' ∧ Ads news = Ads (news.set i (P, tabObj (ps ++ #[rawInt a, rawInt b, .ref c']))) := by
  have ho : OR (Ads news) (.tab ((a, b) :: ts)) (tabObj (ps ++ #[rawInt a, rawInt b, .ref c'])) := by
    refine ⟨_, rfl, ?_, fun pos hp => ?_⟩
    · rw [Array.toList_append]; exact TriplesOk_snoc a b _ _ ht
    · rw [Array.toList_append]
      exact among_snoc _ ht (hno pos fun z => hp (.tail _ z)) fun z => hp (by rw [z]; exact .head _)
  obtain ⟨S', _⟩ := S.set hH (fun ns q => by cases q) hi F' N' ho
  exact ⟨S', (S.R.set (H := H) hi ho).2.symm⟩
/-- `_law_word(lambda: ..)` -/
theorem G_word {i : Nat} {cc P : Addr} {np pos lpos : Pos} {params : Arguments} {lbody : PySem.Expr} {scope : Scope} {clos : List (Str × Addr)} {cix' : List (Str × Nat)} {mb : AM AV}
    {name₂ qual₂ : Str} {params₂ : Arguments} {scope₂ : Scope} {dV kV doc pm cdv₂ ct oc₂ : Value} {an od : Option Addr} {osl : Array (Option Value)} {q1 q2 q3 q4 q5 q6 q7 q8 q9 q10 q11 : Pos} {kk : Nat}
    (FC : ErrCls c.K) (hnE : nsIn c.K mainGlobals "DiskError" = some (some (.ref 33)))
    (hw : nsIn c.K mainGlobals "_law_word" = some (some (.ref 233))) (hkw : keepIn c.K (.ref 233) = true) (hxn : c.cs.names.lookup ("_law_word" : Str) = some .globalImplicit)
    (ho : c.K.lookup 233 = some ⟨oc₂, od, .func (fnOf name₂ qual₂ params₂ [.Try [.Expr (.Call (.Name "work" q1) [] [] q2) q3] [.ExceptHandler (some (.Name "DiskError" q4)) (some "e") [.Return (some (.Attribute (.Name "e" q5) "word" q6)) q7] q8] [] [] q9, .Return (some (.Constant (.str "done") kk q10)) q11] scope₂ dV kV doc pm an cdv₂ ct), osl⟩) (hcd : codeIn c.K cdv₂ qual₂ = true)
    (hb : ∀ (s : Shared) (vs : List Value), c.K.In s.heap → vs.length = 1 → BindsTo s (fnOf name₂ qual₂ params₂ [.Try [.Expr (.Call (.Name "work" q1) [] [] q2) q3] [.ExceptHandler (some (.Name "DiskError" q4)) (some "e") [.Return (some (.Attribute (.Name "e" q5) "word" q6)) q7] q8] [] [] q9, .Return (some (.Constant (.str "done") kk q10)) q11] scope₂ dV kV doc pm an cdv₂ ct) ⟨vs, []⟩ ([("work" : Str)].zip vs))
    (s1 : scope₂.names.lookup ("DiskError" : Str) = some .globalImplicit) (s2 : scope₂.names.lookup ("e" : Str) = some .local) (s3 : scope₂.names.lookup ("work" : Str) = some .local)
    (hco₂ : scope₂.isCoroutine = false) (hgen₂ : scope₂.isGenerator = false) (hk₂ : scope₂.kind = .function) (hcell₂ : (scope₂.names.all fun x => x.2 != .cell) = true)
    (hc0 : c.ccd = .ref cc) (hcode : codeHdIn c.K cc P = true) (hP : c.pin[i]? = some P)
    (hdef : defaultsOf params c.env = ([], [])) (hcl : closureFor scope c.env = pure clos) (hsub : ∀ x j, cix'.lookup x = some j → c.cix.lookup x = some j ∧ clos.lookup x = c.cl.lookup x)
    (hlb : ∀ pm c' ctv, bindArgs (kla_fn "<lambda>" (c.env.qual ++ "<lambda>") params lbody scope clos pm (.ref c') ctv) ⟨[], []⟩ = pure [])
    (hco : scope.isCoroutine = false) (hgen : scope.isGenerator = false) (hk : scope.kind = .function) (hcell : (scope.names.all fun x => x.2 != .cell) = true)
    (hbody : ∀ (c₂ : Cx) f c' g₂ L₂, SimE (c₂.callee c₂.dp c₂.un c₂.gd (c.env.qual ++ "<lambda>") scope f (.ref c') clos g₂ L₂ cix') lv no (c₂.callee c₂.dp c₂.un c₂.gd (c.env.qual ++ "<lambda>") scope f (.ref c') clos g₂ L₂ cix').env lbody mb) :
    SimG c (lv + 2) ρ c.env (.Call (.Name "_law_word" np) [.Lambda params lbody scope lpos] [] pos) (wordM i (lpos.line, lpos.col) mb) := by
  intro H news s mloc ok S Q E hr
  unfold wordM at hr
  split at hr
  rotate_left
  · exact hr.elim
  rename_i ts hH
  split at hr
  · exact hr.elim
  rename_i hts
  have hPn : (Ads news)[i]? = some P := idx_pre S.Fz.2 hP
  obtain ⟨o, _, hi, hO⟩ := S.R.get hH hPn
  obtain ⟨ps, rfl, ht, hno⟩ := hO
  have hlt : i < news.length := (List.getElem?_eq_some_iff.mp hi).1
  obtain ⟨gf, UF, hgf⟩ := updF_at S.nd (show (news ++ c.own)[i]? = some (P, tabObj ps) by rw [List.getElem?_append_left hlt]; exact hi)
  refine Call_ (nameX_K S.F ok.X (topRead_of ok.T) hw ?_ ok.hke hxn) rfl
  refine callWith_K (K := c.K) ok.X hkw (spliced_more (kla_eval hdef ?_)) rfl
  refine kla_nest S.F S.N ok.T (codeHd_of_K ok.X hcode) hc0 UF ht (hno lpos hts) hcl fun f c' oc vs t ctv h' tk F' N' hd hv l1 l2 => ?_
  rw [hgf] at N'
  obtain ⟨S₁, hA⟩ := St_tab S hH hi ht hno F' (fun p hp => N' p (.tail _ (.tail _ hp)))
  generalize hn₁ : news.set i (P, tabObj (ps ++ #[rawInt lpos.line, rawInt lpos.col, .ref c'])) = news₁ at S₁ hA
  generalize hH₁ : H.set i (.tab ((lpos.line, lpos.col) :: ts)) = H₁ at S₁ hr
  rw [List.set_append_left _ _ hlt, hn₁] at N'
  generalize hlam : kla_obj "<lambda>" (c.env.qual ++ "<lambda>") params lbody scope clos ((c.mg "__name__").getD .none) c' ctv = lam at N'
  refine Calls.spliced_nil ⟨fun a o e => F'.keep _ _ (ok.X a o e), ?_⟩
  refine wpAny_call (code_turn (s := { s with heap := h', toks := tk }) (lv := lv + 1) (d' := c.dp) (u' := c.un) (gd' := c.gd) (binds := [("work", .ref f)]) ho hcd (hb _ [.ref f] (fun a o e => F'.keep _ _ (ok.X a o e)) rfl) (fun y hy => by rw [List.mem_singleton.mp hy]; exact s3) hco₂ hgen₂ hk₂ (fun x hx => bne_iff_ne.mp (List.all_eq_true.mp hcell₂ x hx)) (by omega) ok F' N'
    (fun g L' h₁ FG st F₂ N₂ B₂ X₂ T₂ lt₂ => ?_))
  have hdp := ok.hdp
  have hun := ok.hun
  let c₂ : Cx := { c.callee c.dp c.un c.gd qual₂ scope₂ 233 cdv₂ [] g L' [] with own := c.own ++ [(f, lam), (c', oc)], pin := Ads news₁ }
  have ok₂ : c₂.Ok (lv + 1) := ⟨B₂, X₂, T₂, hk₂, by show c.dp + 1 + 8 * (lv + 1) < 1000; omega, by show c.un + 3 + 100 * (lv + 1) < 9900; omega, ok.XB, ok.TB⟩
  have pm : ((f, lam) :: (c', oc) :: (news₁ ++ c.own)).Perm (news₁ ++ (c.own ++ [(f, lam), (c', oc)])) := by
    rw [← List.append_assoc]
    exact List.perm_append_comm (l₁ := [(f, lam), (c', oc)])
  have S₂ : St c₂ no (fun y => ([("work", .ref f)] : List (Str × Value)).reverse.lookup y) H₁ news₁ h₁ := by
    refine ⟨F₂, fun p hp => N₂ p (pm.mem_iff.mpr hp), ?_, S₁.R, (fun x a e => by cases e), (fun x i e => by cases e), S₁.Fz.1, List.prefix_rfl⟩
    refine (pm.map (·.1)).nodup_iff.mp (List.nodup_cons.mpr ⟨fun hm => ?_, List.nodup_cons.mpr ⟨fun hm => ?_, S₁.nd⟩⟩)
    · rcases List.mem_cons.mp hm with z | hm
      · exact absurd (show f = c' from z) (Nat.ne_of_gt l2)
      · obtain ⟨p, hp, e⟩ := List.mem_map.mp hm
        have hp' : p.1 ∈ Ads (news ++ c.own) := by
          have : Ads (news₁ ++ c.own) = Ads (news ++ c.own) := by simp only [Ads, List.map_append] at hA ⊢; rw [hA]
          rw [← this]; exact List.mem_map_of_mem hp
        obtain ⟨p', hp', e'⟩ := List.mem_map.mp hp'
        have := l1 p' hp'
        rw [e', e] at this
        exact absurd (Nat.lt_trans this l2) (Nat.lt_irrefl _)
    · obtain ⟨p, hp, e⟩ := List.mem_map.mp hm
      have hp' : p.1 ∈ Ads (news ++ c.own) := by
        have : Ads (news₁ ++ c.own) = Ads (news ++ c.own) := by simp only [Ads, List.map_append] at hA ⊢; rw [hA]
        rw [← this]; exact List.mem_map_of_mem hp
      obtain ⟨p', hp', e'⟩ := List.mem_map.mp hp'
      have := l1 p' hp'
      rw [e', e] at this
      exact absurd this (Nat.lt_irrefl _)
  refine word_body (c := c₂) FC hnE s1 s2 s3 ok₂ S₂ rfl rfl rfl (List.mem_append_right _ (by rw [← hlam]; exact .head _)) (List.mem_append_right _ (.tail _ (.head _))) hd hv (hlb _ _ _) hco hgen hk hcell (fun x j e => ?_) (fun g L' => hbody c₂ f c' g L') (hr.mono (fun a H' gg => ?_) fun _ _ z => z)
  · obtain ⟨e1, e2⟩ := hsub x j e
    obtain ⟨b, b1, b2⟩ := S.Cl x j e1
    exact ⟨b, e2.trans b1, by rw [← hA]; exact b2⟩
  · intro v g' m' h'' tk' news' gt S₃ p r
    have p' : Ads news <+: Ads news' := by rw [hA]; exact p
    refine ⟨g', L', m', news' ++ (c.own ++ [(f, lam), (c', oc)]), gt.turn, S₃.F, S₃.N, fun h₀' gt' kF kN => ?_⟩
    refine gg v h₀' h'' tk' news' gt' ⟨kF, fun p hp => kN p ?_, ?_, S₃.R, S.Lc.mono p', (fun x i e => (S.Cl x i e).imp fun _ q => ⟨q.1, idx_pre p' q.2⟩), S₃.Fz.1, S.Fz.2.trans p'⟩ p' r
    · rw [← List.append_assoc]; exact List.mem_append_left _ hp
    · have := S₃.nd
      refine List.Nodup.sublist ?_ this
      show (Ads (news' ++ c.own)).Sublist (Ads (news' ++ (c.own ++ [(f, lam), (c', oc)])))
      rw [← List.append_assoc]
      exact (List.sublist_append_left _ _).map _
end
end Mine
end

/-! ## X13 -/
section
open PySem PySem.W PySem.Calls PyProof.Rows
namespace Mine
section
variable {α β γ δ : Type} {c : Cx} {lv : Nat} {ρ ρ' ρe : Rho} {as0 : List Addr} {ev : Env} {m mloc : Str → Option Value} {H : AH} {news : List (Addr × Obj)} {h h' g g' : Heap}
/-- statements that return, and may turn the ground -/
noncomputable def RG (c : Cx) (news : List (Addr × Obj)) (s : Shared) (Q : Flow → Shared → Prop) (a : AV) (H' : AH) : Prop :=
  ∀ v g' mloc' h' tk news', GT c g' → St (c.at g') no mloc' H' news' h' → Ads news <+: Ads news' → VR (Ads news') a v → Q (.ret v) { s with heap := h', toks := tk }
noncomputable def SimSg (c : Cx) (lv : Nat) (ρ : Rho) (sts : List Stmt) (m : AM AV) : Prop :=
  ∀ H news s mloc, c.Ok lv → St c ρ mloc H news s.heap → ∀ Q E, (m H).run (RG c news s Q) (BB c s E) → wpAny (model PG c.w) c.A (execs sts c.env) Q E s
theorem RG.shift {news₁ : List (Addr × Obj)} {s : Shared} {h₁ : Heap} {t₁ : Nat} {Q : Flow → Shared → Prop} {a : AV} {H' : AH} (x : RG c news s Q a H') (p : Ads news <+: Ads news₁) : RG c news₁ { s with heap := h₁, toks := t₁ } Q a H' :=
  fun v g' mloc' h' tk news' gt S p' r => x v g' mloc' h' tk news' gt S (p.trans p') r
theorem RG.at {s : Shared} {Q : Flow → Shared → Prop} {a : AV} {H' : AH} (x : RG c news s Q a H') (gt : GT c g) : RG (c.at g) news s Q a H' :=
  fun v g' mloc' h' tk news' gt' S p' r => x v g' mloc' h' tk news' (gt.trans gt') S p' r
theorem Sg_ret {e : PySem.Expr} {pos : Pos} {rest : List Stmt} {me : AM AV} (he : SimE c lv ρ c.env e me) : SimSg c lv ρ (.Return (some e) pos :: rest) me := by
  intro H news s mloc ok S Q E hr
  refine wpAny_execs_cons (wpAny_Return_some ?_)
  refine he [] H news s mloc ok List.nil_prefix S _ E (hr.mono (fun a H₁ x v h₁ tk news₁ S₁ p₁ v₁ => ?_) fun _ _ h => h)
  exact x v c.h₀ mloc h₁ tk news₁ (.refl ok) S₁.none p₁ v₁
theorem Sg_cons {st : Stmt} {rest : List Stmt} {m₁ : AM β} {ρ' : β → Rho} {mr : β → AM AV} (hx : SimX c lv ρ st m₁ ρ') (hr : ∀ b, SimSg c lv (ρ' b) rest (mr b)) : SimSg c lv ρ (st :: rest) (do let b ← m₁; mr b) := by
  intro H news s mloc ok S Q E h
  rw [run_bind] at h
  refine wpAny_execs_cons (hx H news s mloc ok S _ E (h.mono (fun b H₁ g mloc₁ h₁ tk news₁ S₁ p₁ => ?_) fun _ _ h => h))
  exact hr b H₁ news₁ { s with heap := h₁, toks := tk } mloc₁ ok S₁ Q E (g.mono (fun _ _ x => x.shift p₁) fun _ _ h => h)
noncomputable def orElse (o : Option AV) (mr : AM AV) : AM AV := match o with
  | some a => pure a
  | none => mr
theorem Sg_if {t : PySem.Expr} {b rest : List Stmt} {pos : Pos} {mt : AM Bool} {mb : AM (Option AV)} {mr : AM AV} (ht : SimB c lv ρ c.env t mt) (hb : SimS c lv ρ ρ b mb) (hr : SimSg c lv ρ rest mr) :
    SimSg c lv ρ (.If t b [] pos :: rest) (do let x ← mt; if x then (do let r ← mb; orElse r mr) else mr) := by
  intro H news s mloc ok S Q E h
  refine wpAny_execs_cons (wpAny_If ?_)
  refine (ht []).step ok List.nil_prefix S h fun x H₁ v h₁ tk news₁ S₁ p₁ v₁ h => ?_
  cases v₁
  cases x
  · exact wpAny_execs_nil (hr H₁ news₁ { s with heap := h₁, toks := tk } _ ok S₁ Q E (Res.run.mono h (fun _ _ x => x.shift p₁) fun _ _ h => h))
  · replace h : ((mb >>= fun r => orElse r mr) H₁).run _ _ := h
    rw [run_bind] at h
    refine hb H₁ news₁ { s with heap := h₁, toks := tk } _ ok S₁ _ E (h.mono (fun r H₂ g => ?_) fun _ _ h => h)
    cases r with
    | none => exact fun mloc₂ h₂ tk₂ news₂ S₂ p₂ => hr H₂ news₂ { s with heap := h₂, toks := tk₂ } _ ok S₂ Q E (Res.run.mono g (fun _ _ x => x.shift (p₁.trans p₂)) fun _ _ h => h)
    | some a => exact fun v mloc₂ h₂ tk₂ news₂ S₂ p₂ r => (show RG c news s Q a H₂ from g) v c.h₀ mloc₂ h₂ tk₂ news₂ (.refl ok) S₂ (p₁.trans p₂) r
/-- `x = [e]` where e may turn the ground -/
theorem Sg_word1 {x : Str} {e : PySem.Expr} {pos pos' lp : Pos} {rest : List Stmt} {m₁ : AM AV} {mr : AV → AM AV} (he : SimG c lv ρ c.env e m₁) (hx : c.cs.names.lookup x = some .local) (hr : ∀ g' a, SimSg (c.at g') lv (rset ρ x a) rest (mr a))
    (hq : swapsWith (.List [e] lp) (some (.Name x pos')) pos.line c.env = pure false := by rfl) (hs : starEach [e] c.env = (false, eval e c.env) :: starEach [] c.env := by rfl) :
    SimSg c lv ρ (.Assign [.Name x pos'] (.List [e] lp) pos :: rest) (do let a ← noErr m₁; let o ← newMix [a]; noErr (mr o)) := by
  intro H news s mloc ok S Q E h
  rw [run_bind] at h
  refine wpAny_execs_cons (wpAny_Assign_Name (List_ (spliced_more ?_ hs)) hq)
  refine he H news s mloc ok S _ E ((noErr_run h).mono (fun a H₁ h v g' h₁ tk news₁ gt S₁ p₁ v₁ => ?_) fun _ _ f => f.elim)
  rw [run_bind] at h
  refine Calls.spliced_nil ?_
  unfold newMix at h
  split at h
  · refine newList_K S₁.F S₁.N (fun D h' F' N' l1 => ?_) (Nat.le_trans (show [v].length ≤ 1000 from Nat.le_of_ble_eq_true rfl) (show (1000 : Nat) ≤ sizeLine from Nat.le_of_ble_eq_true rfl))
    obtain ⟨S', p', r'⟩ := S₁.push (ao := .mix [a]) F' N' l1 ⟨[v], 0, rfl, VR.mono (List.prefix_append _ _) v₁, trivial⟩
    refine storeX_L S'.F S'.N (fun h'' F'' N'' => ?_) ok.hke hx
    refine hr g' _ _ _ { s with heap := h'', toks := _ } _ (gt.ok ok) (S'.store r' F'' N'') Q E ((noErr_run h).mono (fun _ _ x => (x.shift (p₁.trans p')).at gt) fun _ _ f => f.elim)
  · exact h.elim
/-- `x.append(e)` where e may turn the ground -/
theorem Sg_app {x : Str} {e : PySem.Expr} {np ap cp pos : Pos} {rest : List Stmt} {o : AV} {m₁ mr : AM AV} {pl : Sem Bool} (he : SimG c lv ρ c.env e m₁) (hρ : ρ x = some o) (hx : c.cs.names.lookup x = some .local) (hxd : (x == ("__debug__" : Str)) = false) (hr : ∀ g', SimSg (c.at g') lv ρ rest mr)
    (hq1 : eval (.Call (.Attribute (.Name x np) "append" ap) [e] [] cp) c.env = (do
          let ov ← eval (.Name x np) c.env
          standAt (Pos.atName ap)
          let __x ← holding [ov] (getMethod ov "append" pl)
          match __x with
            | (f, first) => callWith cp f first (backTo cp (starEach [e] c.env)) []))
    (hq : swapsWith (.Call (.Attribute (.Name x np) "append" ap) [e] [] cp) none pos.line c.env = pure false := by rfl) (hs : starEach [e] c.env = (false, eval e c.env) :: starEach [] c.env := by rfl) :
    SimSg c lv ρ (.Expr (.Call (.Attribute (.Name x np) "append" ap) [e] [] cp) pos :: rest) (do isList o; let a ← noErr m₁; let _ ← aAppend o [a]; noErr mr) := by
  intro H news s mloc ok S Q E h
  rw [run_bind] at h
  refine wpAny_execs_cons (wpAny_Expr_any ?_ (by unfold interactive; show (c.cs.kind == .module && _) = false; rw [ok.hke]; rfl) hq)
  refine MethodCall_ ?_ hq1
  obtain ⟨u, e1, r1⟩ := S.Lc x o hρ
  refine nameX_L S.F e1 ?_ ok.hke hx hxd
  cases o <;> try exact h.elim
  rename_i i
  have key : ∃ ad its n, u = .ref ad ∧ (ad, listOf its n) ∈ news ++ c.own ∧ ((noErr m₁ >>= fun a => aAppend (.loc i) [a] >>= fun _ => noErr mr) H).run (RG c news s Q) (BB c s E) := by
    unfold isList at h
    dsimp only at h
    split at h
    · rename_i e1
      obtain ⟨x, ox, rfl, m1, i1, vs, n, rfl, hi⟩ := S.at e1 r1
      exact ⟨x, _, n, rfl, m1, h⟩
    · rename_i e1
      obtain ⟨x, ox, rfl, m1, i1, vs, n, rfl, hi⟩ := S.at e1 r1
      exact ⟨x, _, n, rfl, m1, h⟩
    · exact h.elim
  obtain ⟨ad, its, n, rfl, m1, h⟩ := key
  refine listMethod_K S.N m1 PySem.F.slot_list_append PySem.F.type_list_append ?_
  refine PyProof.Rows.callWith_method1 (spliced_more ?_ hs) hs rfl
  rw [run_bind] at h
  refine he H news _ mloc ok S _ E ((noErr_run h).mono (fun a H₁ h v g' h₁ tk news₁ gt S₁ p₁ v₁ => ?_) fun _ _ f => f.elim)
  refine Calls.spliced_nil ?_
  rw [run_bind] at h
  have h' : (aAppend (.loc i) [a] H₁).run (fun _ H₂ => (mr H₂).run (RG c news s Q) (fun _ _ => False)) (fun _ _ => False) := by
    unfold aAppend at h ⊢
    dsimp only at h ⊢
    split at h
    · split at h
      · rename_i hl
        rw [if_pos hl]
        exact noErr_run (m := mr) (B := BB c s E) h
      · exact h.elim
    · exact h.elim
  refine append_W (c := c.at g') (lv := lv) (ρ := ρ) (Ads news₁) (.loc i) (.ref ad) [a] [v] (VR.mono p₁ r1) ⟨v₁, trivial⟩ H₁ news₁ { s with heap := h₁, toks := _ } mloc (gt.ok ok) List.prefix_rfl S₁ _ _ (h'.mono (fun _ H₂ h₂ _ h₂' tk₂ news₂ S₂ p₂ _ => ?_) fun _ _ f => f.elim)
  exact hr g' H₂ news₂ { s with heap := h₂', toks := tk₂ } _ (gt.ok ok) S₂ Q E (h₂.mono (fun _ _ x => (x.shift (p₁.trans p₂)).at gt) fun _ _ f => f.elim)
end
end Mine
end

/-! ## X14 -/
section
open PySem PySem.W PySem.Calls PyProof.Rows
namespace Mine
section
variable {α β γ δ : Type} {c : Cx} {lv : Nat} {ρ ρ' ρe : Rho} {as0 : List Addr} {ev : Env} {m mloc : Str → Option Value} {H : AH} {news : List (Addr × Obj)} {h h' g g' : Heap}
/-- a call, with cells, whose ground may turn -/
theorem code_turnC {d' u' : Nat} {gd' : Option (List Code)} {s : Shared} {R : Result → Shared → Prop} {binds : List (Str × Value)} {args : Args} {NN : List (Addr × Obj)}
    {name qual : Str} {params : Arguments} {body : List Stmt} {scope : Scope} {dV kV doc pm cdv ct oc : Value} {an od : Option Addr} {osl : Array (Option Value)} {f : Addr}
    (ho : c.K.lookup f = some ⟨oc, od, .func (fnOf name qual params body scope dV kV doc pm an cdv ct), osl⟩) (hcd : codeIn c.K cdv qual = true)
    (hd : d' ≤ c.dp + 4) (ok : c.Ok (lv + 1)) (F : Fr c.h₀ c.L s.heap m) (N : News c.h₀ c.L s.heap NN)
    (hb : BindsTo s (fnOf name qual params body scope dV kV doc pm an cdv ct) args binds) (hkind : (binds.all fun y => scope.names.lookup y.1 == some .local || scope.names.lookup y.1 == some .cell) = true)
    (hnd : ((cellsFrom 0 scope.names []).map (·.1)).Nodup)
    (h : ∀ g L' h₁ tk cells, Fr c.h₀ c.L g m → c.h₀.StaysIn g → Fr g L' h₁ (bindL (envOfC qual scope L' f cdv).kindOf binds fun _ => none) → News g L' h₁ (cells ++ NN) →
      CellsAre (bindC (envOfC qual scope L' f cdv).kindOf binds fun _ => none) (cellsFrom (L' + 1) scope.names []) cells → Below ⟨none, d', some (c.env :: c.outer), gd', u'⟩ c.base (c.env :: c.outer) g → c.K.In g → Top c.p c.loose c.mean c.mg c.mb g → (∀ p ∈ NN, p.1 < L') →
      wpAny (model PG c.w) (Around.deeper ⟨none, d', some (c.env :: c.outer), gd', u'⟩ (envOfC qual scope L' f cdv)) (execs body (envOfC qual scope L' f cdv))
        (fun fl s' => LeaveG c m g R (match fl with | .ret v => v | _ => .none) s')
        (fun e s' => wpAny (model PG c.w) (Around.deeper ⟨none, d', some (c.env :: c.outer), gd', u'⟩ (envOfC qual scope L' f cdv)) (leaving (envOfC qual scope L' f cdv) e) (fun _ s'' => R (.error e) s'') (fun e' s'' => R (.error e') s'') s')
        { s with heap := h₁, toks := tk })
    (hco : scope.isCoroutine = false) (hgen : scope.isGenerator = false) (hk : scope.kind = .function) :
    codeAny (model PG c.w) ⟨none, d', some (c.env :: c.outer), gd', u'⟩ (.call (.ref f) args) R s := by
  have hdp := ok.hdp
  obtain ⟨FG, BG, st, _⟩ := groundX (A := ⟨none, d', some (c.env :: c.outer), gd', u'⟩) (env := c.env) (R := R) ok.B F N rfl rfl ok.hke
  refine codeAny_call_function (by show d' < 1000; omega) (F.keep _ _ (ok.X _ _ ho)) rfl hco hgen rfl (codeRec_of (fun a o e => F.keep _ _ (ok.X a o e)) hcd) (hb _ _ _ _ ?_)
  refine wpAny_newFunctionEnv_cells hk (kindsX hkind _) fun env' he s' x => ?_
  subst he
  refine ⟨(ok.T.nolimit.keeps F.keep).keeps x.toInCall.keep, codeAny_func ?_⟩
  obtain ⟨h₁, tk, rfl, _⟩ := x.done
  have hk₁ := x.toInCall.keep
  obtain ⟨cells, NC, Y⟩ := Cl.news (h₀ := s.heap) (Nat.le_refl _) fun n c hm => ⟨x.cell n c (lookup_of_mem_nodup (cellsFrom_names scope.names 0 (s.heap.objs.size + 1) [] [] rfl ▸ hnd) hm), x.above n c hm⟩
  refine wpAny_mono (h _ s.heap.objs.size h₁ tk cells FG st ⟨x.toInCall.ns, fun b o e => hk₁ b o (of_hideAll _ e), Nat.le_of_eq (hideAll_size _ _)⟩ (fun p hp => ?_) Y BG (ok.X.keeps st) (ok.T.keeps st) (fun p hp => Heap.lt_size (N p hp).1)) (fun fl s' hl => ?_) fun _ _ y => y
  · rcases List.mem_append.mp hp with hp | hp
    · refine ⟨(NC p hp).1, (NC p hp).2.1, ?_⟩
      cases q : (hideAll s.heap (NN.map (·.1))).get? p.1 with
      | none => rfl
      | some o => have := of_hideAll _ q; rw [(NC p hp).2.2] at this; cases this
    · exact ⟨hk₁ _ _ (N p hp).1, Nat.ne_of_lt (Heap.lt_size (N p hp).1), hideAll_none _ (List.mem_map_of_mem hp)⟩
  · obtain ⟨g', L', m', news', T', F', N', k⟩ := hl
    obtain ⟨h₀', gt, F₂, N₂⟩ := retS ok F FG st T' F' N'
    exact k h₀' gt F₂ N₂
noncomputable def cellBodyG (names : List Str) (cs : List (Str × Nat)) (mb : List AV → Nat → AM AV) (l : List AV) : AM AV := fun H => if l.length = names.length then mb l H.length (H ++ cellInit names l cs) else .stuck
theorem F_defCT (h0 : c.outer = []) {names : List Str} {cs : List (Str × Nat)} {name qual : Str} {params : Arguments} {body : List Stmt} {scope : Scope} {dV kV doc pm cdv ct oc : Value} {an od : Option Addr} {osl : Array (Option Value)} {f : Addr} {mb : List AV → Nat → AM AV}
    (ho : c.K.lookup f = some ⟨oc, od, .func (fnOf name qual params body scope dV kV doc pm an cdv ct), osl⟩) (hcd : codeIn c.K cdv qual = true)
    (hb : ∀ (s : Shared) (vs : List Value), c.K.In s.heap → vs.length = names.length → BindsTo s (fnOf name qual params body scope dV kV doc pm an cdv ct) ⟨vs, []⟩ (names.zip vs))
    (hkind : ∀ vs : List Value, vs.length = names.length → ((names.zip vs).all fun y => scope.names.lookup y.1 == some .local || scope.names.lookup y.1 == some .cell) = true)
    (hnd : ((cellsFrom 0 scope.names []).map (·.1)).Nodup) (hcs : ∀ a, cellsFrom a scope.names [] = cs.map fun p => (p.1, a + p.2)) (hcn : (cs.map (·.2)).Nodup)
    (hbl : ∀ (as : List Addr) l vs L', VRs as l vs → l.length = names.length → LocR as (argR names l) (bindL (envOfC qual scope L' f cdv).kindOf (names.zip vs) fun _ => none) ∨
      (∀ x a, argR names l x = some a → (∀ p ∈ cs, p.1 ≠ x) → ∃ v, (bindL (envOfC qual scope L' f cdv).kindOf (names.zip vs) fun _ => none) x = some v ∧ VR as a v))
    (hbc : ∀ (as : List Addr) l vs L', VRs as l vs → l.length = names.length → ∀ p ∈ cs, ciOk as (argR names l p.1) (bindC (envOfC qual scope L' f cdv).kindOf (names.zip vs) (fun _ => none) p.1))
    (hco : scope.isCoroutine = false) (hgen : scope.isGenerator = false) (hk : scope.kind = .function)
    (hbody : ∀ l, l.length = names.length → ∀ d' u' gd' g L' k, SimSg (c.callee d' u' gd' qual scope f cdv (cellsFrom (L' + 1) scope.names []) g L' (cellIx k cs)) lv (fun x => if cs.any (fun p => p.1 == x) then none else argR names l x) body (mb l k)) :
    SimF c (lv + 1) ρ (.ref f) (cellBodyG names cs mb) := by
  intro as0 l vs hv H news s mloc ok hp S Q E hr
  unfold cellBodyG at hr
  have hdp := ok.hdp
  have hun := ok.hun
  split at hr
  · rename_i hn
    have hv' := hv.mono hp
    have hvn : vs.length = names.length := hv.len.trans hn
    refine wpAny_call (code_turnC (d' := c.dp) (u' := c.un) (gd' := c.gd) ho hcd (by omega) ok S.F S.N (hb s vs (fun a o e => S.F.keep _ _ (ok.X a o e)) hvn) (hkind vs hvn) hnd (fun g L' h₁ tk cells FG st F' N' Y B' X' T' lt => ?_) hco hgen hk)
    rw [hcs] at Y
    obtain ⟨hA, hC⟩ := cells_at (as := Ads news) Y (hbc _ l vs L' hv' hn)
    have hlen : cells.length = cs.length := by
      have := congrArg List.length hA
      simpa [Ads] using this
    have ok' : (c.callee c.dp c.un c.gd qual scope f cdv (cellsFrom (L' + 1) scope.names []) g L' (cellIx H.length cs)).Ok lv := ⟨B', X', T', hk, by show c.dp + 1 + 8 * lv < 1000; omega, by show c.un + 3 + 100 * lv < 9900; omega, ok.XB, ok.TB⟩
    have pre : Ads news <+: Ads (news ++ cells) := by rw [show Ads (news ++ cells) = Ads news ++ Ads cells from List.map_append]; exact List.prefix_append _ _
    have pm : (cells ++ (news ++ c.own)).Perm ((news ++ cells) ++ c.own) := by
      rw [List.append_assoc, ← List.append_assoc, ← List.append_assoc]
      exact List.perm_append_comm.append_right _
    have S' : St (c.callee c.dp c.un c.gd qual scope f cdv (cellsFrom (L' + 1) scope.names []) g L' (cellIx H.length cs)) (fun x => if cs.any (fun p => p.1 == x) then none else argR names l x) (bindL (envOfC qual scope L' f cdv).kindOf (names.zip vs) fun _ => none) (H ++ cellInit names l cs) (news ++ cells) h₁ := by
      refine ⟨F', fun p hp => N' p (pm.mem_iff.mpr hp), ?_, S.R.append (by simp [cellInit, hlen]) ?_, ?_, ?_, ?_⟩
      · refine (pm.map (·.1)).nodup_iff.mp ?_
        rw [List.map_append]
        refine List.nodup_append.mpr ⟨?_, S.nd, fun x hx y hy e => ?_⟩
        · have : cells.map (·.1) = (cs.map (·.2)).map (fun k => L' + 1 + k) := by rw [List.map_map]; exact hA
          rw [this]
          exact List.Pairwise.map (fun k => L' + 1 + k) (fun a b h (e : L' + 1 + a = L' + 1 + b) => h (Nat.add_left_cancel e)) hcn
        · subst e
          rw [show cells.map (·.1) = _ from hA] at hx
          obtain ⟨p, _, rfl⟩ := List.mem_map.mp hx
          obtain ⟨q, hq, e⟩ := List.mem_map.mp hy
          have h3 : @LT.lt Nat _ q.1 L' := lt q hq
          have e' : @Eq Nat q.1 (@HAdd.hAdd Nat Nat Nat _ (@HAdd.hAdd Nat Nat Nat _ L' 1) p.2) := e
          omega
      · intro j ao e
        obtain ⟨ad, o, e1, e2⟩ := hC j ao e
        exact ⟨ad, o, e1, e2.mono (List.prefix_append _ _)⟩
      · intro x a e
        dsimp only at e
        split at e
        · cases e
        · rename_i hx
          rcases hbl _ l vs L' hv' hn with hh | hh
          · obtain ⟨v, h1, h2⟩ := hh x a e
            exact ⟨v, h1, h2.mono pre⟩
          · obtain ⟨v, h1, h2⟩ := hh x a e (fun p hp q => hx (List.any_eq_true.mpr ⟨p, hp, beq_iff_eq.mpr q⟩))
            exact ⟨v, h1, h2.mono pre⟩
      · intro x i e
        obtain ⟨j, o, rfl, e2, e3⟩ := cellIx_at e
        refine ⟨L' + 1 + o, ?_, ?_⟩
        · show (cellsFrom (L' + 1) scope.names []).lookup x = _
          rw [hcs]; exact lookup_shift e3
        · have hl : (Ads news).length = H.length := by simp [S.R.len]
          rw [show Ads (news ++ cells) = Ads news ++ Ads cells from List.map_append, ← hl, List.getElem?_append_right (by omega), Nat.add_sub_cancel_left, hA, List.getElem?_map, e2]; rfl
      · refine ⟨fun p hf => ?_, S.Fz.2.trans pre⟩
        obtain ⟨a, ns, e1, e2⟩ := S.Fz.1 p hf
        exact ⟨a, ns, idx_pre (List.prefix_append _ _) e1, idx_pre (List.prefix_append _ _) e2⟩
    refine hbody l hn c.dp c.un c.gd g L' H.length _ _ { s with heap := h₁, toks := tk } _ ok' S' _ _ (hr.mono (fun a H' gg => ?_) fun x H' bb => ?_)
    · intro v g' mloc' h' tk' news' gt S'' p r
      refine ⟨g', L', mloc', news' ++ c.own, gt.turn, S''.F, S''.N, fun h₀' gt' kF kN => ?_⟩
      obtain ⟨kF', kN'⟩ := gt'.nil h0 kF kN
      exact gg v h' tk' news' ⟨kF', kN', S''.nd, S''.R, S.Lc.mono (pre.trans p), fun x i e => (S.Cl x i e).imp fun _ q => ⟨q.1, idx_pre (pre.trans p) q.2⟩, S''.Fz⟩ (pre.trans p) r
    · intro e h' tk' R'
      exact ErrR.leave (c := c) (c' := c.callee c.dp c.un c.gd qual scope f cdv (cellsFrom (L' + 1) scope.names []) g L' (cellIx H.length cs)) rfl rfl ⟨rfl, rfl, rfl⟩ FG.keep FG.ns (kts_self F') R' fun h'' R'' => bb e h'' tk' R''
  · exact hr.elim
end
end Mine
end

/-! ## D0 -/
section
open PySem PySem.W PySem.Calls PyProof.Rows
namespace Mine
/-- what is written in the heap at the start -/
structure KFacts (K : Frag) : Prop where
  at_53_blocks : AttrOk K 53 "blocks"
  at_53_block : AttrOk K 53 "block"
  at_53_record : AttrOk K 53 "record"
  at_53_entries : AttrOk K 53 "entries"
  at_53_is_read_only : AttrOk K 53 "is_read_only"
  at_53_data : AttrOk K 53 "data"
  at_74_user : AttrOk K 74 "user"
  at_74_raw : AttrOk K 74 "raw"
  at_74_extent : AttrOk K 74 "extent"
  at_74_spare : AttrOk K 74 "spare"
  at_74_count : AttrOk K 74 "count"
  at_74_map : AttrOk K 74 "map"
  st_53_blocks : SetOk K 53 "blocks"
  st_53_block : SetOk K 53 "block"
  st_53_record : SetOk K 53 "record"
  st_53_entries : SetOk K 53 "entries"
  st_53_is_read_only : SetOk K 53 "is_read_only"
  st_53_data : SetOk K 53 "data"
  st_74_user : SetOk K 74 "user"
  st_74_raw : SetOk K 74 "raw"
  st_74_extent : SetOk K 74 "extent"
  st_74_spare : SetOk K 74 "spare"
  st_74_count : SetOk K 74 "count"
  st_74_map : SetOk K 74 "map"
  gi_FREE : nsIn K mainGlobals "FREE" = some (some (.int 229 189))
  gi_ENTRY_SIZE : nsIn K mainGlobals "ENTRY_SIZE" = some (some (.int 32 191))
  gi_NAME_SIZE : nsIn K mainGlobals "NAME_SIZE" = some (some (.int 11 193))
  gi_MAP_AT : nsIn K mainGlobals "MAP_AT" = some (some (.int 16 195))
  gi_MOST_RECORDS : nsIn K mainGlobals "MOST_RECORDS" = some (some (.int 128 197))
  gi_EXTENTS_LOW : nsIn K mainGlobals "EXTENTS_LOW" = some (some (.int 32 199))
  gf_DiskError : nsIn K mainGlobals "DiskError" = some (some (.ref 33))
  gf_Disk : nsIn K mainGlobals "Disk" = some (some (.ref 53))
  gf_Entry : nsIn K mainGlobals "Entry" = some (some (.ref 74))
  gf_map_slots : nsIn K mainGlobals "map_slots" = some (some (.ref 85))
  gf_records_of_block : nsIn K mainGlobals "records_of_block" = some (some (.ref 92))
  gf_records_of_extent : nsIn K mainGlobals "records_of_extent" = some (some (.ref 99))
  gf_need_writable : nsIn K mainGlobals "need_writable" = some (some (.ref 106))
  gf_new_entry : nsIn K mainGlobals "new_entry" = some (some (.ref 113))
  gf_entry_octets : nsIn K mainGlobals "entry_octets" = some (some (.ref 120))
  gf_entry_from : nsIn K mainGlobals "entry_from" = some (some (.ref 127))
  gf_raw_entry : nsIn K mainGlobals "raw_entry" = some (some (.ref 134))
  gf_read_entry : nsIn K mainGlobals "read_entry" = some (some (.ref 141))
  gf_write_entry : nsIn K mainGlobals "write_entry" = some (some (.ref 148))
  gf_put_entry : nsIn K mainGlobals "put_entry" = some (some (.ref 155))
  gf_erase_entry : nsIn K mainGlobals "erase_entry" = some (some (.ref 162))
  gf_map_of : nsIn K mainGlobals "map_of" = some (some (.ref 167))
  gf_map_octets : nsIn K mainGlobals "map_octets" = some (some (.ref 174))
  gf_record_place : nsIn K mainGlobals "record_place" = some (some (.ref 181))
  gf_read_record : nsIn K mainGlobals "read_record" = some (some (.ref 188))
  gf_write_record : nsIn K mainGlobals "write_record" = some (some (.ref 195))
  gf__law_take : nsIn K mainGlobals "_law_take" = some (some (.ref 202))
  gf__law_box : nsIn K mainGlobals "_law_box" = some (some (.ref 207))
  gf__law_entry : nsIn K mainGlobals "_law_entry" = some (some (.ref 212))
  gf__law_parts : nsIn K mainGlobals "_law_parts" = some (some (.ref 219))
  gf__law_octets : nsIn K mainGlobals "_law_octets" = some (some (.ref 226))
  gf__law_word : nsIn K mainGlobals "_law_word" = some (some (.ref 233))
  gf__law_entries_right : nsIn K mainGlobals "_law_entries_right" = some (some (.ref 240))
  gf__law_records_right : nsIn K mainGlobals "_law_records_right" = some (some (.ref 245))
  gf__law_closed_right : nsIn K mainGlobals "_law_closed_right" = some (some (.ref 252))
  kp_DiskError : keepIn K (.ref 33) = true
  kp_Disk : keepIn K (.ref 53) = true
  kp_Entry : keepIn K (.ref 74) = true
  kp_map_slots : keepIn K (.ref 85) = true
  kp_records_of_block : keepIn K (.ref 92) = true
  kp_records_of_extent : keepIn K (.ref 99) = true
  kp_need_writable : keepIn K (.ref 106) = true
  kp_new_entry : keepIn K (.ref 113) = true
  kp_entry_octets : keepIn K (.ref 120) = true
  kp_entry_from : keepIn K (.ref 127) = true
  kp_raw_entry : keepIn K (.ref 134) = true
  kp_read_entry : keepIn K (.ref 141) = true
  kp_write_entry : keepIn K (.ref 148) = true
  kp_put_entry : keepIn K (.ref 155) = true
  kp_erase_entry : keepIn K (.ref 162) = true
  kp_map_of : keepIn K (.ref 167) = true
  kp_map_octets : keepIn K (.ref 174) = true
  kp_record_place : keepIn K (.ref 181) = true
  kp_read_record : keepIn K (.ref 188) = true
  kp_write_record : keepIn K (.ref 195) = true
  kp__law_take : keepIn K (.ref 202) = true
  kp__law_box : keepIn K (.ref 207) = true
  kp__law_entry : keepIn K (.ref 212) = true
  kp__law_parts : keepIn K (.ref 219) = true
  kp__law_octets : keepIn K (.ref 226) = true
  kp__law_word : keepIn K (.ref 233) = true
  kp__law_entries_right : keepIn K (.ref 240) = true
  kp__law_records_right : keepIn K (.ref 245) = true
  kp__law_closed_right : keepIn K (.ref 252) = true
  gb_len : nsIn K mainGlobals "len" = some none
  gb_abs : nsIn K mainGlobals "abs" = some none
  gb_min : nsIn K mainGlobals "min" = some none
  gb_list : nsIn K mainGlobals "list" = some none
  gb_range : nsIn K mainGlobals "range" = some none
  gb_enumerate : nsIn K mainGlobals "enumerate" = some none
theorem kfacts (w : World) : KFacts (hd.heap_39 w.params) := by
  have kf9 : (hd.heap_39 w.params).In default → PySem.Challenge.rw_nz0564_01.row.prog = PG → True := by (k_fill; intros; trivial)
  clear kf9
  refine' ⟨⟨?_, ?_, none, ?_, rfl⟩, ⟨?_, ?_, none, ?_, rfl⟩, ⟨?_, ?_, none, ?_, rfl⟩, ⟨?_, ?_, none, ?_, rfl⟩, ⟨?_, ?_, none, ?_, rfl⟩, ⟨?_, ?_, none, ?_, rfl⟩, ⟨?_, ?_, none, ?_, rfl⟩, ⟨?_, ?_, none, ?_, rfl⟩, ⟨?_, ?_, none, ?_, rfl⟩, ⟨?_, ?_, none, ?_, rfl⟩, ⟨?_, ?_, none, ?_, rfl⟩, ⟨?_, ?_, none, ?_, rfl⟩, ⟨?_, ?_, ?_, ?_⟩, ⟨?_, ?_, ?_, ?_⟩, ⟨?_, ?_, ?_, ?_⟩, ⟨?_, ?_, ?_, ?_⟩, ⟨?_, ?_, ?_, ?_⟩, ⟨?_, ?_, ?_, ?_⟩, ⟨?_, ?_, ?_, ?_⟩, ⟨?_, ?_, ?_, ?_⟩, ⟨?_, ?_, ?_, ?_⟩, ⟨?_, ?_, ?_, ?_⟩, ⟨?_, ?_, ?_, ?_⟩, ⟨?_, ?_, ?_, ?_⟩, ?_, ?_, ?_, ?_, ?_, ?_, ?_, ?_, ?_, ?_, ?_, ?_, ?_, ?_, ?_, ?_, ?_, ?_, ?_, ?_, ?_, ?_, ?_, ?_, ?_, ?_, ?_, ?_, ?_, ?_, ?_, ?_, ?_, ?_, ?_, ?_, ?_, ?_, ?_, ?_, ?_, ?_, ?_, ?_, ?_, ?_, ?_, ?_, ?_, ?_, ?_, ?_, ?_, ?_, ?_, ?_, ?_, ?_, ?_, ?_, ?_, ?_, ?_, ?_, ?_, ?_, ?_, ?_, ?_, ?_⟩
  all_goals k_dflt k_is
end Mine
end

/-! ## D0e -/
section
open PySem PySem.W PySem.Calls PyProof.Rows
namespace Mine
theorem bb_len : bootBuiltins "len" = some (.builtin "len") := by boot_by_name
theorem bb_abs : bootBuiltins "abs" = some (.builtin "abs") := by boot_by_name
theorem bb_min : bootBuiltins "min" = some (.builtin "min") := by boot_by_name
theorem bb_list : bootBuiltins "list" = some (.type "list") := by boot_by_name
theorem bb_range : bootBuiltins "range" = some (.type "range") := by boot_by_name
theorem bb_enumerate : bootBuiltins "enumerate" = some (.type "enumerate") := by boot_by_name
theorem rset_weak {ρ : Rho} {x : Str} {v : AV} (h : ρ x = none) : ∀ y a, ρ y = some a → rset ρ x v y = some a := fun y a e => by
  unfold rset
  by_cases hy : y = x
  · subst hy; rw [h] at e; cases e
  · rw [if_neg hy]; exact e
theorem rset_over {ρ : Rho} {x z : Str} {v w u : AV} (h : (z == x) = false) (hz : ρ z = none) : ∀ y a, rset ρ x u y = some a → rset (rset (rset ρ x v) z w) x u y = some a := fun y a e => by
  unfold rset at e ⊢
  by_cases hy : y = x
  · rw [if_pos hy] at e ⊢; exact e
  · rw [if_neg hy] at e ⊢
    by_cases hy' : y = z
    · subst hy'; rw [hz] at e; cases e
    · rw [if_neg hy', if_neg hy]; exact e
theorem X_unit {β : Type} {c : Cx} {lv : Nat} {ρ ρ' : Rho} {st : Stmt} {m₁ : AM β} (hx : SimX c lv ρ st m₁ (fun _ => ρ')) : SimX c lv ρ st (do let _ ← m₁; pure ()) (fun _ : Unit => ρ') := by
  intro H news s mloc ok S Q E h
  rw [run_bind] at h
  exact hx H news s mloc ok S Q E h
theorem ErrCls.mk' {K : Frag} {nm q : Str} {N : Addr} {bs : List Value} {sn : List Str} {sub : List Value} {ab : Bool} {col : Option Bool} {dd : Option Addr} {k0 k1 k2 k3 k5 : Option Value}
    (a : K.lookup 33 = some (excClassObj nm q 33 N bs errBm true sn sub ab col dd k0 k1 k2 k3 k5 "Exception.__new__")) (b : nsOkIn K N = true) (c : nsIn K N "__setattr__" = some none) (d : nsIn K N "word" = some none) (e : nsIn K N "__getattribute__" = some none) (f : nsIn K N "__getattr__" = some none)
    (g : findIn K (.ref 33) "__init__" = some (some (.ref 30))) (h : typeIn K (.ref 30) = some (.type "function")) (i : nsIn K cStatics "thirdparty.any" = some none) : ErrCls K :=
  ⟨⟨_, _, _, _, _, _, _, _, _, _, _, _, _, _, a, b, c, d, e, f⟩, g, h, i⟩
theorem errCls (w : World) : ErrCls (hd.heap_39 w.params) := by
  have kf9 : (hd.heap_39 w.params).In default → PySem.Challenge.rw_nz0564_01.row.prog = PG → True := by (k_fill; intros; trivial)
  clear kf9
  refine' ErrCls.mk' ?a ?b ?c ?d ?e ?f ?g ?h ?i
  case a => k_dflt k_is
  all_goals first | k_dflt k_is | kernel_rfl
theorem initOk {c : Cx} {lv : Nat} : InitOk c lv := by
  have kf9 : (hd.heap_39 c.w.params).In default → PySem.Challenge.rw_nz0564_01.row.prog = PG → True := by (k_fill; intros; trivial)
  clear kf9
  intro d' u' gd' s R e tp tup x t news0 m hd ok F N hlt hq
  refine' err_init (errCls c.w) ?ho ?hcd ?hb ?hp ?hcode ?hvs ?hfile ?hcell ?hsuper ?l1 ?l2 ?hks ?hkc ?hco ?hgen ?hk ?hcl ?he ?htop ?hboot hd ok F N hlt hq
  case ho => dsimp only [Cx.K]; k_dflt k_is
  case hcd => dsimp only [Cx.K]; k_dflt k_is
  case hb => intro s vs X hl; match vs, hl with | [v0, v1], _ => exact BindsTo.of_eq rfl
  case hp => rfl
  case hcode => dsimp only [Cx.K]; k_dflt k_is
  case hvs => rfl
  case hfile => first | rfl | decide +kernel
  case hcell => dsimp only [Cx.K]; k_dflt k_is
  case hsuper => dsimp only [Cx.K]; k_dflt k_is
  case l1 => rfl
  case l2 => rfl
  case hks => rfl
  case hkc => rfl
  case hco => rfl
  case hgen => rfl
  case hk => rfl
  case hcl => rfl
  case he => intro env; rfl
  case htop => decide +kernel
  case hboot => boot_by_name
end Mine
end

/-! ## D0f -/
section
open PySem PySem.W PySem.Calls PyProof.Rows
namespace Mine
theorem lookup_app {α : Type} {x : Str} : ∀ {l r : List (Str × α)}, (l ++ r).lookup x = (l.lookup x).or (r.lookup x)
  | [], r => by simp
  | (y, v) :: l, r => by
    simp only [List.cons_append, List.lookup_cons]
    by_cases h : (x == y) = true
    · rw [h]; rfl
    · simp only [h]; exact lookup_app
theorem bindL_at {kindOf : Str → Option NameKind} {x : Str} (hk : kindOf x = some .local) : ∀ (binds : List (Str × Value)) (m : Str → Option Value), bindL kindOf binds m x = (binds.reverse.lookup x).or (m x)
  | [], m => by simp [bindL]
  | (n, v) :: r, m => by
    rw [bindL, bindL_at hk r, List.reverse_cons, lookup_app]
    by_cases hn : x = n
    · subst hn
      rw [if_pos hk, if_pos rfl]
      cases r.reverse.lookup x <;> simp
    · have h2 : ((x == n) = true) = False := by simp [hn]
      have h3 : List.lookup x [(n, v)] = none := by simp [List.lookup_cons, hn, show (x == n) = false from by simp [hn]]
      rw [h3]
      split
      · show _ = _; dsimp only; rw [if_neg hn]; cases r.reverse.lookup x <;> simp
      · cases r.reverse.lookup x <;> simp
theorem bindC_at {kindOf : Str → Option NameKind} {x : Str} (hk : kindOf x ≠ some .local) : ∀ (binds : List (Str × Value)) (m : Str → Option Value), bindC kindOf binds m x = (binds.reverse.lookup x).or (m x)
  | [], m => by simp [bindC]
  | (n, v) :: r, m => by
    rw [bindC, bindC_at hk r, List.reverse_cons, lookup_app]
    by_cases hn : x = n
    · subst hn
      rw [if_neg hk, if_pos rfl]
      cases r.reverse.lookup x <;> simp
    · have h3 : List.lookup x [(n, v)] = none := by simp [List.lookup_cons, hn, show (x == n) = false from by simp [hn]]
      rw [h3]
      split
      · cases r.reverse.lookup x <;> simp
      · show _ = _; dsimp only; rw [if_neg hn]; cases r.reverse.lookup x <;> simp
theorem lookup_mem {α : Type} {x : Str} {a : α} : ∀ {names : List Str} {l : List α}, (names.zip l).lookup x = some a → x ∈ names
  | [], _, h => by simp at h
  | _ :: _, [], h => by simp at h
  | y :: names, b :: l, h => by
    simp only [List.zip_cons_cons, List.lookup_cons] at h
    by_cases hx : (x == y) = true
    · rw [beq_iff_eq.mp hx]; exact .head _
    · simp only [hx] at h; exact .tail _ (lookup_mem h)
theorem zip_lookup0 {as : List Addr} {x : Str} : ∀ {names : List Str} {l : List AV} {vs : List Value}, VRs as l vs → ciOk as ((names.zip l).lookup x) ((names.zip vs).lookup x)
  | [], _, _, _ => by simp [ciOk]
  | _ :: _, [], [], _ => by simp [ciOk]
  | y :: names, a :: l, v :: vs, h => by
    simp only [List.zip_cons_cons, List.lookup_cons]
    by_cases hx : (x == y) = true
    · rw [hx]; exact h.1
    · simp only [hx]; exact zip_lookup0 h.2
section
variable {names : List Str} {cs : List (Str × Nat)} {scope : Scope} {qual : Str} {f : Addr} {cdv : Value}
noncomputable def kindsOk (names : List Str) (cs : List (Str × Nat)) (scope : Scope) : Bool := (names.all fun y => scope.names.lookup y == some .local || (scope.names.lookup y == some .cell && cs.any fun p => p.1 == y)) && cs.all fun p => scope.names.lookup p.1 == some .cell
theorem hkind_of (h : kindsOk names cs scope = true) : ∀ vs : List Value, vs.length = names.length → ((names.zip vs).all fun y => scope.names.lookup y.1 == some .local || scope.names.lookup y.1 == some .cell) = true := fun vs _ => by
  refine List.all_eq_true.mpr fun y hy => ?_
  have := List.all_eq_true.mp (Bool.and_eq_true_iff.mp h).1 y.1 (List.of_mem_zip hy).1
  simp only [Bool.or_eq_true, Bool.and_eq_true] at this ⊢
  exact this.imp id fun z => z.1
theorem hbl_of (h : kindsOk names cs scope = true) : ∀ (as : List Addr) (l : List AV) (vs : List Value) (L' : Addr), VRs as l vs → l.length = names.length → LocR as (argR names l) (bindL (envOfC qual scope L' f cdv).kindOf (names.zip vs) fun _ => none) ∨
      (∀ x a, argR names l x = some a → (∀ p ∈ cs, p.1 ≠ x) → ∃ v, (bindL (envOfC qual scope L' f cdv).kindOf (names.zip vs) fun _ => none) x = some v ∧ VR as a v) := fun as l vs L' hv hl => .inr fun x a e hx => by
  unfold argR at e
  rw [zip_rev hl.symm] at e
  have hm : x ∈ names := List.mem_reverse.mp (lookup_mem e)
  have hk : (envOfC qual scope L' f cdv).kindOf x = some .local := by
    have := List.all_eq_true.mp (Bool.and_eq_true_iff.mp h).1 x hm
    simp only [Bool.or_eq_true, Bool.and_eq_true, beq_iff_eq] at this
    rcases this with z | ⟨_, z⟩
    · exact z
    · obtain ⟨p, hp, q⟩ := List.any_eq_true.mp z
      exact absurd (beq_iff_eq.mp q) (hx p hp)
  rw [bindL_at hk, zip_rev (hl.symm.trans hv.len.symm)]
  obtain ⟨v, h1, h2⟩ := zip_lookup hv.reverse x a e
  exact ⟨v, by rw [h1]; rfl, h2⟩
theorem hbc_of (h : kindsOk names cs scope = true) : ∀ (as : List Addr) (l : List AV) (vs : List Value) (L' : Addr), VRs as l vs → l.length = names.length → ∀ p ∈ cs, ciOk as (argR names l p.1) (bindC (envOfC qual scope L' f cdv).kindOf (names.zip vs) (fun _ => none) p.1) := fun as l vs L' hv hl p hp => by
  have hk : (envOfC qual scope L' f cdv).kindOf p.1 ≠ some .local := by
    have := List.all_eq_true.mp (Bool.and_eq_true_iff.mp h).2 p hp
    have z : (envOfC qual scope L' f cdv).kindOf p.1 = some .cell := beq_iff_eq.mp this
    rw [z]; exact fun q => by cases q
  unfold argR
  rw [bindC_at hk, zip_rev hl.symm, zip_rev (hl.symm.trans hv.len.symm), Option.or_none]
  exact zip_lookup0 hv.reverse
end
end Mine
end

/-! ## D0g -/
section
open PySem PySem.W PySem.Calls PyProof.Rows
namespace Mine
theorem len1 {α : Type} : ∀ {l : List α}, l.length = 1 → ∃ x0, l = [x0] := by
  intro l h
  obtain _ | ⟨x0, l⟩ := l
  · simp at h
  obtain _ | ⟨y, l⟩ := l
  · exact ⟨x0, rfl⟩
  · simp at h
noncomputable def args1 {β : Type} (f : AV → AM β) (l : List AV) : AM β := match l with
  | [x0] => f x0
  | _ => fun _ => .stuck
theorem len2 {α : Type} : ∀ {l : List α}, l.length = 2 → ∃ x0 x1, l = [x0, x1] := by
  intro l h
  obtain _ | ⟨x0, l⟩ := l
  · simp at h
  obtain _ | ⟨x1, l⟩ := l
  · simp at h
  obtain _ | ⟨y, l⟩ := l
  · exact ⟨x0, x1, rfl⟩
  · simp at h
noncomputable def args2 {β : Type} (f : AV → AV → AM β) (l : List AV) : AM β := match l with
  | [x0, x1] => f x0 x1
  | _ => fun _ => .stuck
noncomputable def argsC2 {β : Type} (f : AV → AV → Nat → AM β) (l : List AV) (k : Nat) : AM β := match l with
  | [x0, x1] => f x0 x1 k
  | _ => fun _ => .stuck
theorem len3 {α : Type} : ∀ {l : List α}, l.length = 3 → ∃ x0 x1 x2, l = [x0, x1, x2] := by
  intro l h
  obtain _ | ⟨x0, l⟩ := l
  · simp at h
  obtain _ | ⟨x1, l⟩ := l
  · simp at h
  obtain _ | ⟨x2, l⟩ := l
  · simp at h
  obtain _ | ⟨y, l⟩ := l
  · exact ⟨x0, x1, x2, rfl⟩
  · simp at h
noncomputable def args3 {β : Type} (f : AV → AV → AV → AM β) (l : List AV) : AM β := match l with
  | [x0, x1, x2] => f x0 x1 x2
  | _ => fun _ => .stuck
theorem len4 {α : Type} : ∀ {l : List α}, l.length = 4 → ∃ x0 x1 x2 x3, l = [x0, x1, x2, x3] := by
  intro l h
  obtain _ | ⟨x0, l⟩ := l
  · simp at h
  obtain _ | ⟨x1, l⟩ := l
  · simp at h
  obtain _ | ⟨x2, l⟩ := l
  · simp at h
  obtain _ | ⟨x3, l⟩ := l
  · simp at h
  obtain _ | ⟨y, l⟩ := l
  · exact ⟨x0, x1, x2, x3, rfl⟩
  · simp at h
noncomputable def args4 {β : Type} (f : AV → AV → AV → AV → AM β) (l : List AV) : AM β := match l with
  | [x0, x1, x2, x3] => f x0 x1 x2 x3
  | _ => fun _ => .stuck
theorem len5 {α : Type} : ∀ {l : List α}, l.length = 5 → ∃ x0 x1 x2 x3 x4, l = [x0, x1, x2, x3, x4] := by
  intro l h
  obtain _ | ⟨x0, l⟩ := l
  · simp at h
  obtain _ | ⟨x1, l⟩ := l
  · simp at h
  obtain _ | ⟨x2, l⟩ := l
  · simp at h
  obtain _ | ⟨x3, l⟩ := l
  · simp at h
  obtain _ | ⟨x4, l⟩ := l
  · simp at h
  obtain _ | ⟨y, l⟩ := l
  · exact ⟨x0, x1, x2, x3, x4, rfl⟩
  · simp at h
noncomputable def args5 {β : Type} (f : AV → AV → AV → AV → AV → AM β) (l : List AV) : AM β := match l with
  | [x0, x1, x2, x3, x4] => f x0 x1 x2 x3 x4
  | _ => fun _ => .stuck
theorem codes (w : World) : codeHdIn (hd.heap_39 w.params) 244 242 = true ∧ codeHdIn (hd.heap_39 w.params) 251 247 = true := by constructor <;> kernel_rfl
theorem sub_of {cix cix' : List (Str × Nat)} {clos cl : List (Str × Addr)} (h : ∀ p ∈ cix', cix.lookup p.1 = some p.2 ∧ clos.lookup p.1 = cl.lookup p.1) : ∀ x j, cix'.lookup x = some j → cix.lookup x = some j ∧ clos.lookup x = cl.lookup x := fun x j e => by
  have : (x, j) ∈ cix' := by
    induction cix' with
    | nil => simp at e
    | cons p r ih =>
      obtain ⟨y, k⟩ := p
      rw [List.lookup_cons] at e
      by_cases hx : (x == y) = true
      · rw [hx] at e; cases e; rw [beq_iff_eq.mp hx]; exact .head _
      · simp only [hx] at e; exact .tail _ (ih (fun p hp => h p (.tail _ hp)) e)
  exact h _ this
theorem G_w {c : Cx} {lv : Nat} {ρ : Rho} {i : Nat} {cc P : Addr} {np pos lpos : Pos} {params : Arguments} {lbody : PySem.Expr} {scope : Scope} {clos : List (Str × Addr)} {cix' : List (Str × Nat)} {mb : AM AV}
    (hxn : c.cs.names.lookup ("_law_word" : Str) = some .globalImplicit) (hc0 : c.ccd = .ref cc) (hcode : codeHdIn c.K cc P = true) (hP : c.pin[i]? = some P)
    (hdef : defaultsOf params c.env = ([], [])) (hcl : closureFor scope c.env = pure clos) (hsub : ∀ p ∈ cix', c.cix.lookup p.1 = some p.2 ∧ clos.lookup p.1 = c.cl.lookup p.1)
    (hlb : ∀ pm c' ctv, bindArgs (kla_fn "<lambda>" (c.env.qual ++ "<lambda>") params lbody scope clos pm (.ref c') ctv) ⟨[], []⟩ = pure [])
    (hco : scope.isCoroutine = false) (hgen : scope.isGenerator = false) (hk : scope.kind = .function) (hcell : (scope.names.all fun x => x.2 != .cell) = true)
    (hbody : ∀ (c₂ : Cx) f c' g₂ L₂, SimE (c₂.callee c₂.dp c₂.un c₂.gd (c.env.qual ++ "<lambda>") scope f (.ref c') clos g₂ L₂ cix') lv no (c₂.callee c₂.dp c₂.un c₂.gd (c.env.qual ++ "<lambda>") scope f (.ref c') clos g₂ L₂ cix').env lbody mb) :
    SimG c (lv + 2) ρ c.env (.Call (.Name "_law_word" np) [.Lambda params lbody scope lpos] [] pos) (wordM i (lpos.line, lpos.col) mb) := by
  have kf9 : (hd.heap_39 c.w.params).In default → PySem.Challenge.rw_nz0564_01.row.prog = PG → True := by (k_fill; intros; trivial)
  clear kf9
  refine' G_word (errCls c.w) (kfacts c.w).gf_DiskError (kfacts c.w).gf__law_word (kfacts c.w).kp__law_word hxn ?ho ?hcd ?hb ?s1 ?s2 ?s3 ?hco2 ?hgen2 ?hk2 ?hcell2 hc0 hcode hP hdef hcl (sub_of hsub) hlb hco hgen hk hcell hbody
  case ho => dsimp only [Cx.K]; k_dflt k_is
  case hcd => dsimp only [Cx.K]; k_dflt k_is
  case hb => intro s vs X hl; match vs, hl with | [v0], _ => exact BindsTo.of_eq rfl
  case s1 => exact rfl
  case s2 => exact rfl
  case s3 => exact rfl
  case hco2 => exact rfl
  case hgen2 => exact rfl
  case hk2 => exact rfl
  case hcell2 => exact rfl
end Mine
end

/-! ## D1 -/
section
open PySem PySem.W PySem.Calls PyProof.Rows
namespace Mine
noncomputable def P85 : AV → AM (Option AV) := fun a_disk => (do let a ← (do let x ← (do let a ← (do let o ← (pure a_disk); getF 53 "blocks" o); let b ← (pure (.int 256)); let x ← acmp .LtE a b; abool x); if x then (pure (.int 16)) else (pure (.int 8))); pure (some a))
noncomputable def M85 : List AV → AM AV := fun l => do let o ← theArgs 1 (args1 P85) l; pure (outOf o)
theorem F85 {c : Cx} {lv : Nat} {ρ : Rho} : SimF c (lv + 2) ρ (.ref 85) M85 := by
  have kf9 : (hd.heap_39 c.w.params).In default → PySem.Challenge.rw_nz0564_01.row.prog = PG → True := by (k_fill; intros; trivial)
  clear kf9
  refine' F_def (lv := lv + 1) (names := ["disk"]) ?ho ?hcd ?hb ?hloc ?hco ?hgen ?hk ?hcell ?hbody
  case ho => dsimp only [Cx.K]; k_dflt k_is
  case hcd => dsimp only [Cx.K]; k_dflt k_is
  case hb => intro s vs X hl; obtain ⟨v0, rfl⟩ := len1 hl; exact BindsTo.of_eq rfl
  case hloc => exact rfl
  case hco => exact rfl
  case hgen => exact rfl
  case hk => exact rfl
  case hcell => exact rfl
  case hbody =>
    intro l hl d' u' gd' g L'
    obtain ⟨a_disk, rfl⟩ := len1 hl
    exact (S_ret (E_if (B_cmp (E_attrN 53 (E_loc rfl rfl) (kfacts _).at_53_blocks) E_int rfl) E_int E_int))
noncomputable def P92 : AV → AM (Option AV) := fun a_disk => (do let a ← (do let a ← (do let o ← (pure a_disk); getF 53 "block" o); let b ← (do let o ← (pure a_disk); getF 53 "record" o); abin .FloorDiv a b); pure (some a))
noncomputable def M92 : List AV → AM AV := fun l => do let o ← theArgs 1 (args1 P92) l; pure (outOf o)
theorem F92 {c : Cx} {lv : Nat} {ρ : Rho} : SimF c (lv + 2) ρ (.ref 92) M92 := by
  have kf9 : (hd.heap_39 c.w.params).In default → PySem.Challenge.rw_nz0564_01.row.prog = PG → True := by (k_fill; intros; trivial)
  clear kf9
  refine' F_def (lv := lv + 1) (names := ["disk"]) ?ho ?hcd ?hb ?hloc ?hco ?hgen ?hk ?hcell ?hbody
  case ho => dsimp only [Cx.K]; k_dflt k_is
  case hcd => dsimp only [Cx.K]; k_dflt k_is
  case hb => intro s vs X hl; obtain ⟨v0, rfl⟩ := len1 hl; exact BindsTo.of_eq rfl
  case hloc => exact rfl
  case hco => exact rfl
  case hgen => exact rfl
  case hk => exact rfl
  case hcell => exact rfl
  case hbody =>
    intro l hl d' u' gd' g L'
    obtain ⟨a_disk, rfl⟩ := len1 hl
    exact (S_ret (E_bin (E_attrN 53 (E_loc rfl rfl) (kfacts _).at_53_block) (E_attrN 53 (E_loc rfl rfl) (kfacts _).at_53_record)))
noncomputable def P99 : AV → AM (Option AV) := fun a_disk => (do let a ← (do let l ← (do let a ← (do let a ← (do let l ← (do let a ← (pure a_disk); let l ← (pure []); pure (a :: l)); M85 l); let b ← (do let l ← (do let a ← (pure a_disk); let l ← (pure []); pure (a :: l)); M92 l); abin .Mult a b); let l ← (do let a ← (pure (.int 128)); let l ← (pure []); pure (a :: l)); pure (a :: l)); aMin l); pure (some a))
noncomputable def M99 : List AV → AM AV := fun l => do let o ← theArgs 1 (args1 P99) l; pure (outOf o)
theorem F99 {c : Cx} {lv : Nat} {ρ : Rho} : SimF c (lv + 3) ρ (.ref 99) M99 := by
  have kf9 : (hd.heap_39 c.w.params).In default → PySem.Challenge.rw_nz0564_01.row.prog = PG → True := by (k_fill; intros; trivial)
  clear kf9
  refine' F_def (lv := lv + 2) (names := ["disk"]) ?ho ?hcd ?hb ?hloc ?hco ?hgen ?hk ?hcell ?hbody
  case ho => dsimp only [Cx.K]; k_dflt k_is
  case hcd => dsimp only [Cx.K]; k_dflt k_is
  case hb => intro s vs X hl; obtain ⟨v0, rfl⟩ := len1 hl; exact BindsTo.of_eq rfl
  case hloc => exact rfl
  case hco => exact rfl
  case hgen => exact rfl
  case hk => exact rfl
  case hcell => exact rfl
  case hbody =>
    intro l hl d' u' gd' g L'
    obtain ⟨a_disk, rfl⟩ := len1 hl
    exact (S_ret (E_callB (N_boot (globEnv rfl) (kfacts _).gb_min bb_min rfl) (L_cons (E_bin (E_call (N_glob (globEnv rfl) (kfacts _).gf_map_slots rfl) (kfacts _).kp_map_slots (L_cons (E_loc rfl rfl) L_nil) (F85 (lv := lv))) (E_call (N_glob (globEnv rfl) (kfacts _).gf_records_of_block rfl) (kfacts _).kp_records_of_block (L_cons (E_loc rfl rfl) L_nil) (F92 (lv := lv)))) (L_cons (E_globN (N_glob (globEnv rfl) (kfacts _).gi_MOST_RECORDS rfl) ⟨_, rfl⟩) L_nil)) min_W))
noncomputable def P50 : AV → AV → AV → AV → AV → AM (Option AV) := fun a_self a_blocks a_block a_record a_entries => (do let x ← (do let a ← (do let a ← (pure a_entries); let b ← (pure (.int 32)); abin .Mult a b); let b ← (do let a ← (pure a_blocks); let b ← (pure a_block); abin .Mult a b); let x ← acmp .Gt a b; abool x); let r ← (if x then (do let _ ← ((fun H => .err "range" H) : AM Unit); (pure none)) else (pure none)); after r (do let _ ← (do let a ← (pure a_blocks); let r ← (pure a_self); setF 53 "blocks" r a); (do let _ ← (do let a ← (pure a_block); let r ← (pure a_self); setF 53 "block" r a); (do let _ ← (do let a ← (pure a_record); let r ← (pure a_self); setF 53 "record" r a); (do let _ ← (do let a ← (pure a_entries); let r ← (pure a_self); setF 53 "entries" r a); (do let _ ← (do let a ← (pure (.bool false)); let r ← (pure a_self); setF 53 "is_read_only" r a); (do let _ ← (do let a ← (do let a ← (do let l ← (do let a ← (pure (.int 229)); let l ← (pure []); pure (a :: l)); newInts l); let b ← (do let a ← (pure a_blocks); let b ← (pure a_block); abin .Mult a b); abin .Mult a b); let r ← (pure a_self); setF 53 "data" r a); (pure none))))))))
theorem F53 {c : Cx} {lv : Nat} {ρ : Rho} : SimF c (lv + 2) ρ (.ref 53) (aNew 53 5 (args5 P50)) := by
  have kf9 : (hd.heap_39 c.w.params).In default → PySem.Challenge.rw_nz0564_01.row.prog = PG → True := by (k_fill; intros; trivial)
  clear kf9
  refine' F_new (lv := lv + 1) (names := ["self", "blocks", "block", "record", "entries"]) ?hm ?hi ?hf ?ho ?hcd ?hb ?hloc ?hco ?hgen ?hk ?hcell ?hbody
  case hm => dsimp only [Cx.K]; k_dflt k_is
  case hi => dsimp only [Cx.K]; k_dflt k_is
  case hf => dsimp only [Cx.K]; k_dflt k_is
  case ho => dsimp only [Cx.K]; k_dflt k_is
  case hcd => dsimp only [Cx.K]; k_dflt k_is
  case hb => intro s vs X hl; obtain ⟨v0, v1, v2, v3, v4, rfl⟩ := len5 hl; exact BindsTo.of_eq rfl
  case hloc => exact rfl
  case hco => exact rfl
  case hgen => exact rfl
  case hk => exact rfl
  case hcell => exact rfl
  case hbody =>
    intro l hl d' u' gd' g L'
    obtain ⟨a_self, a_blocks, a_block, a_record, a_entries, rfl⟩ := len5 hl
    exact (S_if (B_cmp (E_bin (E_loc rfl rfl) (E_globN (N_glob (globEnv rfl) (kfacts _).gi_ENTRY_SIZE rfl) ⟨_, rfl⟩)) (E_bin (E_loc rfl rfl) (E_loc rfl rfl)) rfl) (S_cons (X_raise (errCls _) initOk (kfacts _).gf_DiskError (kfacts _).kp_DiskError rfl) (fun _ => S_nil)) S_nil (S_cons (X_attr 53 (E_loc rfl rfl) (E_loc rfl rfl) (kfacts _).st_53_blocks) (fun _ => (S_cons (X_attr 53 (E_loc rfl rfl) (E_loc rfl rfl) (kfacts _).st_53_block) (fun _ => (S_cons (X_attr 53 (E_loc rfl rfl) (E_loc rfl rfl) (kfacts _).st_53_record) (fun _ => (S_cons (X_attr 53 (E_loc rfl rfl) (E_loc rfl rfl) (kfacts _).st_53_entries) (fun _ => (S_cons (X_attr 53 E_bool (E_loc rfl rfl) (kfacts _).st_53_is_read_only) (fun _ => (S_cons (X_attr 53 (E_bin (E_ints (L_cons (E_globN (N_glob (globEnv rfl) (kfacts _).gi_FREE rfl) ⟨_, rfl⟩) L_nil)) (E_bin (E_loc rfl rfl) (E_loc rfl rfl))) (E_loc rfl rfl) (kfacts _).st_53_data) (fun _ => (S_nil (fun _ _ e => by cases e)))))))))))))))
noncomputable def P71 : AV → AV → AV → AV → AM (Option AV) := fun a_self a_user a_raw a_extent => (do let _ ← (do let a ← (pure a_user); let r ← (pure a_self); setF 74 "user" r a); (do let _ ← (do let a ← (do let l ← (do let a ← (pure a_raw); let l ← (pure []); pure (a :: l)); aCopy l); let r ← (pure a_self); setF 74 "raw" r a); (do let _ ← (do let a ← (pure a_extent); let r ← (pure a_self); setF 74 "extent" r a); (do let _ ← (do let a ← (pure (.int 0)); let r ← (pure a_self); setF 74 "spare" r a); (do let _ ← (do let a ← (pure (.int 0)); let r ← (pure a_self); setF 74 "count" r a); (do let _ ← (do let a ← (do let l ← (pure []); newInts l); let r ← (pure a_self); setF 74 "map" r a); (pure none)))))))
theorem F74 {c : Cx} {lv : Nat} {ρ : Rho} : SimF c (lv + 2) ρ (.ref 74) (aNew 74 4 (args4 P71)) := by
  have kf9 : (hd.heap_39 c.w.params).In default → PySem.Challenge.rw_nz0564_01.row.prog = PG → True := by (k_fill; intros; trivial)
  clear kf9
  refine' F_new (lv := lv + 1) (names := ["self", "user", "raw", "extent"]) ?hm ?hi ?hf ?ho ?hcd ?hb ?hloc ?hco ?hgen ?hk ?hcell ?hbody
  case hm => dsimp only [Cx.K]; k_dflt k_is
  case hi => dsimp only [Cx.K]; k_dflt k_is
  case hf => dsimp only [Cx.K]; k_dflt k_is
  case ho => dsimp only [Cx.K]; k_dflt k_is
  case hcd => dsimp only [Cx.K]; k_dflt k_is
  case hb => intro s vs X hl; obtain ⟨v0, v1, v2, v3, rfl⟩ := len4 hl; exact BindsTo.of_eq rfl
  case hloc => exact rfl
  case hco => exact rfl
  case hgen => exact rfl
  case hk => exact rfl
  case hcell => exact rfl
  case hbody =>
    intro l hl d' u' gd' g L'
    obtain ⟨a_self, a_user, a_raw, a_extent, rfl⟩ := len4 hl
    exact (S_cons (X_attr 74 (E_loc rfl rfl) (E_loc rfl rfl) (kfacts _).st_74_user) (fun _ => (S_cons (X_attr 74 (E_callT (N_boot (globEnv rfl) (kfacts _).gb_list bb_list rfl) (L_cons (E_loc rfl rfl) L_nil) copy_W) (E_loc rfl rfl) (kfacts _).st_74_raw) (fun _ => (S_cons (X_attr 74 (E_loc rfl rfl) (E_loc rfl rfl) (kfacts _).st_74_extent) (fun _ => (S_cons (X_attr 74 E_int (E_loc rfl rfl) (kfacts _).st_74_spare) (fun _ => (S_cons (X_attr 74 E_int (E_loc rfl rfl) (kfacts _).st_74_count) (fun _ => (S_cons (X_attr 74 (E_ints L_nil) (E_loc rfl rfl) (kfacts _).st_74_map) (fun _ => (S_nil (fun _ _ e => by cases e))))))))))))))
noncomputable def P106 : AV → AM (Option AV) := fun a_disk => (do let x ← (do let a ← (do let o ← (pure a_disk); getF 53 "is_read_only" o); abool a); let r ← (if x then (do let _ ← ((fun H => .err "read only" H) : AM Unit); (pure none)) else (pure none)); after r (pure none))
noncomputable def M106 : List AV → AM AV := fun l => do let o ← theArgs 1 (args1 P106) l; pure (outOf o)
theorem F106 {c : Cx} {lv : Nat} {ρ : Rho} : SimF c (lv + 2) ρ (.ref 106) M106 := by
  have kf9 : (hd.heap_39 c.w.params).In default → PySem.Challenge.rw_nz0564_01.row.prog = PG → True := by (k_fill; intros; trivial)
  clear kf9
  refine' F_def (lv := lv + 1) (names := ["disk"]) ?ho ?hcd ?hb ?hloc ?hco ?hgen ?hk ?hcell ?hbody
  case ho => dsimp only [Cx.K]; k_dflt k_is
  case hcd => dsimp only [Cx.K]; k_dflt k_is
  case hb => intro s vs X hl; obtain ⟨v0, rfl⟩ := len1 hl; exact BindsTo.of_eq rfl
  case hloc => exact rfl
  case hco => exact rfl
  case hgen => exact rfl
  case hk => exact rfl
  case hcell => exact rfl
  case hbody =>
    intro l hl d' u' gd' g L'
    obtain ⟨a_disk, rfl⟩ := len1 hl
    exact (S_if (B_val (E_attrN 53 (E_loc rfl rfl) (kfacts _).at_53_is_read_only)) (S_cons (X_raise (errCls _) initOk (kfacts _).gf_DiskError (kfacts _).kp_DiskError rfl) (fun _ => S_nil)) S_nil (S_nil (fun _ _ e => by cases e)))
noncomputable def P113 : AV → AV → AV → AV → AM (Option AV) := fun a_disk a_user a_raw a_extent => (do let v_found_1 ← (do let l ← (do let a ← (pure a_user); let l ← (do let a ← (pure a_raw); let l ← (do let a ← (pure a_extent); let l ← (pure []); pure (a :: l)); pure (a :: l)); pure (a :: l)); (aNew 74 4 (args4 P71)) l); (do let _ ← (do let a ← (do let a ← (do let l ← (do let a ← (pure (.int 0)); let l ← (pure []); pure (a :: l)); newInts l); let b ← (do let l ← (do let a ← (pure a_disk); let l ← (pure []); pure (a :: l)); M85 l); abin .Mult a b); let r ← (pure v_found_1); setF 74 "map" r a); (do let a ← (pure v_found_1); pure (some a))))
noncomputable def M113 : List AV → AM AV := fun l => do let o ← theArgs 4 (args4 P113) l; pure (outOf o)
theorem F113 {c : Cx} {lv : Nat} {ρ : Rho} : SimF c (lv + 3) ρ (.ref 113) M113 := by
  have kf9 : (hd.heap_39 c.w.params).In default → PySem.Challenge.rw_nz0564_01.row.prog = PG → True := by (k_fill; intros; trivial)
  clear kf9
  refine' F_def (lv := lv + 2) (names := ["disk", "user", "raw", "extent"]) ?ho ?hcd ?hb ?hloc ?hco ?hgen ?hk ?hcell ?hbody
  case ho => dsimp only [Cx.K]; k_dflt k_is
  case hcd => dsimp only [Cx.K]; k_dflt k_is
  case hb => intro s vs X hl; obtain ⟨v0, v1, v2, v3, rfl⟩ := len4 hl; exact BindsTo.of_eq rfl
  case hloc => exact rfl
  case hco => exact rfl
  case hgen => exact rfl
  case hk => exact rfl
  case hcell => exact rfl
  case hbody =>
    intro l hl d' u' gd' g L'
    obtain ⟨a_disk, a_user, a_raw, a_extent, rfl⟩ := len4 hl
    exact (S_cons (X_assign (E_call (N_glob (globEnv rfl) (kfacts _).gf_Entry rfl) (kfacts _).kp_Entry (L_cons (E_loc rfl rfl) (L_cons (E_loc rfl rfl) (L_cons (E_loc rfl rfl) L_nil))) (F74 (lv := lv))) rfl) (fun v_found_1 => (S_cons (X_attr 74 (E_bin (E_ints (L_cons E_int L_nil)) (E_call (N_glob (globEnv rfl) (kfacts _).gf_map_slots rfl) (kfacts _).kp_map_slots (L_cons (E_loc rfl rfl) L_nil) (F85 (lv := lv)))) (E_loc rfl rfl) (kfacts _).st_74_map) (fun _ => (S_ret (E_loc rfl rfl))))))
noncomputable def P167 : AV → AV → Nat → AM (Option AV) := fun a_disk a_octets ck => (do let x ← (do let a ← (do let l ← (do let a ← (pure a_disk); let l ← (pure []); pure (a :: l)); M85 l); let b ← (pure (.int 16)); let x ← acmp .Eq a b; abool x); let r ← (if x then (do let a ← (do let o ← (getCell ck); let a ← (pure (.int 16)); let b ← (pure (.int 32)); getS o a b); pure (some a)) else (pure none)); after r (do let a ← (do let p ← (do let l ← (do let a ← (pure (.int 16)); let l ← (do let a ← (pure (.int 32)); let l ← (do let a ← (pure (.int 2)); let l ← (pure []); pure (a :: l)); pure (a :: l)); pure (a :: l)); rangeOf l); let l ← compR (fun k => (do let a ← (do let o ← (getCell ck); let k ← (pure (.int k)); getI o k); let b ← (do let a ← (pure (.int 256)); let b ← (do let o ← (getCell ck); let k ← (do let a ← (pure (.int k)); let b ← (pure (.int 1)); abin .Add a b); getI o k); abin .Mult a b); abin .Add a b)) p; newL l); pure (some a)))
noncomputable def M167 : List AV → AM AV := fun l => do let o ← cellBody ["disk", "octets"] [("octets", 0)] (argsC2 P167) l; pure (outOf o)
theorem F167 {c : Cx} {lv : Nat} {ρ : Rho} : SimF c (lv + 3) ρ (.ref 167) M167 := by
  have kf9 : (hd.heap_39 c.w.params).In default → PySem.Challenge.rw_nz0564_01.row.prog = PG → True := by (k_fill; intros; trivial)
  clear kf9
  refine' F_defC (lv := lv + 2) (names := ["disk", "octets"]) (cs := [("octets", 0)]) ?ho ?hcd ?hb (hkind_of (cs := [("octets", 0)]) ?kd1) ?hnd ?hcs ?hcn (hbl_of ?kd2) (hbc_of ?kd3) ?hco ?hgen ?hk ?hbody
  case ho => dsimp only [Cx.K]; k_dflt k_is
  case hcd => dsimp only [Cx.K]; k_dflt k_is
  case hb => intro s vs X hl; obtain ⟨v0, v1, rfl⟩ := len2 hl; exact BindsTo.of_eq rfl
  case kd1 => exact rfl
  case kd2 => exact rfl
  case kd3 => exact rfl
  case hnd => decide
  case hcs => intro a; rfl
  case hcn => decide
  case hco => exact rfl
  case hgen => exact rfl
  case hk => exact rfl
  case hbody =>
    intro l hl d' u' gd' g L' ck
    obtain ⟨a_disk, a_octets, rfl⟩ := len2 hl
    exact (S_if (B_cmp (E_call (N_glob (globEnv rfl) (kfacts _).gf_map_slots rfl) (kfacts _).kp_map_slots (L_cons (E_loc rfl rfl) L_nil) (F85 (lv := lv))) E_int rfl) (S_ret (E_slice (E_cell rfl rfl (.inl rfl)) (P_some (E_globN (N_glob (globEnv rfl) (kfacts _).gi_MAP_AT rfl) ⟨_, rfl⟩)) (P_some (E_globN (N_glob (globEnv rfl) (kfacts _).gi_ENTRY_SIZE rfl) ⟨_, rfl⟩)))) S_nil (S_ret (E_compR (R_range (N_boot (globEnv rfl) (kfacts _).gb_range bb_range rfl) (L_cons (E_globN (N_glob (globEnv rfl) (kfacts _).gi_MAP_AT rfl) ⟨_, rfl⟩) (L_cons (E_globN (N_glob (globEnv rfl) (kfacts _).gi_ENTRY_SIZE rfl) ⟨_, rfl⟩) (L_cons E_int L_nil)))) ⟨rfl, rfl, rfl, rfl, rfl⟩ (fun own frz C oC m₂ t k hm hn hv => (E_bin (E_sub (E_free rfl rfl rfl (.inr rfl)) (E_cvar hm hn hv rfl rfl)) (E_bin E_int (E_sub (E_free rfl rfl rfl (.inr rfl)) (E_bin (E_cvar hm hn hv rfl rfl) E_int))))))))
noncomputable def P174 : AV → AV → AM (Option AV) := fun a_disk a_blocks => (do let x ← (do let a ← (do let l ← (do let a ← (pure a_disk); let l ← (pure []); pure (a :: l)); M85 l); let b ← (pure (.int 16)); let x ← acmp .Eq a b; abool x); let r ← (if x then (do let a ← (do let l ← (do let a ← (pure a_blocks); let l ← (pure []); pure (a :: l)); aCopy l); pure (some a)) else (pure none)); after r (do let v_found_2 ← (do let l ← (pure []); newInts l); (do let _ ← (do let o ← noErr (pure a_blocks); forInts (fun (_ : Unit) k => (do let _ ← (do let o ← (pure v_found_2); isList o; let l ← (do let a ← (do let l ← (do let a ← (do let a ← (pure (.int k)); let b ← (pure (.int 256)); abin .Mod a b); let l ← (do let a ← (do let a ← (pure (.int k)); let b ← (pure (.int 256)); abin .FloorDiv a b); let l ← (pure []); pure (a :: l)); pure (a :: l)); newInts l); let l ← (pure []); pure (a :: l)); aExtend o l); pure ())) () o); (do let a ← (pure v_found_2); pure (some a)))))
noncomputable def M174 : List AV → AM AV := fun l => do let o ← theArgs 2 (args2 P174) l; pure (outOf o)
theorem F174 {c : Cx} {lv : Nat} {ρ : Rho} : SimF c (lv + 3) ρ (.ref 174) M174 := by
  have kf9 : (hd.heap_39 c.w.params).In default → PySem.Challenge.rw_nz0564_01.row.prog = PG → True := by (k_fill; intros; trivial)
  clear kf9
  refine' F_def (lv := lv + 2) (names := ["disk", "blocks"]) ?ho ?hcd ?hb ?hloc ?hco ?hgen ?hk ?hcell ?hbody
  case ho => dsimp only [Cx.K]; k_dflt k_is
  case hcd => dsimp only [Cx.K]; k_dflt k_is
  case hb => intro s vs X hl; obtain ⟨v0, v1, rfl⟩ := len2 hl; exact BindsTo.of_eq rfl
  case hloc => exact rfl
  case hco => exact rfl
  case hgen => exact rfl
  case hk => exact rfl
  case hcell => exact rfl
  case hbody =>
    intro l hl d' u' gd' g L'
    obtain ⟨a_disk, a_blocks, rfl⟩ := len2 hl
    exact (S_if (B_cmp (E_call (N_glob (globEnv rfl) (kfacts _).gf_map_slots rfl) (kfacts _).kp_map_slots (L_cons (E_loc rfl rfl) L_nil) (F85 (lv := lv))) E_int rfl) (S_ret (E_callT (N_boot (globEnv rfl) (kfacts _).gb_list bb_list rfl) (L_cons (E_loc rfl rfl) L_nil) copy_W)) S_nil (S_cons (X_assign (E_ints L_nil) rfl) (fun v_found_2 => (S_cons (X_for (σ := Unit) (ρσ := fun _ => _) () (E_loc rfl rfl) rfl (fun own frz _ k => T_one (X_weak (X_unit (X_expr (E_meth PySem.F.slot_list_extend PySem.F.type_list_extend (E_loc rfl rfl) (L_cons (E_ints (L_cons (E_bin (E_loc rfl rfl) E_int) (L_cons (E_bin (E_loc rfl rfl) E_int) L_nil))) L_nil) extend_W rfl))) (fun _ y a e => rset_weak rfl y a e))) (fun _ _ e => e)) (fun _ => (S_ret (E_loc rfl rfl)))))))
noncomputable def P120 : AV → AV → AM (Option AV) := fun a_disk a_entry => (do let v_found_3 ← (do let a ← (do let l ← (do let a ← (do let o ← (pure a_entry); getF 74 "user" o); let l ← (pure []); pure (a :: l)); newInts l); let b ← (do let o ← (pure a_entry); getF 74 "raw" o); abin .Add a b); (do let v_found_4 ← (do let a ← (pure v_found_3); let b ← (do let l ← (do let a ← (do let a ← (do let o ← (pure a_entry); getF 74 "extent" o); let b ← (pure (.int 32)); abin .Mod a b); let l ← (do let a ← (do let o ← (pure a_entry); getF 74 "spare" o); let l ← (do let a ← (do let a ← (do let o ← (pure a_entry); getF 74 "extent" o); let b ← (pure (.int 32)); abin .FloorDiv a b); let l ← (do let a ← (do let o ← (pure a_entry); getF 74 "count" o); let l ← (pure []); pure (a :: l)); pure (a :: l)); pure (a :: l)); pure (a :: l)); newInts l); abin .Add a b); (do let a ← (do let a ← (pure v_found_4); let b ← (do let l ← (do let a ← (pure a_disk); let l ← (do let a ← (do let o ← (pure a_entry); getF 74 "map" o); let l ← (pure []); pure (a :: l)); pure (a :: l)); M174 l); abin .Add a b); pure (some a))))
noncomputable def M120 : List AV → AM AV := fun l => do let o ← theArgs 2 (args2 P120) l; pure (outOf o)
theorem F120 {c : Cx} {lv : Nat} {ρ : Rho} : SimF c (lv + 4) ρ (.ref 120) M120 := by
  have kf9 : (hd.heap_39 c.w.params).In default → PySem.Challenge.rw_nz0564_01.row.prog = PG → True := by (k_fill; intros; trivial)
  clear kf9
  refine' F_def (lv := lv + 3) (names := ["disk", "entry"]) ?ho ?hcd ?hb ?hloc ?hco ?hgen ?hk ?hcell ?hbody
  case ho => dsimp only [Cx.K]; k_dflt k_is
  case hcd => dsimp only [Cx.K]; k_dflt k_is
  case hb => intro s vs X hl; obtain ⟨v0, v1, rfl⟩ := len2 hl; exact BindsTo.of_eq rfl
  case hloc => exact rfl
  case hco => exact rfl
  case hgen => exact rfl
  case hk => exact rfl
  case hcell => exact rfl
  case hbody =>
    intro l hl d' u' gd' g L'
    obtain ⟨a_disk, a_entry, rfl⟩ := len2 hl
    exact (S_cons (X_assign (E_bin (E_ints (L_cons (E_attrN 74 (E_loc rfl rfl) (kfacts _).at_74_user) L_nil)) (E_attrN 74 (E_loc rfl rfl) (kfacts _).at_74_raw)) rfl) (fun v_found_3 => (S_cons (X_assign (E_bin (E_loc rfl rfl) (E_ints (L_cons (E_bin (E_attrN 74 (E_loc rfl rfl) (kfacts _).at_74_extent) (E_globN (N_glob (globEnv rfl) (kfacts _).gi_EXTENTS_LOW rfl) ⟨_, rfl⟩)) (L_cons (E_attrN 74 (E_loc rfl rfl) (kfacts _).at_74_spare) (L_cons (E_bin (E_attrN 74 (E_loc rfl rfl) (kfacts _).at_74_extent) (E_globN (N_glob (globEnv rfl) (kfacts _).gi_EXTENTS_LOW rfl) ⟨_, rfl⟩)) (L_cons (E_attrN 74 (E_loc rfl rfl) (kfacts _).at_74_count) L_nil)))))) rfl) (fun v_found_4 => (S_ret (E_bin (E_loc rfl rfl) (E_call (N_glob (globEnv rfl) (kfacts _).gf_map_octets rfl) (kfacts _).kp_map_octets (L_cons (E_loc rfl rfl) (L_cons (E_attrN 74 (E_loc rfl rfl) (kfacts _).at_74_map) L_nil)) (F174 (lv := lv)))))))))
noncomputable def P127 : AV → AV → AM (Option AV) := fun a_disk a_octets => (do let x ← (do let a ← (do let o ← (pure a_octets); let k ← (pure (.int 0)); getI o k); let b ← (pure (.int 229)); let x ← acmp .Eq a b; abool x); let r ← (if x then (do let a ← (pure .none); pure (some a)) else (pure none)); after r (do let v_found_5 ← (do let l ← (do let a ← (do let o ← (pure a_octets); let k ← (pure (.int 0)); getI o k); let l ← (do let a ← (do let o ← (pure a_octets); let a ← (pure (.int 1)); let b ← (do let a ← (pure (.int 1)); let b ← (pure (.int 11)); abin .Add a b); getS o a b); let l ← (do let a ← (do let a ← (do let a ← (do let o ← (pure a_octets); let k ← (pure (.int 14)); getI o k); let b ← (pure (.int 32)); abin .Mult a b); let b ← (do let a ← (do let o ← (pure a_octets); let k ← (pure (.int 12)); getI o k); let b ← (pure (.int 32)); abin .Mod a b); abin .Add a b); let l ← (pure []); pure (a :: l)); pure (a :: l)); pure (a :: l)); (aNew 74 4 (args4 P71)) l); (do let _ ← (do let a ← (do let o ← (pure a_octets); let k ← (pure (.int 13)); getI o k); let r ← (pure v_found_5); setF 74 "spare" r a); (do let _ ← (do let a ← (do let o ← (pure a_octets); let k ← (pure (.int 15)); getI o k); let r ← (pure v_found_5); setF 74 "count" r a); (do let _ ← (do let a ← (do let l ← (do let a ← (pure a_disk); let l ← (do let a ← (pure a_octets); let l ← (pure []); pure (a :: l)); pure (a :: l)); M167 l); let r ← (pure v_found_5); setF 74 "map" r a); (do let a ← (pure v_found_5); pure (some a)))))))
noncomputable def M127 : List AV → AM AV := fun l => do let o ← theArgs 2 (args2 P127) l; pure (outOf o)
theorem F127 {c : Cx} {lv : Nat} {ρ : Rho} : SimF c (lv + 4) ρ (.ref 127) M127 := by
  have kf9 : (hd.heap_39 c.w.params).In default → PySem.Challenge.rw_nz0564_01.row.prog = PG → True := by (k_fill; intros; trivial)
  clear kf9
  refine' F_def (lv := lv + 3) (names := ["disk", "octets"]) ?ho ?hcd ?hb ?hloc ?hco ?hgen ?hk ?hcell ?hbody
  case ho => dsimp only [Cx.K]; k_dflt k_is
  case hcd => dsimp only [Cx.K]; k_dflt k_is
  case hb => intro s vs X hl; obtain ⟨v0, v1, rfl⟩ := len2 hl; exact BindsTo.of_eq rfl
  case hloc => exact rfl
  case hco => exact rfl
  case hgen => exact rfl
  case hk => exact rfl
  case hcell => exact rfl
  case hbody =>
    intro l hl d' u' gd' g L'
    obtain ⟨a_disk, a_octets, rfl⟩ := len2 hl
    exact (S_if (B_cmp (E_sub (E_loc rfl rfl) E_int) (E_globN (N_glob (globEnv rfl) (kfacts _).gi_FREE rfl) ⟨_, rfl⟩) rfl) (S_ret E_none) S_nil (S_cons (X_assign (E_call (N_glob (globEnv rfl) (kfacts _).gf_Entry rfl) (kfacts _).kp_Entry (L_cons (E_sub (E_loc rfl rfl) E_int) (L_cons (E_slice (E_loc rfl rfl) (P_some E_int) (P_some (E_bin E_int (E_globN (N_glob (globEnv rfl) (kfacts _).gi_NAME_SIZE rfl) ⟨_, rfl⟩)))) (L_cons (E_bin (E_bin (E_sub (E_loc rfl rfl) E_int) (E_globN (N_glob (globEnv rfl) (kfacts _).gi_EXTENTS_LOW rfl) ⟨_, rfl⟩)) (E_bin (E_sub (E_loc rfl rfl) E_int) (E_globN (N_glob (globEnv rfl) (kfacts _).gi_EXTENTS_LOW rfl) ⟨_, rfl⟩))) L_nil))) (F74 (lv := lv + 1))) rfl) (fun v_found_5 => (S_cons (X_attr 74 (E_sub (E_loc rfl rfl) E_int) (E_loc rfl rfl) (kfacts _).st_74_spare) (fun _ => (S_cons (X_attr 74 (E_sub (E_loc rfl rfl) E_int) (E_loc rfl rfl) (kfacts _).st_74_count) (fun _ => (S_cons (X_attr 74 (E_call (N_glob (globEnv rfl) (kfacts _).gf_map_of rfl) (kfacts _).kp_map_of (L_cons (E_loc rfl rfl) (L_cons (E_loc rfl rfl) L_nil)) (F167 (lv := lv))) (E_loc rfl rfl) (kfacts _).st_74_map) (fun _ => (S_ret (E_loc rfl rfl)))))))))))
end Mine
end

/-! ## D2 -/
section
open PySem PySem.W PySem.Calls PyProof.Rows
namespace Mine
noncomputable def P134 : AV → AV → AM (Option AV) := fun a_disk a_number => (do let x ← (do let b ← (do let a ← (pure (.int 0)); let b ← (pure a_number); let x ← acmp .LtE a b; let t ← abool x; if t then (do let d ← (do let o ← (pure a_disk); getF 53 "entries" o); let y ← acmp .Lt b d; abool y) else pure false); pure (!b)); let r ← (if x then (do let _ ← ((fun H => .err "range" H) : AM Unit); (pure none)) else (pure none)); after r (do let a ← (do let o ← (do let o ← (pure a_disk); getF 53 "data" o); let a ← (do let a ← (pure a_number); let b ← (pure (.int 32)); abin .Mult a b); let b ← (do let a ← (do let a ← (pure a_number); let b ← (pure (.int 1)); abin .Add a b); let b ← (pure (.int 32)); abin .Mult a b); getS o a b); pure (some a)))
noncomputable def M134 : List AV → AM AV := fun l => do let o ← theArgs 2 (args2 P134) l; pure (outOf o)
theorem F134 {c : Cx} {lv : Nat} {ρ : Rho} : SimF c (lv + 2) ρ (.ref 134) M134 := by
  have kf9 : (hd.heap_39 c.w.params).In default → PySem.Challenge.rw_nz0564_01.row.prog = PG → True := by (k_fill; intros; trivial)
  clear kf9
  refine' F_def (lv := lv + 1) (names := ["disk", "number"]) ?ho ?hcd ?hb ?hloc ?hco ?hgen ?hk ?hcell ?hbody
  case ho => dsimp only [Cx.K]; k_dflt k_is
  case hcd => dsimp only [Cx.K]; k_dflt k_is
  case hb => intro s vs X hl; obtain ⟨v0, v1, rfl⟩ := len2 hl; exact BindsTo.of_eq rfl
  case hloc => exact rfl
  case hco => exact rfl
  case hgen => exact rfl
  case hk => exact rfl
  case hcell => exact rfl
  case hbody =>
    intro l hl d' u' gd' g L'
    obtain ⟨a_disk, a_number, rfl⟩ := len2 hl
    exact (S_if (B_not (B_chain E_int (E_loc rfl rfl) (E_attrN 53 (E_loc rfl rfl) (kfacts _).at_53_entries))) (S_cons (X_raise (errCls _) initOk (kfacts _).gf_DiskError (kfacts _).kp_DiskError rfl) (fun _ => S_nil)) S_nil (S_ret (E_slice (E_attrN 53 (E_loc rfl rfl) (kfacts _).at_53_data) (P_some (E_bin (E_loc rfl rfl) (E_globN (N_glob (globEnv rfl) (kfacts _).gi_ENTRY_SIZE rfl) ⟨_, rfl⟩))) (P_some (E_bin (E_bin (E_loc rfl rfl) E_int) (E_globN (N_glob (globEnv rfl) (kfacts _).gi_ENTRY_SIZE rfl) ⟨_, rfl⟩))))))
noncomputable def P141 : AV → AV → AM (Option AV) := fun a_disk a_number => (do let a ← (do let l ← (do let a ← (pure a_disk); let l ← (do let a ← (do let l ← (do let a ← (pure a_disk); let l ← (do let a ← (pure a_number); let l ← (pure []); pure (a :: l)); pure (a :: l)); M134 l); let l ← (pure []); pure (a :: l)); pure (a :: l)); M127 l); pure (some a))
noncomputable def M141 : List AV → AM AV := fun l => do let o ← theArgs 2 (args2 P141) l; pure (outOf o)
theorem F141 {c : Cx} {lv : Nat} {ρ : Rho} : SimF c (lv + 5) ρ (.ref 141) M141 := by
  have kf9 : (hd.heap_39 c.w.params).In default → PySem.Challenge.rw_nz0564_01.row.prog = PG → True := by (k_fill; intros; trivial)
  clear kf9
  refine' F_def (lv := lv + 4) (names := ["disk", "number"]) ?ho ?hcd ?hb ?hloc ?hco ?hgen ?hk ?hcell ?hbody
  case ho => dsimp only [Cx.K]; k_dflt k_is
  case hcd => dsimp only [Cx.K]; k_dflt k_is
  case hb => intro s vs X hl; obtain ⟨v0, v1, rfl⟩ := len2 hl; exact BindsTo.of_eq rfl
  case hloc => exact rfl
  case hco => exact rfl
  case hgen => exact rfl
  case hk => exact rfl
  case hcell => exact rfl
  case hbody =>
    intro l hl d' u' gd' g L'
    obtain ⟨a_disk, a_number, rfl⟩ := len2 hl
    exact (S_ret (E_call (N_glob (globEnv rfl) (kfacts _).gf_entry_from rfl) (kfacts _).kp_entry_from (L_cons (E_loc rfl rfl) (L_cons (E_call (N_glob (globEnv rfl) (kfacts _).gf_raw_entry rfl) (kfacts _).kp_raw_entry (L_cons (E_loc rfl rfl) (L_cons (E_loc rfl rfl) L_nil)) (F134 (lv := lv + 2))) L_nil)) (F127 (lv := lv))))
noncomputable def P155 : AV → AV → AV → AM (Option AV) := fun a_disk a_number a_octets => (do let _ ← (do let l ← (do let a ← (pure a_disk); let l ← (pure []); pure (a :: l)); M106 l); (do let _ ← (do let l ← (do let a ← (pure a_disk); let l ← (do let a ← (pure a_number); let l ← (pure []); pure (a :: l)); pure (a :: l)); M134 l); (do let _ ← (do let o ← noErr (pure a_octets); forEnum (fun (_ : Unit) i k => (do let a ← (pure (.int k)); let r ← (do let o ← (pure a_disk); getF 53 "data" o); let k ← (do let a ← (do let a ← (pure a_number); let b ← (pure (.int 32)); abin .Mult a b); let b ← (pure (.int i)); abin .Add a b); setI r k a)) () o); (pure none))))
noncomputable def M155 : List AV → AM AV := fun l => do let o ← theArgs 3 (args3 P155) l; pure (outOf o)
theorem F155 {c : Cx} {lv : Nat} {ρ : Rho} : SimF c (lv + 3) ρ (.ref 155) M155 := by
  have kf9 : (hd.heap_39 c.w.params).In default → PySem.Challenge.rw_nz0564_01.row.prog = PG → True := by (k_fill; intros; trivial)
  clear kf9
  refine' F_def (lv := lv + 2) (names := ["disk", "number", "octets"]) ?ho ?hcd ?hb ?hloc ?hco ?hgen ?hk ?hcell ?hbody
  case ho => dsimp only [Cx.K]; k_dflt k_is
  case hcd => dsimp only [Cx.K]; k_dflt k_is
  case hb => intro s vs X hl; obtain ⟨v0, v1, v2, rfl⟩ := len3 hl; exact BindsTo.of_eq rfl
  case hloc => exact rfl
  case hco => exact rfl
  case hgen => exact rfl
  case hk => exact rfl
  case hcell => exact rfl
  case hbody =>
    intro l hl d' u' gd' g L'
    obtain ⟨a_disk, a_number, a_octets, rfl⟩ := len3 hl
    exact (S_cons (X_expr (E_call (N_glob (globEnv rfl) (kfacts _).gf_need_writable rfl) (kfacts _).kp_need_writable (L_cons (E_loc rfl rfl) L_nil) (F106 (lv := lv)))) (fun _ => (S_cons (X_expr (E_call (N_glob (globEnv rfl) (kfacts _).gf_raw_entry rfl) (kfacts _).kp_raw_entry (L_cons (E_loc rfl rfl) (L_cons (E_loc rfl rfl) L_nil)) (F134 (lv := lv)))) (fun _ => (S_cons (X_enum (σ := Unit) (ρσ := fun _ => _) () (N_boot (globEnv rfl) (kfacts _).gb_enumerate bb_enumerate rfl) (E_loc rfl rfl) rfl rfl (fun own frz _ i k => T_one (X_weak (X_item (E_loc rfl rfl) (E_attrN 53 (E_loc rfl rfl) (kfacts _).at_53_data) (E_bin (E_bin (E_loc rfl rfl) (E_globN (N_glob (globEnv rfl) (kfacts _).gi_ENTRY_SIZE rfl) ⟨_, rfl⟩)) (E_loc rfl rfl))) (fun _ y a e => rset_weak rfl y a (rset_weak rfl y a e)))) (fun _ _ e => e)) (fun _ => (S_nil (fun _ _ e => by cases e))))))))
noncomputable def P148 : AV → AV → AV → AM (Option AV) := fun a_disk a_number a_entry => (do let _ ← (do let l ← (do let a ← (pure a_disk); let l ← (do let a ← (pure a_number); let l ← (do let a ← (do let l ← (do let a ← (pure a_disk); let l ← (do let a ← (pure a_entry); let l ← (pure []); pure (a :: l)); pure (a :: l)); M120 l); let l ← (pure []); pure (a :: l)); pure (a :: l)); pure (a :: l)); M155 l); (pure none))
noncomputable def M148 : List AV → AM AV := fun l => do let o ← theArgs 3 (args3 P148) l; pure (outOf o)
theorem F148 {c : Cx} {lv : Nat} {ρ : Rho} : SimF c (lv + 5) ρ (.ref 148) M148 := by
  have kf9 : (hd.heap_39 c.w.params).In default → PySem.Challenge.rw_nz0564_01.row.prog = PG → True := by (k_fill; intros; trivial)
  clear kf9
  refine' F_def (lv := lv + 4) (names := ["disk", "number", "entry"]) ?ho ?hcd ?hb ?hloc ?hco ?hgen ?hk ?hcell ?hbody
  case ho => dsimp only [Cx.K]; k_dflt k_is
  case hcd => dsimp only [Cx.K]; k_dflt k_is
  case hb => intro s vs X hl; obtain ⟨v0, v1, v2, rfl⟩ := len3 hl; exact BindsTo.of_eq rfl
  case hloc => exact rfl
  case hco => exact rfl
  case hgen => exact rfl
  case hk => exact rfl
  case hcell => exact rfl
  case hbody =>
    intro l hl d' u' gd' g L'
    obtain ⟨a_disk, a_number, a_entry, rfl⟩ := len3 hl
    exact (S_cons (X_expr (E_call (N_glob (globEnv rfl) (kfacts _).gf_put_entry rfl) (kfacts _).kp_put_entry (L_cons (E_loc rfl rfl) (L_cons (E_loc rfl rfl) (L_cons (E_call (N_glob (globEnv rfl) (kfacts _).gf_entry_octets rfl) (kfacts _).kp_entry_octets (L_cons (E_loc rfl rfl) (L_cons (E_loc rfl rfl) L_nil)) (F120 (lv := lv))) L_nil))) (F155 (lv := lv + 1)))) (fun _ => (S_nil (fun _ _ e => by cases e))))
noncomputable def P162 : AV → AV → AM (Option AV) := fun a_disk a_number => (do let _ ← (do let l ← (do let a ← (pure a_disk); let l ← (pure []); pure (a :: l)); M106 l); (do let _ ← (do let l ← (do let a ← (pure a_disk); let l ← (do let a ← (pure a_number); let l ← (pure []); pure (a :: l)); pure (a :: l)); M134 l); (do let _ ← (do let a ← (pure (.int 229)); let r ← (do let o ← (pure a_disk); getF 53 "data" o); let k ← (do let a ← (pure a_number); let b ← (pure (.int 32)); abin .Mult a b); setI r k a); (pure none))))
noncomputable def M162 : List AV → AM AV := fun l => do let o ← theArgs 2 (args2 P162) l; pure (outOf o)
theorem F162 {c : Cx} {lv : Nat} {ρ : Rho} : SimF c (lv + 3) ρ (.ref 162) M162 := by
  have kf9 : (hd.heap_39 c.w.params).In default → PySem.Challenge.rw_nz0564_01.row.prog = PG → True := by (k_fill; intros; trivial)
  clear kf9
  refine' F_def (lv := lv + 2) (names := ["disk", "number"]) ?ho ?hcd ?hb ?hloc ?hco ?hgen ?hk ?hcell ?hbody
  case ho => dsimp only [Cx.K]; k_dflt k_is
  case hcd => dsimp only [Cx.K]; k_dflt k_is
  case hb => intro s vs X hl; obtain ⟨v0, v1, rfl⟩ := len2 hl; exact BindsTo.of_eq rfl
  case hloc => exact rfl
  case hco => exact rfl
  case hgen => exact rfl
  case hk => exact rfl
  case hcell => exact rfl
  case hbody =>
    intro l hl d' u' gd' g L'
    obtain ⟨a_disk, a_number, rfl⟩ := len2 hl
    exact (S_cons (X_expr (E_call (N_glob (globEnv rfl) (kfacts _).gf_need_writable rfl) (kfacts _).kp_need_writable (L_cons (E_loc rfl rfl) L_nil) (F106 (lv := lv)))) (fun _ => (S_cons (X_expr (E_call (N_glob (globEnv rfl) (kfacts _).gf_raw_entry rfl) (kfacts _).kp_raw_entry (L_cons (E_loc rfl rfl) (L_cons (E_loc rfl rfl) L_nil)) (F134 (lv := lv)))) (fun _ => (S_cons (X_item (E_globN (N_glob (globEnv rfl) (kfacts _).gi_FREE rfl) ⟨_, rfl⟩) (E_attrN 53 (E_loc rfl rfl) (kfacts _).at_53_data) (E_bin (E_loc rfl rfl) (E_globN (N_glob (globEnv rfl) (kfacts _).gi_ENTRY_SIZE rfl) ⟨_, rfl⟩))) (fun _ => (S_nil (fun _ _ e => by cases e))))))))
noncomputable def P181 : AV → AV → AV → AM (Option AV) := fun a_disk a_block a_index => (do let x ← (do let b ← (do let b ← (do let a ← (pure (.int 0)); let b ← (pure a_block); let x ← acmp .LtE a b; let t ← abool x; if t then (do let d ← (do let o ← (pure a_disk); getF 53 "blocks" o); let y ← acmp .Lt b d; abool y) else pure false); pure (!b)); if b then pure true else (do let b ← (do let a ← (pure (.int 0)); let b ← (pure a_index); let x ← acmp .LtE a b; let t ← abool x; if t then (do let d ← (do let l ← (do let a ← (pure a_disk); let l ← (pure []); pure (a :: l)); M92 l); let y ← acmp .Lt b d; abool y) else pure false); pure (!b))); let r ← (if x then (do let _ ← ((fun H => .err "range" H) : AM Unit); (pure none)) else (pure none)); after r (do let a ← (do let a ← (do let a ← (pure a_block); let b ← (do let o ← (pure a_disk); getF 53 "block" o); abin .Mult a b); let b ← (do let a ← (pure a_index); let b ← (do let o ← (pure a_disk); getF 53 "record" o); abin .Mult a b); abin .Add a b); pure (some a)))
noncomputable def M181 : List AV → AM AV := fun l => do let o ← theArgs 3 (args3 P181) l; pure (outOf o)
theorem F181 {c : Cx} {lv : Nat} {ρ : Rho} : SimF c (lv + 3) ρ (.ref 181) M181 := by
  have kf9 : (hd.heap_39 c.w.params).In default → PySem.Challenge.rw_nz0564_01.row.prog = PG → True := by (k_fill; intros; trivial)
  clear kf9
  refine' F_def (lv := lv + 2) (names := ["disk", "block", "index"]) ?ho ?hcd ?hb ?hloc ?hco ?hgen ?hk ?hcell ?hbody
  case ho => dsimp only [Cx.K]; k_dflt k_is
  case hcd => dsimp only [Cx.K]; k_dflt k_is
  case hb => intro s vs X hl; obtain ⟨v0, v1, v2, rfl⟩ := len3 hl; exact BindsTo.of_eq rfl
  case hloc => exact rfl
  case hco => exact rfl
  case hgen => exact rfl
  case hk => exact rfl
  case hcell => exact rfl
  case hbody =>
    intro l hl d' u' gd' g L'
    obtain ⟨a_disk, a_block, a_index, rfl⟩ := len3 hl
    exact (S_if (B_or (B_not (B_chain E_int (E_loc rfl rfl) (E_attrN 53 (E_loc rfl rfl) (kfacts _).at_53_blocks))) (B_not (B_chain E_int (E_loc rfl rfl) (E_call (N_glob (globEnv rfl) (kfacts _).gf_records_of_block rfl) (kfacts _).kp_records_of_block (L_cons (E_loc rfl rfl) L_nil) (F92 (lv := lv)))))) (S_cons (X_raise (errCls _) initOk (kfacts _).gf_DiskError (kfacts _).kp_DiskError rfl) (fun _ => S_nil)) S_nil (S_ret (E_bin (E_bin (E_loc rfl rfl) (E_attrN 53 (E_loc rfl rfl) (kfacts _).at_53_block)) (E_bin (E_loc rfl rfl) (E_attrN 53 (E_loc rfl rfl) (kfacts _).at_53_record)))))
noncomputable def P188 : AV → AV → AV → AM (Option AV) := fun a_disk a_block a_index => (do let v_begin_1 ← (do let l ← (do let a ← (pure a_disk); let l ← (do let a ← (pure a_block); let l ← (do let a ← (pure a_index); let l ← (pure []); pure (a :: l)); pure (a :: l)); pure (a :: l)); M181 l); (do let a ← (do let o ← (do let o ← (pure a_disk); getF 53 "data" o); let a ← (pure v_begin_1); let b ← (do let a ← (pure v_begin_1); let b ← (do let o ← (pure a_disk); getF 53 "record" o); abin .Add a b); getS o a b); pure (some a)))
noncomputable def M188 : List AV → AM AV := fun l => do let o ← theArgs 3 (args3 P188) l; pure (outOf o)
theorem F188 {c : Cx} {lv : Nat} {ρ : Rho} : SimF c (lv + 4) ρ (.ref 188) M188 := by
  have kf9 : (hd.heap_39 c.w.params).In default → PySem.Challenge.rw_nz0564_01.row.prog = PG → True := by (k_fill; intros; trivial)
  clear kf9
  refine' F_def (lv := lv + 3) (names := ["disk", "block", "index"]) ?ho ?hcd ?hb ?hloc ?hco ?hgen ?hk ?hcell ?hbody
  case ho => dsimp only [Cx.K]; k_dflt k_is
  case hcd => dsimp only [Cx.K]; k_dflt k_is
  case hb => intro s vs X hl; obtain ⟨v0, v1, v2, rfl⟩ := len3 hl; exact BindsTo.of_eq rfl
  case hloc => exact rfl
  case hco => exact rfl
  case hgen => exact rfl
  case hk => exact rfl
  case hcell => exact rfl
  case hbody =>
    intro l hl d' u' gd' g L'
    obtain ⟨a_disk, a_block, a_index, rfl⟩ := len3 hl
    exact (S_cons (X_assign (E_call (N_glob (globEnv rfl) (kfacts _).gf_record_place rfl) (kfacts _).kp_record_place (L_cons (E_loc rfl rfl) (L_cons (E_loc rfl rfl) (L_cons (E_loc rfl rfl) L_nil))) (F181 (lv := lv))) rfl) (fun v_begin_1 => (S_ret (E_slice (E_attrN 53 (E_loc rfl rfl) (kfacts _).at_53_data) (P_some (E_loc rfl rfl)) (P_some (E_bin (E_loc rfl rfl) (E_attrN 53 (E_loc rfl rfl) (kfacts _).at_53_record)))))))
noncomputable def P195 : AV → AV → AV → AV → AM (Option AV) := fun a_disk a_block a_index a_octets => (do let _ ← (do let l ← (do let a ← (pure a_disk); let l ← (pure []); pure (a :: l)); M106 l); (do let v_begin_2 ← (do let l ← (do let a ← (pure a_disk); let l ← (do let a ← (pure a_block); let l ← (do let a ← (pure a_index); let l ← (pure []); pure (a :: l)); pure (a :: l)); pure (a :: l)); M181 l); (do let x ← (do let a ← (do let l ← (do let a ← (pure a_octets); let l ← (pure []); pure (a :: l)); aLen l); let b ← (do let o ← (pure a_disk); getF 53 "record" o); let x ← acmp .NotEq a b; abool x); let r ← (if x then (do let _ ← ((fun H => .err "range" H) : AM Unit); (pure none)) else (pure none)); after r (do let _ ← (do let o ← noErr (pure a_octets); forEnum (fun (_ : Unit) i k => (do let a ← (pure (.int k)); let r ← (do let o ← (pure a_disk); getF 53 "data" o); let k ← (do let a ← (pure v_begin_2); let b ← (pure (.int i)); abin .Add a b); setI r k a)) () o); (pure none)))))
noncomputable def M195 : List AV → AM AV := fun l => do let o ← theArgs 4 (args4 P195) l; pure (outOf o)
theorem F195 {c : Cx} {lv : Nat} {ρ : Rho} : SimF c (lv + 4) ρ (.ref 195) M195 := by
  have kf9 : (hd.heap_39 c.w.params).In default → PySem.Challenge.rw_nz0564_01.row.prog = PG → True := by (k_fill; intros; trivial)
  clear kf9
  refine' F_def (lv := lv + 3) (names := ["disk", "block", "index", "octets"]) ?ho ?hcd ?hb ?hloc ?hco ?hgen ?hk ?hcell ?hbody
  case ho => dsimp only [Cx.K]; k_dflt k_is
  case hcd => dsimp only [Cx.K]; k_dflt k_is
  case hb => intro s vs X hl; obtain ⟨v0, v1, v2, v3, rfl⟩ := len4 hl; exact BindsTo.of_eq rfl
  case hloc => exact rfl
  case hco => exact rfl
  case hgen => exact rfl
  case hk => exact rfl
  case hcell => exact rfl
  case hbody =>
    intro l hl d' u' gd' g L'
    obtain ⟨a_disk, a_block, a_index, a_octets, rfl⟩ := len4 hl
    exact (S_cons (X_expr (E_call (N_glob (globEnv rfl) (kfacts _).gf_need_writable rfl) (kfacts _).kp_need_writable (L_cons (E_loc rfl rfl) L_nil) (F106 (lv := lv + 1)))) (fun _ => (S_cons (X_assign (E_call (N_glob (globEnv rfl) (kfacts _).gf_record_place rfl) (kfacts _).kp_record_place (L_cons (E_loc rfl rfl) (L_cons (E_loc rfl rfl) (L_cons (E_loc rfl rfl) L_nil))) (F181 (lv := lv))) rfl) (fun v_begin_2 => (S_if (B_cmp (E_callB (N_boot (globEnv rfl) (kfacts _).gb_len bb_len rfl) (L_cons (E_loc rfl rfl) L_nil) len_W) (E_attrN 53 (E_loc rfl rfl) (kfacts _).at_53_record) rfl) (S_cons (X_raise (errCls _) initOk (kfacts _).gf_DiskError (kfacts _).kp_DiskError rfl) (fun _ => S_nil)) S_nil (S_cons (X_enum (σ := Unit) (ρσ := fun _ => _) () (N_boot (globEnv rfl) (kfacts _).gb_enumerate bb_enumerate rfl) (E_loc rfl rfl) rfl rfl (fun own frz _ i k => T_one (X_weak (X_item (E_loc rfl rfl) (E_attrN 53 (E_loc rfl rfl) (kfacts _).at_53_data) (E_bin (E_loc rfl rfl) (E_loc rfl rfl))) (fun _ y a e => rset_weak rfl y a (rset_weak rfl y a e)))) (fun _ _ e => e)) (fun _ => (S_nil (fun _ _ e => by cases e)))))))))
end Mine
end

/-! ## D3 -/
section
open PySem PySem.W PySem.Calls PyProof.Rows
namespace Mine
noncomputable def P202 : AV → AV → AM (Option AV) := fun a_box a_many => (do let x ← (do let a ← (do let l ← (do let a ← (do let o ← (pure a_box); let k ← (pure (.int 0)); getI o k); let l ← (pure []); pure (a :: l)); aLen l); let b ← (pure (.int 0)); let x ← acmp .Gt a b; abool x); let r ← (if x then (do let a ← (do let a ← (do let o ← (do let o ← (pure a_box); let k ← (pure (.int 0)); getI o k); isList o; let l ← (do let a ← (pure (.int 0)); let l ← (pure []); pure (a :: l)); aPop o l); let b ← (pure a_many); abin .Mod a b); pure (some a)) else (pure none)); after r (do let _ ← (do let a ← (do let a ← (do let a ← (do let a ← (do let o ← (pure a_box); let k ← (pure (.int 1)); getI o k); let b ← (pure (.int 4099)); abin .Mult a b); let b ← (pure (.int 12301)); abin .Add a b); let b ← (pure (.int 1000003)); abin .Mod a b); let r ← (pure a_box); let k ← (pure (.int 1)); setI r k a); (do let a ← (do let a ← (do let a ← (do let o ← (pure a_box); let k ← (pure (.int 1)); getI o k); let b ← (pure (.int 16)); abin .FloorDiv a b); let b ← (pure a_many); abin .Mod a b); pure (some a))))
noncomputable def M202 : List AV → AM AV := fun l => do let o ← theArgs 2 (args2 P202) l; pure (outOf o)
theorem F202 {c : Cx} {lv : Nat} {ρ : Rho} : SimF c (lv + 2) ρ (.ref 202) M202 := by
  have kf9 : (hd.heap_39 c.w.params).In default → PySem.Challenge.rw_nz0564_01.row.prog = PG → True := by (k_fill; intros; trivial)
  clear kf9
  refine' F_def (lv := lv + 1) (names := ["box", "many"]) ?ho ?hcd ?hb ?hloc ?hco ?hgen ?hk ?hcell ?hbody
  case ho => dsimp only [Cx.K]; k_dflt k_is
  case hcd => dsimp only [Cx.K]; k_dflt k_is
  case hb => intro s vs X hl; obtain ⟨v0, v1, rfl⟩ := len2 hl; exact BindsTo.of_eq rfl
  case hloc => exact rfl
  case hco => exact rfl
  case hgen => exact rfl
  case hk => exact rfl
  case hcell => exact rfl
  case hbody =>
    intro l hl d' u' gd' g L'
    obtain ⟨a_box, a_many, rfl⟩ := len2 hl
    exact (S_if (B_cmp (E_callB (N_boot (globEnv rfl) (kfacts _).gb_len bb_len rfl) (L_cons (E_sub (E_loc rfl rfl) E_int) L_nil) len_W) E_int rfl) (S_ret (E_bin (E_meth PySem.F.slot_list_pop PySem.F.type_list_pop (E_sub (E_loc rfl rfl) E_int) (L_cons E_int L_nil) pop_W rfl) (E_loc rfl rfl))) S_nil (S_cons (X_item (E_bin (E_bin (E_bin (E_sub (E_loc rfl rfl) E_int) E_int) E_int) E_int) (E_loc rfl rfl) E_int) (fun _ => (S_ret (E_bin (E_bin (E_sub (E_loc rfl rfl) E_int) E_int) (E_loc rfl rfl))))))
noncomputable def P207 : AV → AM (Option AV) := fun a_script => (do let v_box_1 ← (do let l ← (do let a ← (do let o ← (do let o ← (pure a_script); let a ← (pure .none); let b ← (pure (.int 40)); getS o a b); compL (fun k => (do let l ← (do let a ← (pure (.int k)); let l ← (pure []); pure (a :: l)); aAbs l)) o); let l ← (do let a ← (pure (.int 19)); let l ← (pure []); pure (a :: l)); pure (a :: l)); newMix l); (do let _ ← (do let o ← noErr (do let o ← (pure a_script); let a ← (pure .none); let b ← (pure (.int 40)); getS o a b); forInts (fun (_ : Unit) k => (do let _ ← (do let a ← (do let a ← (do let a ← (do let a ← (do let o ← (pure v_box_1); let k ← (pure (.int 1)); getI o k); let b ← (pure (.int 37)); abin .Mult a b); let b ← (do let l ← (do let a ← (pure (.int k)); let l ← (pure []); pure (a :: l)); aAbs l); abin .Add a b); let b ← (pure (.int 1000003)); abin .Mod a b); let r ← (pure v_box_1); let k ← (pure (.int 1)); setI r k a); pure ())) () o); (do let a ← (pure v_box_1); pure (some a))))
noncomputable def M207 : List AV → AM AV := fun l => do let o ← theArgs 1 (args1 P207) l; pure (outOf o)
theorem F207 {c : Cx} {lv : Nat} {ρ : Rho} : SimF c (lv + 2) ρ (.ref 207) M207 := by
  have kf9 : (hd.heap_39 c.w.params).In default → PySem.Challenge.rw_nz0564_01.row.prog = PG → True := by (k_fill; intros; trivial)
  clear kf9
  refine' F_def (lv := lv + 1) (names := ["script"]) ?ho ?hcd ?hb ?hloc ?hco ?hgen ?hk ?hcell ?hbody
  case ho => dsimp only [Cx.K]; k_dflt k_is
  case hcd => dsimp only [Cx.K]; k_dflt k_is
  case hb => intro s vs X hl; obtain ⟨v0, rfl⟩ := len1 hl; exact BindsTo.of_eq rfl
  case hloc => exact rfl
  case hco => exact rfl
  case hgen => exact rfl
  case hk => exact rfl
  case hcell => exact rfl
  case hbody =>
    intro l hl d' u' gd' g L'
    obtain ⟨a_script, rfl⟩ := len1 hl
    exact (S_cons (X_assign (E_list (L_cons (E_compL (E_slice (E_loc rfl rfl) P_none (P_some E_int)) ⟨rfl, rfl, rfl, rfl, rfl⟩ (fun own frz C oC m₂ t k hm hn hv => (E_callB (N_boot ⟨rfl, rfl, rfl⟩ (kfacts _).gb_abs bb_abs rfl) (L_cons (E_cvar hm hn hv rfl rfl) L_nil) abs_W))) (L_cons E_int L_nil))) rfl) (fun v_box_1 => (S_cons (X_for (σ := Unit) (ρσ := fun _ => _) () (E_slice (E_loc rfl rfl) P_none (P_some E_int)) rfl (fun own frz _ k => T_one (X_weak (X_unit (X_item (E_bin (E_bin (E_bin (E_sub (E_loc rfl rfl) E_int) E_int) (E_callB (N_boot (globEnv rfl) (kfacts _).gb_abs bb_abs rfl) (L_cons (E_loc rfl rfl) L_nil) abs_W)) E_int) (E_loc rfl rfl) E_int)) (fun _ y a e => rset_weak rfl y a e))) (fun _ _ e => e)) (fun _ => (S_ret (E_loc rfl rfl))))))
noncomputable def P219 : AV → AM (Option AV) := fun a_entry => (do let a ← (do let l ← (do let a ← (do let o ← (pure a_entry); getF 74 "user" o); let l ← (do let a ← (do let l ← (do let a ← (do let o ← (pure a_entry); getF 74 "raw" o); let l ← (pure []); pure (a :: l)); aCopy l); let l ← (do let a ← (do let o ← (pure a_entry); getF 74 "extent" o); let l ← (do let a ← (do let o ← (pure a_entry); getF 74 "spare" o); let l ← (do let a ← (do let o ← (pure a_entry); getF 74 "count" o); let l ← (do let a ← (do let l ← (do let a ← (do let o ← (pure a_entry); getF 74 "map" o); let l ← (pure []); pure (a :: l)); aCopy l); let l ← (pure []); pure (a :: l)); pure (a :: l)); pure (a :: l)); pure (a :: l)); pure (a :: l)); pure (a :: l)); newMix l); pure (some a))
noncomputable def M219 : List AV → AM AV := fun l => do let o ← theArgs 1 (args1 P219) l; pure (outOf o)
theorem F219 {c : Cx} {lv : Nat} {ρ : Rho} : SimF c (lv + 2) ρ (.ref 219) M219 := by
  have kf9 : (hd.heap_39 c.w.params).In default → PySem.Challenge.rw_nz0564_01.row.prog = PG → True := by (k_fill; intros; trivial)
  clear kf9
  refine' F_def (lv := lv + 1) (names := ["entry"]) ?ho ?hcd ?hb ?hloc ?hco ?hgen ?hk ?hcell ?hbody
  case ho => dsimp only [Cx.K]; k_dflt k_is
  case hcd => dsimp only [Cx.K]; k_dflt k_is
  case hb => intro s vs X hl; obtain ⟨v0, rfl⟩ := len1 hl; exact BindsTo.of_eq rfl
  case hloc => exact rfl
  case hco => exact rfl
  case hgen => exact rfl
  case hk => exact rfl
  case hcell => exact rfl
  case hbody =>
    intro l hl d' u' gd' g L'
    obtain ⟨a_entry, rfl⟩ := len1 hl
    exact (S_ret (E_list (L_cons (E_attrN 74 (E_loc rfl rfl) (kfacts _).at_74_user) (L_cons (E_callT (N_boot (globEnv rfl) (kfacts _).gb_list bb_list rfl) (L_cons (E_attrN 74 (E_loc rfl rfl) (kfacts _).at_74_raw) L_nil) copy_W) (L_cons (E_attrN 74 (E_loc rfl rfl) (kfacts _).at_74_extent) (L_cons (E_attrN 74 (E_loc rfl rfl) (kfacts _).at_74_spare) (L_cons (E_attrN 74 (E_loc rfl rfl) (kfacts _).at_74_count) (L_cons (E_callT (N_boot (globEnv rfl) (kfacts _).gb_list bb_list rfl) (L_cons (E_attrN 74 (E_loc rfl rfl) (kfacts _).at_74_map) L_nil) copy_W) L_nil))))))))
noncomputable def P226 : AV → AV → AM (Option AV) := fun a_disk a_entry => (do let v_found_2 ← (do let a ← (do let a ← (do let l ← (do let a ← (do let o ← (pure a_entry); getF 74 "user" o); let l ← (pure []); pure (a :: l)); newInts l); let b ← (do let l ← (do let a ← (do let o ← (pure a_entry); getF 74 "raw" o); let l ← (pure []); pure (a :: l)); aCopy l); abin .Add a b); let b ← (do let l ← (do let a ← (do let a ← (do let o ← (pure a_entry); getF 74 "extent" o); let b ← (pure (.int 32)); abin .Mod a b); let l ← (do let a ← (do let o ← (pure a_entry); getF 74 "spare" o); let l ← (do let a ← (do let a ← (do let o ← (pure a_entry); getF 74 "extent" o); let b ← (pure (.int 32)); abin .FloorDiv a b); let l ← (do let a ← (do let o ← (pure a_entry); getF 74 "count" o); let l ← (pure []); pure (a :: l)); pure (a :: l)); pure (a :: l)); pure (a :: l)); newInts l); abin .Add a b); (do let v_found_4 ← (do let o ← noErr (do let o ← (pure a_entry); getF 74 "map" o); forInts (fun a₀ k => (do let a ← (pure a₀); let b ← (do let x ← (do let a ← (do let o ← (pure a_disk); getF 53 "blocks" o); let b ← (pure (.int 256)); let x ← acmp .LtE a b; abool x); if x then (do let l ← (do let a ← (pure (.int k)); let l ← (pure []); pure (a :: l)); newInts l) else (do let l ← (do let a ← (do let a ← (pure (.int k)); let b ← (pure (.int 256)); abin .Mod a b); let l ← (do let a ← (do let a ← (pure (.int k)); let b ← (pure (.int 256)); abin .FloorDiv a b); let l ← (pure []); pure (a :: l)); pure (a :: l)); newInts l)); abin .Add a b)) v_found_2 o); (do let a ← (pure v_found_4); pure (some a))))
noncomputable def M226 : List AV → AM AV := fun l => do let o ← theArgs 2 (args2 P226) l; pure (outOf o)
theorem F226 {c : Cx} {lv : Nat} {ρ : Rho} : SimF c (lv + 2) ρ (.ref 226) M226 := by
  have kf9 : (hd.heap_39 c.w.params).In default → PySem.Challenge.rw_nz0564_01.row.prog = PG → True := by (k_fill; intros; trivial)
  clear kf9
  refine' F_def (lv := lv + 1) (names := ["disk", "entry"]) ?ho ?hcd ?hb ?hloc ?hco ?hgen ?hk ?hcell ?hbody
  case ho => dsimp only [Cx.K]; k_dflt k_is
  case hcd => dsimp only [Cx.K]; k_dflt k_is
  case hb => intro s vs X hl; obtain ⟨v0, v1, rfl⟩ := len2 hl; exact BindsTo.of_eq rfl
  case hloc => exact rfl
  case hco => exact rfl
  case hgen => exact rfl
  case hk => exact rfl
  case hcell => exact rfl
  case hbody =>
    intro l hl d' u' gd' g L'
    obtain ⟨a_disk, a_entry, rfl⟩ := len2 hl
    exact (S_cons (X_assign (E_bin (E_bin (E_ints (L_cons (E_attrN 74 (E_loc rfl rfl) (kfacts _).at_74_user) L_nil)) (E_callT (N_boot (globEnv rfl) (kfacts _).gb_list bb_list rfl) (L_cons (E_attrN 74 (E_loc rfl rfl) (kfacts _).at_74_raw) L_nil) copy_W)) (E_ints (L_cons (E_bin (E_attrN 74 (E_loc rfl rfl) (kfacts _).at_74_extent) E_int) (L_cons (E_attrN 74 (E_loc rfl rfl) (kfacts _).at_74_spare) (L_cons (E_bin (E_attrN 74 (E_loc rfl rfl) (kfacts _).at_74_extent) E_int) (L_cons (E_attrN 74 (E_loc rfl rfl) (kfacts _).at_74_count) L_nil)))))) rfl) (fun v_found_2 => (S_cons (X_for (σ := AV) (ρσ := fun a => rset (argR ["disk", "entry"] [a_disk, a_entry]) "found" a) v_found_2 (E_attrN 74 (E_loc rfl rfl) (kfacts _).at_74_map) rfl (fun own frz a₀ k => T_one (X_weak (X_assign (E_bin (E_loc rfl rfl) (E_if (B_cmp (E_attrN 53 (E_loc rfl rfl) (kfacts _).at_53_blocks) E_int rfl) (E_ints (L_cons (E_loc rfl rfl) L_nil)) (E_ints (L_cons (E_bin (E_loc rfl rfl) E_int) (L_cons (E_bin (E_loc rfl rfl) E_int) L_nil))))) rfl) (fun b z a e => rset_over rfl rfl z a e))) (fun _ _ e => e)) (fun v_found_4 => (S_ret (E_loc rfl rfl))))))
noncomputable def P212 : AV → AV → Nat → AM (Option AV) := fun a_disk a_box ck => (do let v_raw_5 ← (do let p ← (do let l ← (do let a ← (pure (.int 11)); let l ← (pure []); pure (a :: l)); rangeOf l); let p ← step1 p; let l ← compR (fun k => (do let a ← (do let a ← (pure (.int 33)); let b ← (do let l ← (do let a ← (getCell ck); let l ← (do let a ← (pure (.int 90)); let l ← (pure []); pure (a :: l)); pure (a :: l)); M202 l); abin .Add a b); let b ← (do let a ← (pure (.int 128)); let b ← (do let a ← (do let l ← (do let a ← (getCell ck); let l ← (do let a ← (pure (.int 4)); let l ← (pure []); pure (a :: l)); pure (a :: l)); M202 l); let b ← (pure (.int 3)); abin .FloorDiv a b); abin .Mult a b); abin .Add a b)) p; newL l); (do let v_found_6 ← (do let l ← (do let a ← (getCell (ck + 1)); let l ← (do let a ← (do let l ← (do let a ← (getCell ck); let l ← (do let a ← (pure (.int 16)); let l ← (pure []); pure (a :: l)); pure (a :: l)); M202 l); let l ← (do let a ← (pure v_raw_5); let l ← (do let a ← (do let a ← (pure (.int 32)); let b ← (do let l ← (do let a ← (getCell ck); let l ← (do let a ← (pure (.int 568)); let l ← (pure []); pure (a :: l)); pure (a :: l)); M202 l); abin .Add a b); let l ← (pure []); pure (a :: l)); pure (a :: l)); pure (a :: l)); pure (a :: l)); M113 l); (do let _ ← (do let l ← (do let a ← (do let l ← (do let a ← (getCell ck); let l ← (do let a ← (pure (.int 2)); let l ← (pure []); pure (a :: l)); pure (a :: l)); M202 l); let l ← (do let a ← (do let l ← (do let a ← (getCell ck); let l ← (do let a ← (pure (.int 129)); let l ← (pure []); pure (a :: l)); pure (a :: l)); M202 l); let l ← (pure []); pure (a :: l)); pure (a :: l)); let p ← pair l; (fun a => do let r ← (pure v_found_6); setF 74 "spare" r a) p.1; (fun a => do let r ← (pure v_found_6); setF 74 "count" r a) p.2); (do let _ ← (do let a ← (do let o ← (do let o ← (pure v_found_6); getF 74 "map" o); compL (fun k => (do let l ← (do let a ← (getCell ck); let l ← (do let a ← (do let o ← (getCell (ck + 1)); getF 53 "blocks" o); let l ← (pure []); pure (a :: l)); pure (a :: l)); M202 l)) o); let r ← (pure v_found_6); setF 74 "map" r a); (do let a ← (pure v_found_6); pure (some a))))))
noncomputable def M212 : List AV → AM AV := fun l => do let o ← cellBody ["disk", "box"] [("box", 1), ("disk", 0)] (argsC2 P212) l; pure (outOf o)
theorem F212 {c : Cx} {lv : Nat} {ρ : Rho} : SimF c (lv + 4) ρ (.ref 212) M212 := by
  have kf9 : (hd.heap_39 c.w.params).In default → PySem.Challenge.rw_nz0564_01.row.prog = PG → True := by (k_fill; intros; trivial)
  clear kf9
  refine' F_defC (lv := lv + 3) (names := ["disk", "box"]) (cs := [("box", 1), ("disk", 0)]) ?ho ?hcd ?hb (hkind_of (cs := [("box", 1), ("disk", 0)]) ?kd1) ?hnd ?hcs ?hcn (hbl_of ?kd2) (hbc_of ?kd3) ?hco ?hgen ?hk ?hbody
  case ho => dsimp only [Cx.K]; k_dflt k_is
  case hcd => dsimp only [Cx.K]; k_dflt k_is
  case hb => intro s vs X hl; obtain ⟨v0, v1, rfl⟩ := len2 hl; exact BindsTo.of_eq rfl
  case kd1 => exact rfl
  case kd2 => exact rfl
  case kd3 => exact rfl
  case hnd => decide
  case hcs => intro a; rfl
  case hcn => decide
  case hco => exact rfl
  case hgen => exact rfl
  case hk => exact rfl
  case hbody =>
    intro l hl d' u' gd' g L' ck
    obtain ⟨a_disk, a_box, rfl⟩ := len2 hl
    exact (S_cons (X_compR (R_range (N_boot (globEnv rfl) (kfacts _).gb_range bb_range rfl) (L_cons E_int L_nil)) ⟨rfl, rfl, rfl, rfl, rfl⟩ (fun own frz C oC m₂ t k hm hn hv => (E_bin (E_bin E_int (E_call (N_glob ⟨rfl, rfl, rfl⟩ (kfacts _).gf__law_take rfl) (kfacts _).kp__law_take (L_cons (E_free rfl rfl rfl (.inr rfl)) (L_cons E_int L_nil)) (F202 (lv := lv + 1)))) (E_bin E_int (E_bin (E_call (N_glob ⟨rfl, rfl, rfl⟩ (kfacts _).gf__law_take rfl) (kfacts _).kp__law_take (L_cons (E_free rfl rfl rfl (.inr rfl)) (L_cons E_int L_nil)) (F202 (lv := lv + 1))) E_int)))) rfl rfl) (fun v_raw_5 => (S_cons (X_assign (E_call (N_glob (globEnv rfl) (kfacts _).gf_new_entry rfl) (kfacts _).kp_new_entry (L_cons (E_cell rfl rfl (.inl rfl)) (L_cons (E_call (N_glob (globEnv rfl) (kfacts _).gf__law_take rfl) (kfacts _).kp__law_take (L_cons (E_cell rfl rfl (.inl rfl)) (L_cons E_int L_nil)) (F202 (lv := lv + 1))) (L_cons (E_loc rfl rfl) (L_cons (E_bin E_int (E_call (N_glob (globEnv rfl) (kfacts _).gf__law_take rfl) (kfacts _).kp__law_take (L_cons (E_cell rfl rfl (.inl rfl)) (L_cons E_int L_nil)) (F202 (lv := lv + 1)))) L_nil)))) (F113 (lv := lv))) rfl) (fun v_found_6 => (S_cons (X_two (L_cons (E_call (N_glob (globEnv rfl) (kfacts _).gf__law_take rfl) (kfacts _).kp__law_take (L_cons (E_cell rfl rfl (.inl rfl)) (L_cons E_int L_nil)) (F202 (lv := lv + 1))) (L_cons (E_call (N_glob (globEnv rfl) (kfacts _).gf__law_take rfl) (kfacts _).kp__law_take (L_cons (E_cell rfl rfl (.inl rfl)) (L_cons E_int L_nil)) (F202 (lv := lv + 1))) L_nil)) (A_attr 74 (E_loc rfl rfl) (kfacts _).st_74_spare) (A_attr 74 (E_loc rfl rfl) (kfacts _).st_74_count) (by rfl) (by rfl) (by rfl) (by rfl) (by rfl)) (fun _ => (S_cons (X_attr 74 (E_compL (E_attrN 74 (E_loc rfl rfl) (kfacts _).at_74_map) ⟨rfl, rfl, rfl, rfl, rfl⟩ (fun own frz C oC m₂ t k hm hn hv => (E_call (N_glob ⟨rfl, rfl, rfl⟩ (kfacts _).gf__law_take rfl) (kfacts _).kp__law_take (L_cons (E_free rfl rfl rfl (.inr rfl)) (L_cons (E_attrN 53 (E_free rfl rfl rfl (.inr rfl)) (kfacts _).at_53_blocks) L_nil)) (F202 (lv := lv + 1))))) (E_loc rfl rfl) (kfacts _).st_74_map) (fun _ => (S_ret (E_loc rfl rfl))))))))))
end Mine
end

/-! ## D4 -/
section
open PySem PySem.W PySem.Calls PyProof.Rows
namespace Mine
noncomputable def P240 : AV → AV → AM (Option AV) := fun a_disk a_box => (do let v_p_1 ← (do let l ← (do let a ← (do let l ← (do let a ← (pure a_disk); let l ← (do let a ← (pure a_box); let l ← (pure []); pure (a :: l)); pure (a :: l)); M212 l); let l ← (do let a ← (do let l ← (do let a ← (pure a_box); let l ← (do let a ← (do let o ← (pure a_disk); getF 53 "entries" o); let l ← (pure []); pure (a :: l)); pure (a :: l)); M202 l); let l ← (pure []); pure (a :: l)); pure (a :: l)); pair l); (do let v_octets_2 ← (do let l ← (do let a ← (pure a_disk); let l ← (do let a ← (pure v_p_1.1); let l ← (pure []); pure (a :: l)); pure (a :: l)); M226 l); (do let x ← (do let b ← (do let a ← (do let l ← (do let a ← (pure a_disk); let l ← (do let a ← (pure v_p_1.1); let l ← (pure []); pure (a :: l)); pure (a :: l)); M120 l); let b ← (pure v_octets_2); let x ← acmp .NotEq a b; abool x); if b then pure true else (do let a ← (do let l ← (do let a ← (do let l ← (do let a ← (pure a_disk); let l ← (do let a ← (pure v_octets_2); let l ← (pure []); pure (a :: l)); pure (a :: l)); M127 l); let l ← (pure []); pure (a :: l)); M219 l); let b ← (do let l ← (do let a ← (pure v_p_1.1); let l ← (pure []); pure (a :: l)); M219 l); let x ← acmp .NotEq a b; abool x)); let r ← (if x then (do let a ← (pure (.bool false)); pure (some a)) else (pure none)); after r (do let x ← (do let b ← (do let a ← (do let l ← (do let a ← (pure a_disk); let l ← (do let a ← (pure v_octets_2); let l ← (pure []); pure (a :: l)); pure (a :: l)); M167 l); let b ← (do let o ← (pure v_p_1.1); getF 74 "map" o); let x ← acmp .NotEq a b; abool x); if b then pure true else (do let a ← (do let l ← (do let a ← (pure a_disk); let l ← (do let a ← (do let o ← (pure v_p_1.1); getF 74 "map" o); let l ← (pure []); pure (a :: l)); pure (a :: l)); M174 l); let b ← (do let o ← (pure v_octets_2); let a ← (pure (.int 16)); let b ← (pure .none); getS o a b); let x ← acmp .NotEq a b; abool x)); let r ← (if x then (do let a ← (pure (.bool false)); pure (some a)) else (pure none)); after r (do let v_ahead_3 ← (do let l ← (do let a ← (do let o ← (pure a_disk); getF 53 "data" o); let l ← (pure []); pure (a :: l)); aCopy l); (do let _ ← (do let l ← (do let a ← (pure a_disk); let l ← (do let a ← (pure v_p_1.2); let l ← (do let a ← (pure v_p_1.1); let l ← (pure []); pure (a :: l)); pure (a :: l)); pure (a :: l)); M148 l); (do let v_due_4 ← (do let a ← (do let a ← (do let o ← (pure v_ahead_3); let a ← (pure .none); let b ← (do let a ← (pure (.int 32)); let b ← (pure v_p_1.2); abin .Mult a b); getS o a b); let b ← (pure v_octets_2); abin .Add a b); let b ← (do let o ← (pure v_ahead_3); let a ← (do let a ← (do let a ← (pure (.int 32)); let b ← (pure v_p_1.2); abin .Mult a b); let b ← (pure (.int 32)); abin .Add a b); let b ← (pure .none); getS o a b); abin .Add a b); (do let x ← (do let b ← (do let a ← (do let o ← (pure a_disk); getF 53 "data" o); let b ← (pure v_due_4); let x ← acmp .NotEq a b; abool x); if b then pure true else (do let b ← (do let a ← (do let l ← (do let a ← (pure a_disk); let l ← (do let a ← (pure v_p_1.2); let l ← (pure []); pure (a :: l)); pure (a :: l)); M134 l); let b ← (pure v_octets_2); let x ← acmp .NotEq a b; abool x); if b then pure true else (do let a ← (do let l ← (do let a ← (do let l ← (do let a ← (pure a_disk); let l ← (do let a ← (pure v_p_1.2); let l ← (pure []); pure (a :: l)); pure (a :: l)); M141 l); let l ← (pure []); pure (a :: l)); M219 l); let b ← (do let l ← (do let a ← (pure v_p_1.1); let l ← (pure []); pure (a :: l)); M219 l); let x ← acmp .NotEq a b; abool x))); let r ← (if x then (do let a ← (pure (.bool false)); pure (some a)) else (pure none)); after r (do let _ ← (do let l ← (do let a ← (pure a_disk); let l ← (do let a ← (pure v_p_1.2); let l ← (pure []); pure (a :: l)); pure (a :: l)); M162 l); (do let x ← (do let b ← (do let a ← (do let o ← (pure a_disk); getF 53 "data" o); let b ← (do let a ← (do let a ← (do let o ← (pure v_due_4); let a ← (pure .none); let b ← (do let a ← (pure (.int 32)); let b ← (pure v_p_1.2); abin .Mult a b); getS o a b); let b ← (do let l ← (do let a ← (pure (.int 229)); let l ← (pure []); pure (a :: l)); newInts l); abin .Add a b); let b ← (do let o ← (pure v_due_4); let a ← (do let a ← (do let a ← (pure (.int 32)); let b ← (pure v_p_1.2); abin .Mult a b); let b ← (pure (.int 1)); abin .Add a b); let b ← (pure .none); getS o a b); abin .Add a b); let x ← acmp .NotEq a b; abool x); if b then pure true else (do let a ← (do let l ← (do let a ← (pure a_disk); let l ← (do let a ← (pure v_p_1.2); let l ← (pure []); pure (a :: l)); pure (a :: l)); M141 l); let b ← (pure .none); let x ← acmp .IsNot a b; abool x)); let r ← (if x then (do let a ← (pure (.bool false)); pure (some a)) else (pure none)); after r (do let _ ← (do let l ← (do let a ← (pure a_disk); let l ← (do let a ← (pure v_p_1.2); let l ← (do let a ← (pure v_octets_2); let l ← (pure []); pure (a :: l)); pure (a :: l)); pure (a :: l)); M155 l); (do let a ← (do let a ← (do let o ← (pure a_disk); getF 53 "data" o); let b ← (pure v_due_4); acmp .Eq a b); pure (some a)))))))))))))
noncomputable def M240 : List AV → AM AV := fun l => do let o ← theArgs 2 (args2 P240) l; pure (outOf o)
theorem F240 {c : Cx} {lv : Nat} {ρ : Rho} : SimF c (lv + 6) ρ (.ref 240) M240 := by
  have kf9 : (hd.heap_39 c.w.params).In default → PySem.Challenge.rw_nz0564_01.row.prog = PG → True := by (k_fill; intros; trivial)
  clear kf9
  refine' F_def (lv := lv + 5) (names := ["disk", "box"]) ?ho ?hcd ?hb ?hloc ?hco ?hgen ?hk ?hcell ?hbody
  case ho => dsimp only [Cx.K]; k_dflt k_is
  case hcd => dsimp only [Cx.K]; k_dflt k_is
  case hb => intro s vs X hl; obtain ⟨v0, v1, rfl⟩ := len2 hl; exact BindsTo.of_eq rfl
  case hloc => exact rfl
  case hco => exact rfl
  case hgen => exact rfl
  case hk => exact rfl
  case hcell => exact rfl
  case hbody =>
    intro l hl d' u' gd' g L'
    obtain ⟨a_disk, a_box, rfl⟩ := len2 hl
    exact (S_cons (X_swap (L_cons (E_call (N_glob (globEnv rfl) (kfacts _).gf__law_entry rfl) (kfacts _).kp__law_entry (L_cons (E_loc rfl rfl) (L_cons (E_loc rfl rfl) L_nil)) (F212 (lv := lv + 1))) (L_cons (E_call (N_glob (globEnv rfl) (kfacts _).gf__law_take rfl) (kfacts _).kp__law_take (L_cons (E_loc rfl rfl) (L_cons (E_attrN 53 (E_loc rfl rfl) (kfacts _).at_53_entries) L_nil)) (F202 (lv := lv + 3))) L_nil)) rfl rfl (by rfl) (by rfl)) (fun v_p_1 => (S_cons (X_assign (E_call (N_glob (globEnv rfl) (kfacts _).gf__law_octets rfl) (kfacts _).kp__law_octets (L_cons (E_loc rfl rfl) (L_cons (E_loc rfl rfl) L_nil)) (F226 (lv := lv + 3))) rfl) (fun v_octets_2 => (S_if (B_or (B_cmp (E_call (N_glob (globEnv rfl) (kfacts _).gf_entry_octets rfl) (kfacts _).kp_entry_octets (L_cons (E_loc rfl rfl) (L_cons (E_loc rfl rfl) L_nil)) (F120 (lv := lv + 1))) (E_loc rfl rfl) rfl) (B_cmp (E_call (N_glob (globEnv rfl) (kfacts _).gf__law_parts rfl) (kfacts _).kp__law_parts (L_cons (E_call (N_glob (globEnv rfl) (kfacts _).gf_entry_from rfl) (kfacts _).kp_entry_from (L_cons (E_loc rfl rfl) (L_cons (E_loc rfl rfl) L_nil)) (F127 (lv := lv + 1))) L_nil) (F219 (lv := lv + 3))) (E_call (N_glob (globEnv rfl) (kfacts _).gf__law_parts rfl) (kfacts _).kp__law_parts (L_cons (E_loc rfl rfl) L_nil) (F219 (lv := lv + 3))) rfl)) (S_ret E_bool) S_nil (S_if (B_or (B_cmp (E_call (N_glob (globEnv rfl) (kfacts _).gf_map_of rfl) (kfacts _).kp_map_of (L_cons (E_loc rfl rfl) (L_cons (E_loc rfl rfl) L_nil)) (F167 (lv := lv + 2))) (E_attrN 74 (E_loc rfl rfl) (kfacts _).at_74_map) rfl) (B_cmp (E_call (N_glob (globEnv rfl) (kfacts _).gf_map_octets rfl) (kfacts _).kp_map_octets (L_cons (E_loc rfl rfl) (L_cons (E_attrN 74 (E_loc rfl rfl) (kfacts _).at_74_map) L_nil)) (F174 (lv := lv + 2))) (E_slice (E_loc rfl rfl) (P_some E_int) P_none) rfl)) (S_ret E_bool) S_nil (S_cons (X_assign (E_callT (N_boot (globEnv rfl) (kfacts _).gb_list bb_list rfl) (L_cons (E_attrN 53 (E_loc rfl rfl) (kfacts _).at_53_data) L_nil) copy_W) rfl) (fun v_ahead_3 => (S_cons (X_expr (E_call (N_glob (globEnv rfl) (kfacts _).gf_write_entry rfl) (kfacts _).kp_write_entry (L_cons (E_loc rfl rfl) (L_cons (E_loc rfl rfl) (L_cons (E_loc rfl rfl) L_nil))) (F148 (lv := lv)))) (fun _ => (S_cons (X_assign (E_bin (E_bin (E_slice (E_loc rfl rfl) P_none (P_some (E_bin E_int (E_loc rfl rfl)))) (E_loc rfl rfl)) (E_slice (E_loc rfl rfl) (P_some (E_bin (E_bin E_int (E_loc rfl rfl)) E_int)) P_none)) rfl) (fun v_due_4 => (S_if (B_or3 (B_cmp (E_attrN 53 (E_loc rfl rfl) (kfacts _).at_53_data) (E_loc rfl rfl) rfl) (B_cmp (E_call (N_glob (globEnv rfl) (kfacts _).gf_raw_entry rfl) (kfacts _).kp_raw_entry (L_cons (E_loc rfl rfl) (L_cons (E_loc rfl rfl) L_nil)) (F134 (lv := lv + 3))) (E_loc rfl rfl) rfl) (B_cmp (E_call (N_glob (globEnv rfl) (kfacts _).gf__law_parts rfl) (kfacts _).kp__law_parts (L_cons (E_call (N_glob (globEnv rfl) (kfacts _).gf_read_entry rfl) (kfacts _).kp_read_entry (L_cons (E_loc rfl rfl) (L_cons (E_loc rfl rfl) L_nil)) (F141 (lv := lv))) L_nil) (F219 (lv := lv + 3))) (E_call (N_glob (globEnv rfl) (kfacts _).gf__law_parts rfl) (kfacts _).kp__law_parts (L_cons (E_loc rfl rfl) L_nil) (F219 (lv := lv + 3))) rfl)) (S_ret E_bool) S_nil (S_cons (X_expr (E_call (N_glob (globEnv rfl) (kfacts _).gf_erase_entry rfl) (kfacts _).kp_erase_entry (L_cons (E_loc rfl rfl) (L_cons (E_loc rfl rfl) L_nil)) (F162 (lv := lv + 2)))) (fun _ => (S_if (B_or (B_cmp (E_attrN 53 (E_loc rfl rfl) (kfacts _).at_53_data) (E_bin (E_bin (E_slice (E_loc rfl rfl) P_none (P_some (E_bin E_int (E_loc rfl rfl)))) (E_ints (L_cons E_int L_nil))) (E_slice (E_loc rfl rfl) (P_some (E_bin (E_bin E_int (E_loc rfl rfl)) E_int)) P_none)) rfl) (B_cmp (E_call (N_glob (globEnv rfl) (kfacts _).gf_read_entry rfl) (kfacts _).kp_read_entry (L_cons (E_loc rfl rfl) (L_cons (E_loc rfl rfl) L_nil)) (F141 (lv := lv))) E_none rfl)) (S_ret E_bool) S_nil (S_cons (X_expr (E_call (N_glob (globEnv rfl) (kfacts _).gf_put_entry rfl) (kfacts _).kp_put_entry (L_cons (E_loc rfl rfl) (L_cons (E_loc rfl rfl) (L_cons (E_loc rfl rfl) L_nil))) (F155 (lv := lv + 2)))) (fun _ => (S_ret (E_cmp (E_attrN 53 (E_loc rfl rfl) (kfacts _).at_53_data) (E_loc rfl rfl) rfl))))))))))))))))))))
end Mine
end

/-! ## D5 -/
section
open PySem PySem.W PySem.Calls PyProof.Rows
namespace Mine
noncomputable def P245 : AV → AV → Nat → AM AV := fun a_disk a_box ck => (do let v_p_1 ← (do let l ← (do let a ← (do let l ← (do let a ← (getCell (ck + 1)); let l ← (do let a ← (do let o ← (getCell (ck + 2)); getF 53 "blocks" o); let l ← (pure []); pure (a :: l)); pure (a :: l)); M202 l); let l ← (do let a ← (do let l ← (do let a ← (getCell (ck + 1)); let l ← (do let a ← (do let l ← (do let a ← (getCell (ck + 2)); let l ← (pure []); pure (a :: l)); M92 l); let l ← (pure []); pure (a :: l)); pure (a :: l)); M202 l); let l ← (pure []); pure (a :: l)); pure (a :: l)); pair l); (do let _ ← (do let a ← (do let p ← (do let l ← (do let a ← (do let o ← (getCell (ck + 2)); getF 53 "record" o); let l ← (pure []); pure (a :: l)); rangeOf l); let l ← compR (fun k => (do let l ← (do let a ← (getCell (ck + 1)); let l ← (do let a ← (pure (.int 256)); let l ← (pure []); pure (a :: l)); pure (a :: l)); M202 l)) p; newL l); setCell ck a); (do let v_p_2 ← (do let l ← (do let a ← (do let l ← (do let a ← (do let o ← (getCell (ck + 2)); getF 53 "data" o); let l ← (pure []); pure (a :: l)); aCopy l); let l ← (do let a ← (do let a ← (do let a ← (pure v_p_1.1); let b ← (do let o ← (getCell (ck + 2)); getF 53 "block" o); abin .Mult a b); let b ← (do let a ← (pure v_p_1.2); let b ← (do let o ← (getCell (ck + 2)); getF 53 "record" o); abin .Mult a b); abin .Add a b); let l ← (pure []); pure (a :: l)); pure (a :: l)); pair l); (do let _ ← (do let l ← (do let a ← (getCell (ck + 2)); let l ← (do let a ← (pure v_p_1.1); let l ← (do let a ← (pure v_p_1.2); let l ← (do let a ← (getCell ck); let l ← (pure []); pure (a :: l)); pure (a :: l)); pure (a :: l)); pure (a :: l)); M195 l); (do let x ← (do let b ← (do let a ← (do let o ← (getCell (ck + 2)); getF 53 "data" o); let b ← (do let a ← (do let a ← (do let o ← (pure v_p_2.1); let a ← (pure .none); let b ← (pure v_p_2.2); getS o a b); let b ← (getCell ck); abin .Add a b); let b ← (do let o ← (pure v_p_2.1); let a ← (do let a ← (pure v_p_2.2); let b ← (do let o ← (getCell (ck + 2)); getF 53 "record" o); abin .Add a b); let b ← (pure .none); getS o a b); abin .Add a b); let x ← acmp .NotEq a b; abool x); if b then pure true else (do let a ← (do let l ← (do let a ← (getCell (ck + 2)); let l ← (do let a ← (pure v_p_1.1); let l ← (do let a ← (pure v_p_1.2); let l ← (pure []); pure (a :: l)); pure (a :: l)); pure (a :: l)); M188 l); let b ← (getCell ck); let x ← acmp .NotEq a b; abool x)); if x then (do let r ← (do let a ← (pure (.bool false)); pure (some a)); orElse r (do let a ← noErr (wordM 1 (154, 23) (do let l ← (do let a ← (getCell (ck + 2)); let l ← (do let a ← (do let o ← (getCell (ck + 2)); getF 53 "blocks" o); let l ← (do let a ← (pure (.int 0)); let l ← (pure []); pure (a :: l)); pure (a :: l)); pure (a :: l)); M188 l)); let v_words_3 ← newMix [a]; noErr (do isList v_words_3; let a ← noErr (wordM 1 (155, 27) (do let l ← (do let a ← (getCell (ck + 2)); let l ← (do let a ← (do let a ← (pure (.int 0)); let b ← (pure (.int 1)); abin .Sub a b); let l ← (do let a ← (pure (.int 0)); let l ← (pure []); pure (a :: l)); pure (a :: l)); pure (a :: l)); M188 l)); let _ ← aAppend v_words_3 [a]; noErr (do isList v_words_3; let a ← noErr (wordM 1 (156, 27) (do let l ← (do let a ← (getCell (ck + 2)); let l ← (do let a ← (pure (.int 0)); let l ← (do let a ← (do let l ← (do let a ← (getCell (ck + 2)); let l ← (pure []); pure (a :: l)); M92 l); let l ← (do let a ← (getCell ck); let l ← (pure []); pure (a :: l)); pure (a :: l)); pure (a :: l)); pure (a :: l)); M195 l)); let _ ← aAppend v_words_3 [a]; noErr (do isList v_words_3; let a ← noErr (wordM 1 (157, 27) (do let l ← (do let a ← (getCell (ck + 2)); let l ← (do let a ← (pure (.int 0)); let l ← (do let a ← (pure (.int 0)); let l ← (do let a ← (do let o ← (getCell ck); let a ← (pure (.int 1)); let b ← (pure .none); getS o a b); let l ← (pure []); pure (a :: l)); pure (a :: l)); pure (a :: l)); pure (a :: l)); M195 l)); let _ ← aAppend v_words_3 [a]; noErr (do isList v_words_3; let a ← noErr (wordM 1 (158, 27) (do let l ← (do let a ← (getCell (ck + 2)); let l ← (do let a ← (do let o ← (getCell (ck + 2)); getF 53 "entries" o); let l ← (pure []); pure (a :: l)); pure (a :: l)); M141 l)); let _ ← aAppend v_words_3 [a]; noErr (do let a ← (pure v_words_3); let b ← (do let a ← (do let l ← (do let a ← (pure (.str "range")); let l ← (pure []); pure (a :: l)); newMix l); let b ← (pure (.int 5)); abin .Mult a b); acmp .Eq a b))))))) else (do let a ← noErr (wordM 1 (154, 23) (do let l ← (do let a ← (getCell (ck + 2)); let l ← (do let a ← (do let o ← (getCell (ck + 2)); getF 53 "blocks" o); let l ← (do let a ← (pure (.int 0)); let l ← (pure []); pure (a :: l)); pure (a :: l)); pure (a :: l)); M188 l)); let v_words_3 ← newMix [a]; noErr (do isList v_words_3; let a ← noErr (wordM 1 (155, 27) (do let l ← (do let a ← (getCell (ck + 2)); let l ← (do let a ← (do let a ← (pure (.int 0)); let b ← (pure (.int 1)); abin .Sub a b); let l ← (do let a ← (pure (.int 0)); let l ← (pure []); pure (a :: l)); pure (a :: l)); pure (a :: l)); M188 l)); let _ ← aAppend v_words_3 [a]; noErr (do isList v_words_3; let a ← noErr (wordM 1 (156, 27) (do let l ← (do let a ← (getCell (ck + 2)); let l ← (do let a ← (pure (.int 0)); let l ← (do let a ← (do let l ← (do let a ← (getCell (ck + 2)); let l ← (pure []); pure (a :: l)); M92 l); let l ← (do let a ← (getCell ck); let l ← (pure []); pure (a :: l)); pure (a :: l)); pure (a :: l)); pure (a :: l)); M195 l)); let _ ← aAppend v_words_3 [a]; noErr (do isList v_words_3; let a ← noErr (wordM 1 (157, 27) (do let l ← (do let a ← (getCell (ck + 2)); let l ← (do let a ← (pure (.int 0)); let l ← (do let a ← (pure (.int 0)); let l ← (do let a ← (do let o ← (getCell ck); let a ← (pure (.int 1)); let b ← (pure .none); getS o a b); let l ← (pure []); pure (a :: l)); pure (a :: l)); pure (a :: l)); pure (a :: l)); M195 l)); let _ ← aAppend v_words_3 [a]; noErr (do isList v_words_3; let a ← noErr (wordM 1 (158, 27) (do let l ← (do let a ← (getCell (ck + 2)); let l ← (do let a ← (do let o ← (getCell (ck + 2)); getF 53 "entries" o); let l ← (pure []); pure (a :: l)); pure (a :: l)); M141 l)); let _ ← aAppend v_words_3 [a]; noErr (do let a ← (pure v_words_3); let b ← (do let a ← (do let l ← (do let a ← (pure (.str "range")); let l ← (pure []); pure (a :: l)); newMix l); let b ← (pure (.int 5)); abin .Mult a b); acmp .Eq a b)))))))))))
noncomputable def M245 : List AV → AM AV := cellBodyG ["disk", "box"] [("octets", 2), ("box", 1), ("disk", 0)] (argsC2 P245)
theorem F245 {c : Cx} {lv : Nat} {ρ : Rho} (h0 : c.outer = []) (hP : c.pin[1]? = some 242) : SimF c (lv + 8) ρ (.ref 245) M245 := by
  have kf9 : (hd.heap_39 c.w.params).In default → PySem.Challenge.rw_nz0564_01.row.prog = PG → True := by (k_fill; intros; trivial)
  clear kf9
  refine' F_defCT h0 (lv := lv + 7) (names := ["disk", "box"]) (cs := [("octets", 2), ("box", 1), ("disk", 0)]) ?ho ?hcd ?hb (hkind_of (cs := [("octets", 2), ("box", 1), ("disk", 0)]) ?kd1) ?hnd ?hcs ?hcn (hbl_of ?kd2) (hbc_of ?kd3) ?hco ?hgen ?hk ?hbody
  case ho => dsimp only [Cx.K]; k_dflt k_is
  case hcd => dsimp only [Cx.K]; k_dflt k_is
  case hb => intro s vs X hl; obtain ⟨v0, v1, rfl⟩ := len2 hl; exact BindsTo.of_eq rfl
  case kd1 => exact rfl
  case kd2 => exact rfl
  case kd3 => exact rfl
  case hnd => decide
  case hcs => intro a; rfl
  case hcn => decide
  case hco => exact rfl
  case hgen => exact rfl
  case hk => exact rfl
  case hbody =>
    intro l hl d' u' gd' g L' ck
    obtain ⟨a_disk, a_box, rfl⟩ := len2 hl
    exact (Sg_cons (X_swap (L_cons (E_call (N_glob (globEnv rfl) (kfacts _).gf__law_take rfl) (kfacts _).kp__law_take (L_cons (E_cell rfl rfl (.inl rfl)) (L_cons (E_attrN 53 (E_cell rfl rfl (.inl rfl)) (kfacts _).at_53_blocks) L_nil)) (F202 (lv := lv + 5))) (L_cons (E_call (N_glob (globEnv rfl) (kfacts _).gf__law_take rfl) (kfacts _).kp__law_take (L_cons (E_cell rfl rfl (.inl rfl)) (L_cons (E_call (N_glob (globEnv rfl) (kfacts _).gf_records_of_block rfl) (kfacts _).kp_records_of_block (L_cons (E_cell rfl rfl (.inl rfl)) L_nil) (F92 (lv := lv + 5))) L_nil)) (F202 (lv := lv + 5))) L_nil)) rfl rfl (by rfl) (by rfl)) (fun v_p_1 => (Sg_cons (X_assignC (E_compR (R_range (N_boot (globEnv rfl) (kfacts _).gb_range bb_range rfl) (L_cons (E_attrN 53 (E_cell rfl rfl (.inl rfl)) (kfacts _).at_53_record) L_nil)) ⟨rfl, rfl, rfl, rfl, rfl⟩ (fun own frz C oC m₂ t k hm hn hv => (E_call (N_glob ⟨rfl, rfl, rfl⟩ (kfacts _).gf__law_take rfl) (kfacts _).kp__law_take (L_cons (E_free rfl rfl rfl (.inr rfl)) (L_cons E_int L_nil)) (F202 (lv := lv + 5))))) rfl rfl) (fun _ => (Sg_cons (X_swap (L_cons (E_callT (N_boot (globEnv rfl) (kfacts _).gb_list bb_list rfl) (L_cons (E_attrN 53 (E_cell rfl rfl (.inl rfl)) (kfacts _).at_53_data) L_nil) copy_W) (L_cons (E_bin (E_bin (E_loc rfl rfl) (E_attrN 53 (E_cell rfl rfl (.inl rfl)) (kfacts _).at_53_block)) (E_bin (E_loc rfl rfl) (E_attrN 53 (E_cell rfl rfl (.inl rfl)) (kfacts _).at_53_record))) L_nil)) rfl rfl (by rfl) (by rfl)) (fun v_p_2 => (Sg_cons (X_expr (E_call (N_glob (globEnv rfl) (kfacts _).gf_write_record rfl) (kfacts _).kp_write_record (L_cons (E_cell rfl rfl (.inl rfl)) (L_cons (E_loc rfl rfl) (L_cons (E_loc rfl rfl) (L_cons (E_cell rfl rfl (.inl rfl)) L_nil)))) (F195 (lv := lv + 3)))) (fun _ => (Sg_if (B_or (B_cmp (E_attrN 53 (E_cell rfl rfl (.inl rfl)) (kfacts _).at_53_data) (E_bin (E_bin (E_slice (E_loc rfl rfl) P_none (P_some (E_loc rfl rfl))) (E_cell rfl rfl (.inl rfl))) (E_slice (E_loc rfl rfl) (P_some (E_bin (E_loc rfl rfl) (E_attrN 53 (E_cell rfl rfl (.inl rfl)) (kfacts _).at_53_record))) P_none)) rfl) (B_cmp (E_call (N_glob (globEnv rfl) (kfacts _).gf_read_record rfl) (kfacts _).kp_read_record (L_cons (E_cell rfl rfl (.inl rfl)) (L_cons (E_loc rfl rfl) (L_cons (E_loc rfl rfl) L_nil))) (F188 (lv := lv + 3))) (E_cell rfl rfl (.inl rfl)) rfl)) (S_ret E_bool) (Sg_word1 (@G_w _ (lv + 5) _ 1 244 242 _ _ _ _ _ _ _ [("disk", (ck + 2))] _ rfl rfl (codes _).1 hP rfl rfl (List.forall_mem_cons.mpr ⟨⟨rfl, rfl⟩, (fun _ h => nomatch h)⟩) (by intros; rfl) rfl rfl rfl rfl (fun c₂ f c' g₂ L₂ => (E_call (N_glob ⟨rfl, rfl, rfl⟩ (kfacts _).gf_read_record rfl) (kfacts _).kp_read_record (L_cons (E_cell rfl rfl (.inr rfl)) (L_cons (E_attrN 53 (E_cell rfl rfl (.inr rfl)) (kfacts _).at_53_blocks) (L_cons E_int L_nil))) (F188 (lv := lv + 1))))) rfl (fun g' v_words_3 => (Sg_app (@G_w _ (lv + 5) _ 1 244 242 _ _ _ _ _ _ _ [("disk", (ck + 2))] _ rfl rfl (codes _).1 hP rfl rfl (List.forall_mem_cons.mpr ⟨⟨rfl, rfl⟩, (fun _ h => nomatch h)⟩) (by intros; rfl) rfl rfl rfl rfl (fun c₂ f c' g₂ L₂ => (E_call (N_glob ⟨rfl, rfl, rfl⟩ (kfacts _).gf_read_record rfl) (kfacts _).kp_read_record (L_cons (E_cell rfl rfl (.inr rfl)) (L_cons (E_bin E_int E_int) (L_cons E_int L_nil))) (F188 (lv := lv + 1))))) rfl rfl rfl (fun g' => (Sg_app (@G_w _ (lv + 5) _ 1 244 242 _ _ _ _ _ _ _ [("octets", ck), ("disk", (ck + 2))] _ rfl rfl (codes _).1 hP rfl rfl (List.forall_mem_cons.mpr ⟨⟨rfl, rfl⟩, (List.forall_mem_cons.mpr ⟨⟨rfl, rfl⟩, (fun _ h => nomatch h)⟩)⟩) (by intros; rfl) rfl rfl rfl rfl (fun c₂ f c' g₂ L₂ => (E_call (N_glob ⟨rfl, rfl, rfl⟩ (kfacts _).gf_write_record rfl) (kfacts _).kp_write_record (L_cons (E_cell rfl rfl (.inr rfl)) (L_cons E_int (L_cons (E_call (N_glob ⟨rfl, rfl, rfl⟩ (kfacts _).gf_records_of_block rfl) (kfacts _).kp_records_of_block (L_cons (E_cell rfl rfl (.inr rfl)) L_nil) (F92 (lv := lv + 3))) (L_cons (E_cell rfl rfl (.inr rfl)) L_nil)))) (F195 (lv := lv + 1))))) rfl rfl rfl (fun g' => (Sg_app (@G_w _ (lv + 5) _ 1 244 242 _ _ _ _ _ _ _ [("octets", ck), ("disk", (ck + 2))] _ rfl rfl (codes _).1 hP rfl rfl (List.forall_mem_cons.mpr ⟨⟨rfl, rfl⟩, (List.forall_mem_cons.mpr ⟨⟨rfl, rfl⟩, (fun _ h => nomatch h)⟩)⟩) (by intros; rfl) rfl rfl rfl rfl (fun c₂ f c' g₂ L₂ => (E_call (N_glob ⟨rfl, rfl, rfl⟩ (kfacts _).gf_write_record rfl) (kfacts _).kp_write_record (L_cons (E_cell rfl rfl (.inr rfl)) (L_cons E_int (L_cons E_int (L_cons (E_slice (E_cell rfl rfl (.inr rfl)) (P_some E_int) P_none) L_nil)))) (F195 (lv := lv + 1))))) rfl rfl rfl (fun g' => (Sg_app (@G_w _ (lv + 5) _ 1 244 242 _ _ _ _ _ _ _ [("disk", (ck + 2))] _ rfl rfl (codes _).1 hP rfl rfl (List.forall_mem_cons.mpr ⟨⟨rfl, rfl⟩, (fun _ h => nomatch h)⟩) (by intros; rfl) rfl rfl rfl rfl (fun c₂ f c' g₂ L₂ => (E_call (N_glob ⟨rfl, rfl, rfl⟩ (kfacts _).gf_read_entry rfl) (kfacts _).kp_read_entry (L_cons (E_cell rfl rfl (.inr rfl)) (L_cons (E_attrN 53 (E_cell rfl rfl (.inr rfl)) (kfacts _).at_53_entries) L_nil)) (F141 (lv := lv))))) rfl rfl rfl (fun g' => (Sg_ret (E_cmp (E_loc rfl rfl) (E_bin (E_list (L_cons E_str L_nil)) E_int) rfl))) rfl)) rfl)) rfl)) rfl))))))))))))
noncomputable def P252 : AV → AV → Nat → AM AV := fun a_disk a_box ck => (do let v_ahead_4 ← (do let l ← (do let a ← (do let l ← (do let a ← (getCell (ck + 1)); let l ← (do let a ← (pure a_box); let l ← (pure []); pure (a :: l)); pure (a :: l)); M212 l); let l ← (do let a ← (do let l ← (do let a ← (do let o ← (getCell (ck + 1)); getF 53 "data" o); let l ← (pure []); pure (a :: l)); aCopy l); let l ← (pure []); pure (a :: l)); pure (a :: l)); let p ← pair l; (fun a => setCell ck a) p.1; pure p.2); (do let _ ← (do let a ← (pure (.bool true)); let r ← (getCell (ck + 1)); setF 53 "is_read_only" r a); (do let a ← noErr (wordM 0 (163, 23) (do let l ← (do let a ← (getCell (ck + 1)); let l ← (do let a ← (pure (.int 0)); let l ← (do let a ← (getCell ck); let l ← (pure []); pure (a :: l)); pure (a :: l)); pure (a :: l)); M148 l)); let v_words_5 ← newMix [a]; noErr (do isList v_words_5; let a ← noErr (wordM 0 (164, 27) (do let l ← (do let a ← (getCell (ck + 1)); let l ← (do let a ← (pure (.int 0)); let l ← (pure []); pure (a :: l)); pure (a :: l)); M162 l)); let _ ← aAppend v_words_5 [a]; noErr (do isList v_words_5; let a ← noErr (wordM 0 (165, 27) (do let l ← (do let a ← (getCell (ck + 1)); let l ← (do let a ← (pure (.int 0)); let l ← (do let a ← (do let a ← (do let l ← (do let a ← (pure (.int 0)); let l ← (pure []); pure (a :: l)); newInts l); let b ← (pure (.int 32)); abin .Mult a b); let l ← (pure []); pure (a :: l)); pure (a :: l)); pure (a :: l)); M155 l)); let _ ← aAppend v_words_5 [a]; noErr (do isList v_words_5; let a ← noErr (wordM 0 (166, 27) (do let l ← (do let a ← (getCell (ck + 1)); let l ← (do let a ← (pure (.int 0)); let l ← (do let a ← (pure (.int 0)); let l ← (do let a ← (do let a ← (do let l ← (do let a ← (pure (.int 0)); let l ← (pure []); pure (a :: l)); newInts l); let b ← (do let o ← (getCell (ck + 1)); getF 53 "record" o); abin .Mult a b); let l ← (pure []); pure (a :: l)); pure (a :: l)); pure (a :: l)); pure (a :: l)); M195 l)); let _ ← aAppend v_words_5 [a]; noErr (do let a ← (do let a ← (pure v_words_5); let b ← (do let a ← (do let l ← (do let a ← (pure (.str "read only")); let l ← (pure []); pure (a :: l)); newMix l); let b ← (pure (.int 4)); abin .Mult a b); acmp .Eq a b); let b ← abool a; if b then (do let a ← (do let o ← (getCell (ck + 1)); getF 53 "data" o); let b ← (pure v_ahead_4); acmp .Eq a b) else pure a)))))))
noncomputable def M252 : List AV → AM AV := cellBodyG ["disk", "box"] [("entry", 1), ("disk", 0)] (argsC2 P252)
theorem F252 {c : Cx} {lv : Nat} {ρ : Rho} (h0 : c.outer = []) (hP : c.pin[0]? = some 247) : SimF c (lv + 8) ρ (.ref 252) M252 := by
  have kf9 : (hd.heap_39 c.w.params).In default → PySem.Challenge.rw_nz0564_01.row.prog = PG → True := by (k_fill; intros; trivial)
  clear kf9
  refine' F_defCT h0 (lv := lv + 7) (names := ["disk", "box"]) (cs := [("entry", 1), ("disk", 0)]) ?ho ?hcd ?hb (hkind_of (cs := [("entry", 1), ("disk", 0)]) ?kd1) ?hnd ?hcs ?hcn (hbl_of ?kd2) (hbc_of ?kd3) ?hco ?hgen ?hk ?hbody
  case ho => dsimp only [Cx.K]; k_dflt k_is
  case hcd => dsimp only [Cx.K]; k_dflt k_is
  case hb => intro s vs X hl; obtain ⟨v0, v1, rfl⟩ := len2 hl; exact BindsTo.of_eq rfl
  case kd1 => exact rfl
  case kd2 => exact rfl
  case kd3 => exact rfl
  case hnd => decide
  case hcs => intro a; rfl
  case hcn => decide
  case hco => exact rfl
  case hgen => exact rfl
  case hk => exact rfl
  case hbody =>
    intro l hl d' u' gd' g L' ck
    obtain ⟨a_disk, a_box, rfl⟩ := len2 hl
    exact (Sg_cons (X_twoL (L_cons (E_call (N_glob (globEnv rfl) (kfacts _).gf__law_entry rfl) (kfacts _).kp__law_entry (L_cons (E_cell rfl rfl (.inl rfl)) (L_cons (E_loc rfl rfl) L_nil)) (F212 (lv := lv + 3))) (L_cons (E_callT (N_boot (globEnv rfl) (kfacts _).gb_list bb_list rfl) (L_cons (E_attrN 53 (E_cell rfl rfl (.inl rfl)) (kfacts _).at_53_data) L_nil) copy_W) L_nil)) (A_cell rfl rfl) rfl (by rfl) (by rfl) (by rfl) (by rfl) (by rfl)) (fun v_ahead_4 => (Sg_cons (X_attr 53 E_bool (E_cell rfl rfl (.inl rfl)) (kfacts _).st_53_is_read_only) (fun _ => (Sg_word1 (@G_w _ (lv + 5) _ 0 251 247 _ _ _ _ _ _ _ [("entry", ck), ("disk", (ck + 1))] _ rfl rfl (codes _).2 hP rfl rfl (List.forall_mem_cons.mpr ⟨⟨rfl, rfl⟩, (List.forall_mem_cons.mpr ⟨⟨rfl, rfl⟩, (fun _ h => nomatch h)⟩)⟩) (by intros; rfl) rfl rfl rfl rfl (fun c₂ f c' g₂ L₂ => (E_call (N_glob ⟨rfl, rfl, rfl⟩ (kfacts _).gf_write_entry rfl) (kfacts _).kp_write_entry (L_cons (E_cell rfl rfl (.inr rfl)) (L_cons E_int (L_cons (E_cell rfl rfl (.inr rfl)) L_nil))) (F148 (lv := lv))))) rfl (fun g' v_words_5 => (Sg_app (@G_w _ (lv + 5) _ 0 251 247 _ _ _ _ _ _ _ [("disk", (ck + 1))] _ rfl rfl (codes _).2 hP rfl rfl (List.forall_mem_cons.mpr ⟨⟨rfl, rfl⟩, (fun _ h => nomatch h)⟩) (by intros; rfl) rfl rfl rfl rfl (fun c₂ f c' g₂ L₂ => (E_call (N_glob ⟨rfl, rfl, rfl⟩ (kfacts _).gf_erase_entry rfl) (kfacts _).kp_erase_entry (L_cons (E_cell rfl rfl (.inr rfl)) (L_cons E_int L_nil)) (F162 (lv := lv + 2))))) rfl rfl rfl (fun g' => (Sg_app (@G_w _ (lv + 5) _ 0 251 247 _ _ _ _ _ _ _ [("disk", (ck + 1))] _ rfl rfl (codes _).2 hP rfl rfl (List.forall_mem_cons.mpr ⟨⟨rfl, rfl⟩, (fun _ h => nomatch h)⟩) (by intros; rfl) rfl rfl rfl rfl (fun c₂ f c' g₂ L₂ => (E_call (N_glob ⟨rfl, rfl, rfl⟩ (kfacts _).gf_put_entry rfl) (kfacts _).kp_put_entry (L_cons (E_cell rfl rfl (.inr rfl)) (L_cons E_int (L_cons (E_bin (E_ints (L_cons E_int L_nil)) E_int) L_nil))) (F155 (lv := lv + 2))))) rfl rfl rfl (fun g' => (Sg_app (@G_w _ (lv + 5) _ 0 251 247 _ _ _ _ _ _ _ [("disk", (ck + 1))] _ rfl rfl (codes _).2 hP rfl rfl (List.forall_mem_cons.mpr ⟨⟨rfl, rfl⟩, (fun _ h => nomatch h)⟩) (by intros; rfl) rfl rfl rfl rfl (fun c₂ f c' g₂ L₂ => (E_call (N_glob ⟨rfl, rfl, rfl⟩ (kfacts _).gf_write_record rfl) (kfacts _).kp_write_record (L_cons (E_cell rfl rfl (.inr rfl)) (L_cons E_int (L_cons E_int (L_cons (E_bin (E_ints (L_cons E_int L_nil)) (E_attrN 53 (E_cell rfl rfl (.inr rfl)) (kfacts _).at_53_record)) L_nil)))) (F195 (lv := lv + 1))))) rfl rfl rfl (fun g' => (Sg_ret (E_and (E_cmp (E_loc rfl rfl) (E_bin (E_list (L_cons E_str L_nil)) E_int) rfl) (E_cmp (E_attrN 53 (E_cell rfl rfl (.inl rfl)) (kfacts _).at_53_data) (E_loc rfl rfl) rfl)))) rfl)) rfl)) rfl)))))))
end Mine
end

/-! ## D6 -/
section
open PySem PySem.W PySem.Calls PyProof.Rows
namespace Mine
noncomputable def P259 (a_script : AV) : AM (Option AV) := (do let v_box_1 ← (do let l ← (do let a ← (pure a_script); let l ← (pure []); pure (a :: l)); M207 l); (do let v_disk_2 ← (do let l ← (do let a ← (do let a ← (pure (.int 4)); let b ← (do let l ← (do let a ← (pure v_box_1); let l ← (do let a ← (pure (.int 6)); let l ← (pure []); pure (a :: l)); pure (a :: l)); M202 l); abin .Add a b); let l ← (do let a ← (pure (.int 64)); let l ← (do let a ← (do let o ← (do let l ← (do let a ← (pure (.int 16)); let l ← (do let a ← (pure (.int 32)); let l ← (pure []); pure (a :: l)); pure (a :: l)); newInts l); let k ← (do let l ← (do let a ← (pure v_box_1); let l ← (do let a ← (pure (.int 2)); let l ← (pure []); pure (a :: l)); pure (a :: l)); M202 l); getI o k); let l ← (do let a ← (pure (.int 4)); let l ← (pure []); pure (a :: l)); pure (a :: l)); pure (a :: l)); pure (a :: l)); (aNew 53 5 (args5 P50)) l); (do let v_wide_3 ← (do let l ← (do let a ← (do let a ← (pure (.int 257)); let b ← (do let l ← (do let a ← (pure v_box_1); let l ← (do let a ← (pure (.int 3)); let l ← (pure []); pure (a :: l)); pure (a :: l)); M202 l); abin .Add a b); let l ← (do let a ← (pure (.int 1)); let l ← (do let a ← (pure (.int 1)); let l ← (do let a ← (pure (.int 4)); let l ← (pure []); pure (a :: l)); pure (a :: l)); pure (a :: l)); pure (a :: l)); (aNew 53 5 (args5 P50)) l); (do let x ← (do let b ← (do let a ← (do let l ← (do let a ← (do let l ← (do let a ← (pure v_disk_2); let l ← (pure []); pure (a :: l)); M85 l); let l ← (do let a ← (do let l ← (do let a ← (pure v_wide_3); let l ← (pure []); pure (a :: l)); M85 l); let l ← (pure []); pure (a :: l)); pure (a :: l)); newInts l); let b ← (do let l ← (do let a ← (pure (.int 16)); let l ← (do let a ← (pure (.int 8)); let l ← (pure []); pure (a :: l)); pure (a :: l)); newInts l); let x ← acmp .NotEq a b; abool x); if b then pure true else (do let a ← (do let l ← (do let a ← (pure v_disk_2); let l ← (pure []); pure (a :: l)); M99 l); let b ← (do let a ← (do let a ← (pure (.int 16)); let b ← (pure (.int 64)); abin .Mult a b); let b ← (do let o ← (pure v_disk_2); getF 53 "record" o); abin .FloorDiv a b); let x ← acmp .NotEq a b; abool x)); let r ← (if x then (do let a ← (pure (.bool false)); pure (some a)) else (pure none)); after r (do let x ← (do let b ← (do let a ← (do let l ← (do let a ← (pure v_wide_3); let l ← (pure []); pure (a :: l)); M99 l); let b ← (pure (.int 8)); let x ← acmp .NotEq a b; abool x); if b then pure true else (do let a ← (do let l ← (do let a ← (do let l ← (do let a ← (pure (.int 2)); let l ← (do let a ← (pure (.int 256)); let l ← (do let a ← (pure (.int 1)); let l ← (do let a ← (pure (.int 4)); let l ← (pure []); pure (a :: l)); pure (a :: l)); pure (a :: l)); pure (a :: l)); (aNew 53 5 (args5 P50)) l); let l ← (pure []); pure (a :: l)); M99 l); let b ← (pure (.int 128)); let x ← acmp .NotEq a b; abool x)); let r ← (if x then (do let a ← (pure (.bool false)); pure (some a)) else (pure none)); after r (do let l ← noErr (do let a ← (pure v_disk_2); let l ← (do let a ← (pure v_wide_3); let l ← (pure []); pure (a :: l)); pure (a :: l)); let r ← noErr (loopT (fun v_one_4 => (do let x ← (do let b ← (do let a ← (do let l ← (do let a ← (pure v_one_4); let l ← (do let a ← (pure v_box_1); let l ← (pure []); pure (a :: l)); pure (a :: l)); M240 l); abool a); pure (!b)); let r ← (if x then (do let a ← (pure (.bool false)); pure (some a)) else (pure none)); after r (pure none))) l); after r (do let a ← (do let a ← (do let l ← (do let a ← (pure v_disk_2); let l ← (do let a ← (pure v_box_1); let l ← (pure []); pure (a :: l)); pure (a :: l)); M245 l); let b ← abool a; if b then (do let l ← (do let a ← (pure v_disk_2); let l ← (do let a ← (pure v_box_1); let l ← (pure []); pure (a :: l)); pure (a :: l)); M252 l) else pure a); pure (some a))))))))
end Mine
end

/-! ## J1 -/
section
open PySem PySem.W PySem.Calls PyProof.Rows
namespace Mine
/-! the argument's list: out of the ground, into the news -/
section
variable {g h : Heap} {S L : Addr} {vs : List Value} {m mg mb : Str → Option Value} {news : List (Addr × Obj)} {K : Frag} {loose : List Str} {mean : ExcName → Option Value} {o : Obj}
noncomputable def noList (K : Frag) : Bool := K.all fun p => p.2.cls != .type "list"
theorem noListK (w : World) : noList (hd.heap_39 w.params) = true := by kernel_rfl
theorem hide_get {b : Addr} {ob : Obj} (e : g.get? b = some ob) (hb : b ≠ S) : (hideAll g [S]).get? b = some ob := hideAll_get _ e fun q => hb (List.mem_singleton.mp q)
theorem hide_fresh {b : Addr} (e : g.get? b = none) : (hideAll g [S]).get? b = none := by
  cases q : (hideAll g [S]).get? b with
  | none => rfl
  | some o => rw [of_hideAll _ q] at e; cases e
theorem hide_ns {a : Addr} {mm : Str → Option Value} (hS : g.get? S = some o) (hc : o.cls = .type "list") {it : Array Value} {k : Nat} (hd : o.data = .seq it k) (x : g.Ns a mm) : (hideAll g [S]).Ns a mm :=
  let ⟨o', es, ep, e, hd', r⟩ := x; ⟨o', es, ep, hide_get e (fun q => by rw [q, hS] at e; cases e; rw [hd] at hd'; cases hd'), hd', r⟩
theorem hide_K (hS : g.get? S = some o) (hc : o.cls = .type "list") (X : K.In g) (hK : noList K = true) : K.In (hideAll g [S]) := fun a ob e => by
  refine hide_get (X a ob e) fun q => ?_
  subst q
  have := X _ _ e
  rw [hS] at this; cases this
  have h2 := List.all_eq_true.mp hK (a, o) (mem_of_lookupK e)
  rw [hc] at h2
  exact absurd (show false = true from h2) Bool.false_ne_true
theorem hide_top (hS : g.get? S = some o) (hc : o.cls = .type "list") {it : Array Value} {k : Nat} (hd : o.data = .seq it k) (T : Top topProg loose mean mg mb g) : Top topProg loose mean mg mb (hideAll g [S]) where
  g := hide_ns hS hc hd T.g
  b := hide_ns hS hc hd T.b
  nolimit := let ⟨mc, a, r⟩ := T.nolimit; ⟨mc, hide_ns hS hc hd a, r⟩
  nodigits := let ⟨mc, a, r⟩ := T.nodigits; ⟨mc, hide_ns hS hc hd a, r⟩
  fn := fun d hd => absurd (show d ∈ ([] : List DefRec) from hd) List.not_mem_nil
  own := fun o ho => absurd (show o ∈ ([] : List OwnSpec) from ho) List.not_mem_nil
  const := fun x d e => by cases (show (none : Option PyData) = some d from e)
  free := fun x h1 h2 h3 h4 h5 => T.free x h1 h2 h3 h4 h5
  builtins := T.builtins
  tab := fun d hd => absurd (show d ∈ ([] : List DefRec) from hd) List.not_mem_nil
  bmain := let ⟨bm, ob, a1, a2, a3, a4, r⟩ := T.bmain; ⟨bm, ob, a1, a2, hide_get a3 (fun q => by rw [q, hS] at a3; cases a3; rw [hc] at a4; exact absurd (Value.type.inj a4) (by decide)), a4, r⟩
  seer := fun e => absurd (show false = true from e) Bool.false_ne_true
end
end Mine
end

/-! ## PL1 -/
section
open PySem PySem.W PySem.Calls PyProof.Rows
namespace Mine
/-! what is known of a heap: a list of places and what each holds; then the rules of the small language over it -/
inductive As where
  | is (o : AO) | box (q : Nat) | que
noncomputable def As.ok : As → AO → Prop
  | .is o, x => x = o
  | .box q, x => ∃ s : Int, x = .mix [.loc q, .int s] ∧ 0 ≤ s ∧ s < 1000003
  | .que, x => ∃ ns : List Int, x = .ints ns ∧ ns.length ≤ 40 ∧ ∀ k ∈ ns, 0 ≤ k
abbrev Ct := List (Nat × As)
noncomputable def St1 (Γ : Ct) (H : AH) : Prop := (Γ.map (·.1)).Nodup ∧ ∀ p ∈ Γ, ∃ o, H[p.1]? = some o ∧ p.2.ok o
noncomputable def Tr {α : Type} (Γ : Ct) (m : AM α) (Q : α → Ct → Prop) (E : Str → Ct → Prop) : Prop :=
  ∀ H, St1 Γ H → (m H).run (fun a H' => ∃ Γ', St1 Γ' H' ∧ Q a Γ') (fun x H' => ∃ Γ', St1 Γ' H' ∧ E x Γ')
/-- one place changed -/
inductive Up (i : Nat) (a a' : As) : Ct → Ct → Prop
  | here {Γ : Ct} : Up i a a' ((i, a) :: Γ) ((i, a') :: Γ)
  | next {p : Nat × As} {Γ Γ' : Ct} (h : Up i a a' Γ Γ') : Up i a a' (p :: Γ) (p :: Γ')
section
variable {α β σ : Type} {Γ Γ' : Ct} {H : AH} {i j n d : Nat} {o o' : AO} {a b : AV} {l r ns : List Int} {k x y : Int} {ts : List (Nat × Nat)}
theorem St1.at_ (S : St1 Γ H) (h : (i, As.is o) ∈ Γ) : H[i]? = some o := by
  obtain ⟨o', e, r⟩ := S.2 _ h
  have r : o' = o := r
  rw [e, r]
theorem St1.push (S : St1 Γ H) (o : AO) : St1 ((H.length, .is o) :: Γ) (H ++ [o]) := by
  refine ⟨List.nodup_cons.mpr ⟨fun h => ?_, S.1⟩, fun p hp => ?_⟩
  · obtain ⟨p, hp, e⟩ := List.mem_map.mp h
    obtain ⟨o', e', _⟩ := S.2 p hp
    rw [e, List.getElem?_eq_none (Nat.le_refl _)] at e'
    cases e'
  · rcases List.mem_cons.mp hp with rfl | hp
    · exact ⟨o, by simp, rfl⟩
    · obtain ⟨o', e, r⟩ := S.2 p hp
      exact ⟨o', idx_pre (List.prefix_append _ _) e, r⟩
theorem Up.keys {a a' : As} (h : Up i a a' Γ Γ') : Γ'.map (·.1) = Γ.map (·.1) ∧ (i, a) ∈ Γ ∧ ∀ p ∈ Γ', p = (i, a') ∨ p ∈ Γ := by
  induction h with
  | here => exact ⟨rfl, .head _, fun p hp => (List.mem_cons.mp hp).imp id (List.mem_cons_of_mem _)⟩
  | next h ih =>
    refine ⟨congrArg (_ :: ·) ih.1, .tail _ ih.2.1, fun p hp => ?_⟩
    rcases List.mem_cons.mp hp with rfl | hp
    · exact .inr (.head _)
    · exact (ih.2.2 p hp).imp id (List.mem_cons_of_mem _)
theorem Up.apart {a a' : As} (h : Up i a a' Γ Γ') (nd : (Γ.map (·.1)).Nodup) : ∀ p ∈ Γ', p.1 = i → p = (i, a') := by
  induction h with
  | here =>
    intro p hp e
    rcases List.mem_cons.mp hp with rfl | hp
    · rfl
    · exact absurd (List.mem_map.mpr ⟨p, hp, e⟩) (List.nodup_cons.mp nd).1
  | next h ih =>
    intro p hp e
    rcases List.mem_cons.mp hp with rfl | hp
    · exact absurd (List.mem_map.mpr ⟨_, h.keys.2.1, e.symm⟩) (List.nodup_cons.mp nd).1
    · exact ih (List.nodup_cons.mp nd).2 p hp e
theorem St1.put {a a' : As} (S : St1 Γ H) (u : Up i a a' Γ Γ') (ho : a'.ok o') : St1 Γ' (H.set i o') := by
  have hk := u.keys
  refine ⟨by rw [hk.1]; exact S.1, fun p hp => ?_⟩
  obtain ⟨oi, ei, _⟩ := S.2 _ hk.2.1
  have hi := (List.getElem?_eq_some_iff.mp ei).1
  by_cases e : p.1 = i
  · have := u.apart S.1 p hp e
    subst this
    exact ⟨o', by rw [List.getElem?_set_self hi], ho⟩
  · rcases hk.2.2 p hp with rfl | hp
    · exact absurd rfl e
    · obtain ⟨o', e', r⟩ := S.2 p hp
      exact ⟨o', by rw [List.getElem?_set_ne (fun q => e q.symm)]; exact e', r⟩
theorem St1.sub (S : St1 Γ H) (s : Γ'.Sublist Γ) : St1 Γ' H := ⟨S.1.sublist (s.map _), fun p hp => S.2 p (s.subset hp)⟩
variable {Q : α → Ct → Prop} {E : Str → Ct → Prop}
theorem Tr.pure {a : α} (h : Q a Γ) : Tr Γ (Pure.pure a) Q E := fun H S => ⟨Γ, S, h⟩
theorem Tr.bind {m : AM β} {f : β → AM α} (h : Tr Γ m (fun b Γ' => Tr Γ' (f b) Q E) E) : Tr Γ (m >>= f) Q E := fun H S => by
  rw [run_bind]
  exact (h H S).mono (fun b H' ⟨Γ', S', h'⟩ => h' H' S') fun _ _ h => h
theorem Tr.sub {m : AM α} (s : Γ'.Sublist Γ) (h : Tr Γ' m Q E) : Tr Γ m Q E := fun H S => h H (S.sub s)
theorem Tr.drop {m : AM α} {p : Nat × As} (h : Tr Γ m Q E) : Tr (p :: Γ) m Q E := h.sub (List.sublist_cons_self ..)
theorem Tr.mono {m : AM α} {Q' : α → Ct → Prop} {E' : Str → Ct → Prop} (h : Tr Γ m Q' E') (hq : ∀ a Γ', Q' a Γ' → Q a Γ') (he : ∀ x Γ', E' x Γ' → E x Γ') : Tr Γ m Q E := fun H S =>
  (h H S).mono (fun _ _ ⟨Γ', S', q⟩ => ⟨Γ', S', hq _ _ q⟩) fun _ _ ⟨Γ', S', q⟩ => ⟨Γ', S', he _ _ q⟩
theorem Tr.noErr {m : AM α} (h : Tr Γ m Q fun _ _ => False) : Tr Γ (noErr m) Q E := fun H S => by
  have := h H S
  unfold Mine.noErr
  cases e : m H with
  | ok b H' => rw [e] at this; exact this
  | err x H' => rw [e] at this; obtain ⟨_, _, q⟩ := this; exact q.elim
  | stuck => rw [e] at this; exact this
theorem Tr.ifT {c : Bool} {m m' : AM α} (hc : c = true) (h : Tr Γ m Q E) : Tr Γ (if c = true then m else m') Q E := by rw [if_pos hc]; exact h
theorem Tr.ifF {c : Bool} {m m' : AM α} (hc : c = false) (h : Tr Γ m' Q E) : Tr Γ (if c = true then m else m') Q E := by rw [if_neg (by rw [hc]; exact Bool.false_ne_true)]; exact h
theorem Tr.err {w : Str} (h : E w Γ) : Tr Γ (fun H => .err w H) Q E := fun H S => ⟨Γ, S, h⟩
theorem Tr.ok {m : AM α} {v : α} (h : ∀ H, St1 Γ H → m H = .ok v H) (q : Q v Γ) : Tr Γ m Q E := fun H S => by rw [h H S]; exact ⟨Γ, S, q⟩
theorem Tr.new {m : AM AV} (o : AO) (h : ∀ H, St1 Γ H → m H = .ok (.loc H.length) (H ++ [o])) {Q : AV → Ct → Prop} (q : ∀ n, Q (.loc n) ((n, .is o) :: Γ)) : Tr Γ m Q E := fun H S => by
  rw [h H S]; exact ⟨_, S.push o, q _⟩
theorem Tr.put {m : AM α} {v : α} {a a' : As} (o' : AO) (u : Up i a a' Γ Γ') (ho : a'.ok o') (h : ∀ H, St1 Γ H → m H = .ok v (H.set i o')) (q : Q v Γ') : Tr Γ m Q E := fun H S => by
  rw [h H S]; exact ⟨_, S.put u ho, q⟩
end
section
variable {α β σ : Type} {Γ Γ' : Ct} {i j n d : Nat} {o o' : AO} {a b v : AV} {l r ns : List Int} {k x y : Int} {ts : List (Nat × Nat)} {E : Str → Ct → Prop} {Q : AV → Ct → Prop}
/-! the operations -/
theorem Tr.add (q : Q (.int (x + y)) Γ) : Tr Γ (abin .Add (.int x) (.int y)) Q E := .ok (fun _ _ => rfl) q
theorem Tr.subt (q : Q (.int (x - y)) Γ) : Tr Γ (abin .Sub (.int x) (.int y)) Q E := .ok (fun _ _ => rfl) q
theorem Tr.mul (h : -1099511627776 < x ∧ x < 1099511627776 ∧ -1099511627776 < y ∧ y < 1099511627776) (q : Q (.int (x * y)) Γ) : Tr Γ (abin .Mult (.int x) (.int y)) Q E := .ok (fun _ _ => if_pos h) q
theorem Tr.fdiv (h : 0 < y ∧ y < 1073741824) (q : Q (.int (x / y)) Γ) : Tr Γ (abin .FloorDiv (.int x) (.int y)) Q E := .ok (fun _ _ => by rw [← Int.fdiv_eq_ediv_of_nonneg _ (Int.le_of_lt h.1)]; exact if_pos h) q
theorem Tr.mod (h : 0 < y) (q : Q (.int (x % y)) Γ) : Tr Γ (abin .Mod (.int x) (.int y)) Q E := .ok (fun _ _ => by rw [← Int.fmod_eq_emod_of_nonneg _ (Int.le_of_lt h)]; exact if_pos h) q
theorem Tr.cat (hi : (i, As.is (.ints l)) ∈ Γ) (hj : (j, As.is (.ints r)) ∈ Γ) (hz : l.length + r.length ≤ 1000000) (q : ∀ n, Q (.loc n) ((n, .is (.ints (l ++ r))) :: Γ)) : Tr Γ (abin .Add (.loc i) (.loc j)) Q E :=
  .new _ (fun H S => by unfold abin; dsimp only; rw [S.at_ hi, S.at_ hj]; exact if_pos hz) q
theorem Tr.rep (hi : (i, As.is (.ints [k])) ∈ Γ) (hz : 0 ≤ x ∧ x ≤ 1000000) (q : ∀ n, Q (.loc n) ((n, .is (.ints (List.replicate x.toNat k))) :: Γ)) : Tr Γ (abin .Mult (.loc i) (.int x)) Q E :=
  .new _ (fun H S => by unfold abin; dsimp only; rw [S.at_ hi]; exact if_pos ⟨rfl, hz⟩) q
theorem Tr.repS {s : Str} (hi : (i, As.is (.mix [.str s])) ∈ Γ) (hz : x = 4 ∨ x = 5) (q : ∀ n, Q (.loc n) ((n, .is (.mix (List.replicate x.toNat (.str s)))) :: Γ)) : Tr Γ (abin .Mult (.loc i) (.int x)) Q E :=
  .new _ (fun H S => by unfold abin; dsimp only; rw [S.at_ hi]; exact if_pos hz) q
theorem Tr.eqI {c : Bool} (h : (x == y) = c) (q : Q (.bool c) Γ) : Tr Γ (acmp .Eq (.int x) (.int y)) Q E := .ok (fun _ _ => by rw [← h]; rfl) q
theorem Tr.neI {c : Bool} (h : (x != y) = c) (q : Q (.bool c) Γ) : Tr Γ (acmp .NotEq (.int x) (.int y)) Q E := .ok (fun _ _ => by rw [← h]; rfl) q
theorem Tr.ltI {c : Bool} (h : decide (x < y) = c) (q : Q (.bool c) Γ) : Tr Γ (acmp .Lt (.int x) (.int y)) Q E := .ok (fun _ _ => by rw [← h]; rfl) q
theorem Tr.leI {c : Bool} (h : decide (x ≤ y) = c) (q : Q (.bool c) Γ) : Tr Γ (acmp .LtE (.int x) (.int y)) Q E := .ok (fun _ _ => by rw [← h]; rfl) q
theorem Tr.gtI {c : Bool} (h : decide (y < x) = c) (q : Q (.bool c) Γ) : Tr Γ (acmp .Gt (.int x) (.int y)) Q E := .ok (fun _ _ => by rw [← h]; rfl) q
theorem Tr.isN (q : Q (.bool false) Γ) : Tr Γ (acmp .IsNot .none .none) Q E := .ok (fun _ _ => rfl) q
theorem Tr.eqL (hi : (i, As.is (.ints l)) ∈ Γ) (hj : (j, As.is (.ints r)) ∈ Γ) (e : l = r) (q : Q (.bool true) Γ) : Tr Γ (acmp .Eq (.loc i) (.loc j)) Q E :=
  .ok (fun H S => by unfold acmp; dsimp only; rw [S.at_ hi, S.at_ hj]; dsimp only; rw [decide_eq_true e]) q
theorem Tr.neL (hi : (i, As.is (.ints l)) ∈ Γ) (hj : (j, As.is (.ints r)) ∈ Γ) (e : l = r) (q : Q (.bool false) Γ) : Tr Γ (acmp .NotEq (.loc i) (.loc j)) Q E :=
  .ok (fun H S => by unfold acmp; dsimp only; rw [S.at_ hi, S.at_ hj]; dsimp only; rw [decide_eq_true e]; rfl) q
theorem Tr.eqS {s : List AV} {ds : List PD} (hi : (i, As.is (.mix s)) ∈ Γ) (hj : (j, As.is (.mix s)) ∈ Γ) (e : ∀ H, pdsOf H s = some ds) (q : Q (.bool true) Γ) : Tr Γ (acmp .Eq (.loc i) (.loc j)) Q E :=
  .ok (fun H S => by unfold acmp; dsimp only; rw [S.at_ hi, S.at_ hj]; dsimp only; rw [e H]; dsimp only; rw [decide_eq_true rfl]) q
/-- the parts of an entry -/
theorem Tr.neP {u e s c : Int} {r1 m1 r2 m2 : Nat} {raw map : List Int} (hi : (i, As.is (.mix [.int u, .loc r1, .int e, .int s, .int c, .loc m1])) ∈ Γ) (hj : (j, As.is (.mix [.int u, .loc r2, .int e, .int s, .int c, .loc m2])) ∈ Γ)
    (h1 : (r1, As.is (.ints raw)) ∈ Γ) (h2 : (r2, As.is (.ints raw)) ∈ Γ) (h3 : (m1, As.is (.ints map)) ∈ Γ) (h4 : (m2, As.is (.ints map)) ∈ Γ) (q : Q (.bool false) Γ) : Tr Γ (acmp .NotEq (.loc i) (.loc j)) Q E :=
  .ok (fun H S => by
    unfold acmp; dsimp only; rw [S.at_ hi, S.at_ hj]; dsimp only [pdsOf, pdOf]; rw [S.at_ h1, S.at_ h2, S.at_ h3, S.at_ h4]; dsimp only
    rw [decide_eq_true rfl]; rfl) q
theorem Tr.bool {c : Bool} {Q : Bool → Ct → Prop} (q : Q c Γ) : Tr Γ (abool (.bool c)) Q E := .ok (fun _ _ => rfl) q
theorem Tr.cell (h : (i, As.is (.cell (some a))) ∈ Γ) (q : Q a Γ) : Tr Γ (getCell i) Q E := .ok (fun H S => by unfold getCell; rw [S.at_ h]) q
theorem Tr.cellSet {c : Option AV} {Q : Unit → Ct → Prop} (u : Up i (.is (.cell c)) (.is (.cell (some a))) Γ Γ') (q : Q () Γ') : Tr Γ (setCell i a) Q E := .put _ u rfl (fun H S => by unfold setCell; rw [S.at_ u.keys.2.1]) q
theorem Tr.getF {C : Addr} {x : Str} {fs : List (Str × AV)} (h : (i, As.is (.inst C d)) ∈ Γ) (hd : (d, As.is (.dict fs)) ∈ Γ) (hx : fs.lookup x = some a) (q : Q a Γ) : Tr Γ (Mine.getF C x (.loc i)) Q E :=
  .ok (fun H S => by unfold Mine.getF; dsimp only; rw [S.at_ h]; dsimp only; rw [if_pos rfl, S.at_ hd]; dsimp only; rw [hx]) q
theorem Tr.setF {C : Addr} {x : Str} {fs fs' : List (Str × AV)} {Q : Unit → Ct → Prop} (h : (i, As.is (.inst C d)) ∈ Γ) (u : Up d (.is (.dict fs)) (.is (.dict fs')) Γ Γ') (hx : putA x a fs = fs') (hz : fs.length ≤ 100) (q : Q () Γ') : Tr Γ (Mine.setF C x (.loc i) a) Q E :=
  .put _ u rfl (fun H S => by unfold Mine.setF; dsimp only; rw [S.at_ h]; dsimp only; rw [if_pos rfl, S.at_ u.keys.2.1]; dsimp only; rw [if_pos hz, hx]) q
theorem Tr.getI (h : (i, As.is (.ints ns)) ∈ Γ) (hk : 0 ≤ k ∧ k < ns.length ∧ ns.length ≤ 1000000) (q : Q (.int (ns.getD k.toNat 0)) Γ) : Tr Γ (Mine.getI (.loc i) (.int k)) Q E :=
  .ok (fun H S => by unfold Mine.getI; dsimp only; rw [S.at_ h]; exact if_pos hk) q
theorem Tr.getM {s : List AV} (h : (i, As.is (.mix s)) ∈ Γ) (hk : 0 ≤ k ∧ k < 1000000) (e : s[k.toNat]? = some a) (q : Q a Γ) : Tr Γ (Mine.getI (.loc i) (.int k)) Q E :=
  .ok (fun H S => by unfold Mine.getI; dsimp only; rw [S.at_ h]; dsimp only; rw [if_pos hk, e]) q
theorem Tr.setI {Q : Unit → Ct → Prop} (u : Up i (.is (.ints ns)) (.is (.ints (ns.set k.toNat x))) Γ Γ') (hk : 0 ≤ k ∧ k < ns.length ∧ ns.length ≤ 1000000) (q : Q () Γ') : Tr Γ (Mine.setI (.loc i) (.int k) (.int x)) Q E :=
  .put _ u rfl (fun H S => by unfold Mine.setI; dsimp only; rw [S.at_ u.keys.2.1]; exact if_pos hk) q
theorem Tr.setM {s : List AV} {Q : Unit → Ct → Prop} (u : Up i (.is (.mix s)) (.is (.mix (s.set k.toNat a))) Γ Γ') (hk : 0 ≤ k ∧ k < s.length ∧ s.length ≤ 1000000) (q : Q () Γ') : Tr Γ (Mine.setI (.loc i) (.int k) a) Q E :=
  .put _ u rfl (fun H S => by unfold Mine.setI; dsimp only; rw [S.at_ u.keys.2.1]; exact if_pos hk) q
theorem Tr.take (h : (i, As.is (.ints ns)) ∈ Γ) (hk : 0 ≤ k) (hz : ns.length ≤ 1000000) (q : ∀ n, Q (.loc n) ((n, .is (.ints (ns.take k.toNat))) :: Γ)) : Tr Γ (getS (.loc i) .none (.int k)) Q E :=
  .new _ (fun H S => by unfold getS partOk; dsimp only; rw [if_pos hk]; dsimp only; rw [S.at_ h]; exact if_pos hz) q
theorem Tr.takeF (h : (i, As.is (.frozen ns)) ∈ Γ) (hk : 0 ≤ k) (hz : ns.length ≤ 1000000) (q : ∀ n, Q (.loc n) ((n, .is (.ints (ns.take k.toNat))) :: Γ)) : Tr Γ (getS (.loc i) .none (.int k)) Q E :=
  .new _ (fun H S => by unfold getS partOk; dsimp only; rw [if_pos hk]; dsimp only; rw [S.at_ h]; exact if_pos hz) q
theorem Tr.from (h : (i, As.is (.ints ns)) ∈ Γ) (hk : 0 ≤ k) (hz : ns.length ≤ 1000000) (q : ∀ n, Q (.loc n) ((n, .is (.ints (ns.drop k.toNat))) :: Γ)) : Tr Γ (getS (.loc i) (.int k) .none) Q E :=
  .new _ (fun H S => by unfold getS partOk; dsimp only; rw [if_pos hk]; dsimp only; rw [S.at_ h]; exact if_pos hz) q
theorem Tr.slice (h : (i, As.is (.ints ns)) ∈ Γ) (hk : 0 ≤ k) (hx : 0 ≤ x) (hz : ns.length ≤ 1000000) (q : ∀ n, Q (.loc n) ((n, .is (.ints ((ns.take x.toNat).drop k.toNat))) :: Γ)) : Tr Γ (getS (.loc i) (.int k) (.int x)) Q E :=
  .new _ (fun H S => by unfold getS partOk; dsimp only; rw [if_pos hk, if_pos hx]; dsimp only; rw [S.at_ h]; exact if_pos hz) q
theorem Tr.ints {s : List AV} (h : intsOf s = some ns) (hz : s.length ≤ 1000) (q : ∀ n, Q (.loc n) ((n, .is (.ints ns)) :: Γ)) : Tr Γ (newInts s) Q E :=
  .new _ (fun H S => by unfold newInts; rw [h]; exact if_pos hz) q
theorem Tr.mix {s : List AV} (hz : s.length ≤ 1000) (q : ∀ n, Q (.loc n) ((n, .is (.mix s)) :: Γ)) : Tr Γ (newMix s) Q E := .new _ (fun H S => if_pos hz) q
theorem Tr.newl (q : ∀ n, Q (.loc n) ((n, .is (.ints l)) :: Γ)) : Tr Γ (newL l) Q E := .new _ (fun H S => rfl) q
theorem Tr.len (h : (i, As.is (.ints ns)) ∈ Γ) (hz : ns.length ≤ 1000000) (q : Q (.int ns.length) Γ) : Tr Γ (aLen [.loc i]) Q E := .ok (fun H S => by unfold aLen; dsimp only; rw [S.at_ h]; exact if_pos hz) q
theorem Tr.copy (h : (i, As.is (.ints ns)) ∈ Γ) (hz : ns.length ≤ 1000000) (q : ∀ n, Q (.loc n) ((n, .is (.ints ns)) :: Γ)) : Tr Γ (aCopy [.loc i]) Q E := .new _ (fun H S => by unfold aCopy; dsimp only; rw [S.at_ h]; exact if_pos hz) q
theorem Tr.abs (q : Q (.int (if k < 0 then -k else k)) Γ) : Tr Γ (aAbs [.int k]) Q E := .ok (fun _ _ => rfl) q
theorem Tr.min (q : Q (.int (if y < x then y else x)) Γ) : Tr Γ (aMin [.int x, .int y]) Q E := .ok (fun _ _ => rfl) q
theorem Tr.lst {Q : Unit → Ct → Prop} (h : (i, As.is (.ints ns)) ∈ Γ) (q : Q () Γ) : Tr Γ (isList (.loc i)) Q E := .ok (fun H S => by unfold isList; dsimp only; rw [S.at_ h]) q
theorem Tr.lstM {Q : Unit → Ct → Prop} {s : List AV} (h : (i, As.is (.mix s)) ∈ Γ) (q : Q () Γ) : Tr Γ (isList (.loc i)) Q E := .ok (fun H S => by unfold isList; dsimp only; rw [S.at_ h]) q
theorem Tr.append {s : List AV} (u : Up i (.is (.mix s)) (.is (.mix (s ++ [a]))) Γ Γ') (hz : s.length ≤ 1000) (q : Q .none Γ') : Tr Γ (aAppend (.loc i) [a]) Q E :=
  .put _ u rfl (fun H S => by unfold aAppend; dsimp only; rw [S.at_ u.keys.2.1]; exact if_pos hz) q
theorem Tr.extend (hj : (j, As.is (.ints (k :: r))) ∈ Γ) (u : Up i (.is (.ints l)) (.is (.ints (l ++ (k :: r)))) Γ Γ') (hz : l.length + r.length ≤ 1000000) (q : Q .none Γ') : Tr Γ (aExtend (.loc i) [.loc j]) Q E :=
  .put _ u rfl (fun H S => by unfold aExtend; dsimp only; rw [S.at_ u.keys.2.1, S.at_ hj]; exact if_pos hz) q
/-! calls -/
theorem Tr.a1 {α : Type} {Q : Option AV → Ct → Prop} {f : AV → AM (Option AV)} (h : Tr Γ (f a) Q E) : Tr Γ (theArgs 1 (fun l => match l with | [x] => f x | _ => fun _ => .stuck) [a]) Q E := h
theorem Tr.nw {C : Addr} {s : List AV} {mb : List AV → AM (Option AV)} {n : Nat} (hn : s.length + 1 = n) (h : ∀ d, Tr ((d + 1, .is (.inst C d)) :: (d, .is (.dict [])) :: Γ) (mb (.loc (d + 1) :: s)) (fun o Γ' => o = none ∧ Q (.loc (d + 1)) Γ') E) : Tr Γ (aNew C n mb s) Q E := fun H S => by
  unfold aNew
  rw [if_pos hn, run_bind]
  have S2 : St1 ((H.length + 1, .is (.inst C H.length)) :: (H.length, .is (.dict [])) :: Γ) (H ++ [.dict []] ++ [.inst C H.length]) := by
    have := (S.push (.dict [])).push (.inst C H.length)
    rwa [show (H ++ [AO.dict []]).length = H.length + 1 by simp] at this
  refine (h H.length _ S2).mono (fun o H' ⟨Γ', S', e, q⟩ => ?_) fun _ _ h => h
  subst e
  exact ⟨Γ', S', q⟩
theorem Tr.word {p : Nat × Nat} {mb : AM AV} (u : Up i (.is (.tab ts)) (.is (.tab (p :: ts))) Γ Γ') (hp : p ∉ ts) (h : Tr Γ' mb (fun _ Γ' => Q (.str "done") Γ') fun x Γ' => Q (.str x) Γ') : Tr Γ (wordM i p mb) Q E := fun H S => by
  unfold wordM wordRes
  rw [S.at_ u.keys.2.1]
  dsimp only
  rw [if_neg hp]
  have := h _ (S.put u (o' := .tab (p :: ts)) rfl)
  revert this
  cases mb (H.set i (.tab (p :: ts))) with
  | ok b H' => exact id
  | err x H' => exact id
  | stuck => exact id
end
end Mine
end

/-! ## PL2 -/
section
open PySem PySem.W PySem.Calls PyProof.Rows
namespace Mine
noncomputable def Imp (Γ Γ' : Ct) : Prop := ∀ H, St1 Γ H → St1 Γ' H
inductive Pull (p : Nat × As) : Ct → Ct → Prop
  | here {Γ : Ct} : Pull p (p :: Γ) Γ
  | next {q : Nat × As} {Γ Δ : Ct} (h : Pull p Γ Δ) : Pull p (q :: Γ) (q :: Δ)
section
variable {α β σ : Type} {Γ Γ' Δ : Ct} {H : AH} {i j n d : Nat} {o o' : AO} {a b : AV} {l r ns : List Int} {k x y : Int} {ts : List (Nat × Nat)} {p : Nat × As}
theorem Imp.rfl : Imp Γ Γ := fun _ S => S
theorem Imp.trans {Γ'' : Ct} (h : Imp Γ Γ') (h' : Imp Γ' Γ'') : Imp Γ Γ'' := fun H S => h' H (h H S)
theorem Imp.drop (h : Imp Γ Γ') : Imp (p :: Γ) Γ' := fun H S => h H (S.sub (List.sublist_cons_self ..))
theorem Pull.perm (h : Pull p Γ Δ) : Γ.Perm (p :: Δ) := by
  induction h with
  | here => exact .refl _
  | next _ ih => exact (ih.cons _).trans (.swap ..)
theorem St1.perm (S : St1 Γ H) (h : Γ.Perm Γ') : St1 Γ' H := ⟨(h.map _).nodup_iff.mp S.1, fun p hp => S.2 p (h.mem_iff.mpr hp)⟩
theorem Pull.imp (h : Pull p Γ Δ) : Imp Γ (p :: Δ) := fun H S => S.perm h.perm
theorem Pull.back (h : Pull p Γ Δ) : Imp (p :: Δ) Γ := fun H S => S.perm h.perm.symm
theorem Imp.cons (h : Imp Γ Γ') (hk : ∀ k, k ∈ Γ'.map (·.1) → k ∈ Γ.map (·.1)) : Imp (p :: Γ) (p :: Γ') := fun H S => by
  have z := h H (S.sub (List.sublist_cons_self ..))
  refine ⟨List.nodup_cons.mpr ⟨fun q => (List.nodup_cons.mp S.1).1 (hk _ q), z.1⟩, fun q hq => ?_⟩
  rcases List.mem_cons.mp hq with rfl | hq
  · exact S.2 _ (.head _)
  · exact z.2 q hq
theorem Imp.as {a a' : As} (h : ∀ o, a.ok o → a'.ok o) : Imp ((i, a) :: Γ) ((i, a') :: Γ) := fun H S => ⟨S.1, fun q hq => by
  rcases List.mem_cons.mp hq with rfl | hq
  · obtain ⟨o, e, r⟩ := S.2 _ (.head _)
    exact ⟨o, e, h o r⟩
  · exact S.2 q (.tail _ hq)⟩
variable {Q : α → Ct → Prop} {E : Str → Ct → Prop}
theorem Tr.imp {m : AM α} (h : Imp Γ Γ') (t : Tr Γ' m Q E) : Tr Γ m Q E := fun H S => t H (h H S)
theorem Tr.wk {m : AM α} (t : Tr Γ m (fun a Γ' => ∃ Γ'', Imp Γ' Γ'' ∧ Q a Γ'') E) : Tr Γ m Q E := fun H S => (t H S).mono (fun a H' ⟨Γ', S', Γ'', h, q⟩ => ⟨Γ'', h _ S', q⟩) fun _ _ h => h
theorem Imp.sub (s : Γ'.Sublist Γ) : Imp Γ Γ' := fun H S => S.sub s
theorem Tr.pull {m : AM α} (h : Pull p Γ Δ) (t : Tr (p :: Δ) m Q E) : Tr Γ m Q E := t.imp h.imp
theorem Tr.fin {m : AM α} {v : α} (t : Tr Γ m (fun a Γ'' => a = v ∧ Imp Γ'' Γ') E) (q : Q v Γ') : Tr Γ m Q E := fun H S =>
  (t H S).mono (fun a H' ⟨Γ'', S', e, h⟩ => ⟨Γ', h _ S', e ▸ q⟩) fun _ _ h => h
theorem St1.keep (S : St1 Γ H) {w : As} (h : (i, w) ∈ Γ) (ho : w.ok o) : St1 Γ (H.set i o) := by
  have key : ∀ {Γ : Ct}, (i, w) ∈ Γ → Up i w w Γ Γ := fun {Γ} => by
    induction Γ with
    | nil => intro h; cases h
    | cons p Γ ih =>
      intro h
      rcases List.mem_cons.mp h with e | h
      · subst e; exact .here
      · exact .next (ih h)
  exact S.put (key h) ho
/-! loops -/
theorem loopM_Tr {mb : σ → Int → AM σ} {J : List Int → σ → Ct → Prop} : ∀ (rest done : List Int) (a : σ) (Γ : Ct) (Q : σ → Ct → Prop), J done a Γ →
    (∀ done' k rest' a Γ, done ++ rest = done' ++ k :: rest' → J done' a Γ → Tr Γ (mb a k) (fun b Γ' => ∃ Γ'', Imp Γ' Γ'' ∧ J (done' ++ [k]) b Γ'') E) → (∀ b Γ', J (done ++ rest) b Γ' → Q b Γ') → Tr Γ (loopM mb rest a) Q E
  | [], done, a, Γ, Q, h, _, q => Tr.pure (q a Γ (by rw [List.append_nil]; exact h))
  | k :: rest, done, a, Γ, Q, h, hs, q => by
    refine Tr.bind (Tr.mono (E' := E) (Q' := fun b Γ' => Tr Γ' (loopM mb rest b) Q E) (fun H S => ?_) (fun _ _ h => h) fun _ _ h => h)
    refine (hs done k rest a Γ rfl h H S).mono (fun b H' ⟨Γ', S', Γ'', i, j⟩ => ⟨Γ'', i _ S', ?_⟩) fun _ _ h => h
    refine loopM_Tr rest (done ++ [k]) b Γ'' Q j (fun d' k' r' a' Γ₂ e => hs d' k' r' a' Γ₂ (by rw [← e]; simp)) fun b' Γ₂ j' => q b' Γ₂ (by simpa using j')
theorem loopE_Tr {mb : σ → Int → Int → AM σ} {J : List Int → σ → Ct → Prop} : ∀ (rest done : List Int) (a : σ) (Γ : Ct) (Q : σ → Ct → Prop), J done a Γ →
    (∀ done' k rest' a Γ, done ++ rest = done' ++ k :: rest' → J done' a Γ → Tr Γ (mb a done'.length k) (fun b Γ' => ∃ Γ'', Imp Γ' Γ'' ∧ J (done' ++ [k]) b Γ'') E) → (∀ b Γ', J (done ++ rest) b Γ' → Q b Γ') → Tr Γ (loopE mb done.length rest a) Q E
  | [], done, a, Γ, Q, h, _, q => Tr.pure (q a Γ (by rw [List.append_nil]; exact h))
  | k :: rest, done, a, Γ, Q, h, hs, q => by
    refine Tr.bind (Tr.mono (E' := E) (Q' := fun b Γ' => Tr Γ' (loopE mb (done.length + 1) rest b) Q E) (fun H S => ?_) (fun _ _ h => h) fun _ _ h => h)
    refine (hs done k rest a Γ rfl h H S).mono (fun b H' ⟨Γ', S', Γ'', i, j⟩ => ⟨Γ'', i _ S', ?_⟩) fun _ _ h => h
    have := loopE_Tr rest (done ++ [k]) b Γ'' Q j (fun d' k' r' a' Γ₂ e => hs d' k' r' a' Γ₂ (by rw [← e]; simp)) fun b' Γ₂ j' => q b' Γ₂ (by simpa using j')
    rwa [List.length_append, List.length_singleton] at this
theorem around {m : AM σ} {f : AH → Res σ} {Q : σ → Ct → Prop} (t : Tr ((j, .is (.frozen ns)) :: Δ) m (fun b Γ' => ∃ Δ', Γ' = (j, .is (.frozen ns)) :: Δ' ∧ Q b ((j, .is (.ints ns)) :: Δ')) fun _ _ => False)
    (S : St1 ((j, .is (.ints ns)) :: Δ) H) (hf : ∀ b H', m (H.set j (.frozen ns)) = .ok b H' → f H = .ok b (H'.set j (.ints ns))) : (f H).run (fun a H' => ∃ Γ', St1 Γ' H' ∧ Q a Γ') (fun x H' => ∃ Γ', St1 Γ' H' ∧ E x Γ') := by
  have z := t _ (S.put (o' := .frozen ns) .here rfl)
  cases e : m (H.set j (.frozen ns)) with
  | ok b H' =>
    rw [e] at z
    obtain ⟨_, S', Δ', rfl, q⟩ := z
    rw [hf b H' e]
    exact ⟨_, S'.put (a' := .is (.ints ns)) .here rfl, q⟩
  | err x H' => rw [e] at z; obtain ⟨_, _, q⟩ := z; exact q.elim
  | stuck => rw [e] at z; exact z.elim
theorem Tr.forInts {mb : σ → Int → AM σ} {J : List Int → σ → Ct → Prop} {a₀ : σ} {Q : σ → Ct → Prop} (h0 : J [] a₀ Δ)
    (hs : ∀ done k rest a Δ, ns = done ++ k :: rest → J done a Δ → Tr ((j, .is (.frozen ns)) :: Δ) (mb a k) (fun b Γ' => ∃ Δ', Imp Γ' ((j, .is (.frozen ns)) :: Δ') ∧ J (done ++ [k]) b Δ') (fun _ _ => False))
    (q : ∀ b Δ', J ns b Δ' → Q b ((j, .is (.ints ns)) :: Δ')) : Tr ((j, .is (.ints ns)) :: Δ) (Mine.forInts mb a₀ (.loc j)) Q E := fun H S => by
  refine around (f := Mine.forInts mb a₀ (.loc j)) (loopM_Tr (mb := mb) (J := fun d a Γ => ∃ Δ, Γ = (j, .is (.frozen ns)) :: Δ ∧ J d a Δ) ns [] a₀ _ _ ⟨Δ, rfl, h0⟩ ?_ ?_) S fun b H' e => ?_
  · rintro d' k r' a _ e ⟨Δ, rfl, hj⟩
    exact (hs d' k r' a Δ e hj).mono (fun b Γ' ⟨Δ', i, hj'⟩ => ⟨_, i, Δ', rfl, hj'⟩) fun _ _ h => h
  · rintro b _ ⟨Δ', rfl, hj⟩
    exact ⟨Δ', rfl, q b Δ' hj⟩
  · unfold Mine.forInts
    dsimp only
    rw [S.at_ (.head _)]
    dsimp only
    rw [e]
theorem Tr.forEnum {mb : σ → Int → Int → AM σ} {J : List Int → σ → Ct → Prop} {a₀ : σ} {Q : σ → Ct → Prop} (h0 : J [] a₀ Δ)
    (hs : ∀ done k rest a Δ, ns = done ++ k :: rest → J done a Δ → Tr ((j, .is (.frozen ns)) :: Δ) (mb a done.length k) (fun b Γ' => ∃ Δ', Imp Γ' ((j, .is (.frozen ns)) :: Δ') ∧ J (done ++ [k]) b Δ') (fun _ _ => False))
    (q : ∀ b Δ', J ns b Δ' → Q b ((j, .is (.ints ns)) :: Δ')) : Tr ((j, .is (.ints ns)) :: Δ) (Mine.forEnum mb a₀ (.loc j)) Q E := fun H S => by
  refine around (f := Mine.forEnum mb a₀ (.loc j)) (loopE_Tr (mb := mb) (J := fun d a Γ => ∃ Δ, Γ = (j, .is (.frozen ns)) :: Δ ∧ J d a Δ) ns [] a₀ _ _ ⟨Δ, rfl, h0⟩ ?_ ?_) S fun b H' e => ?_
  · rintro d' k r' a _ e ⟨Δ, rfl, hj⟩
    exact (hs d' k r' a Δ e hj).mono (fun b Γ' ⟨Δ', i, hj'⟩ => ⟨_, i, Δ', rfl, hj'⟩) fun _ _ h => h
  · rintro b _ ⟨Δ', rfl, hj⟩
    exact ⟨Δ', rfl, q b Δ' hj⟩
  · unfold Mine.forEnum
    dsimp only
    rw [S.at_ (.head _)]
    dsimp only
    have e : loopE mb 0 ns a₀ (H.set j (.frozen ns)) = _ := e
    rw [e]
/-- a comprehension: nothing changes but what is thrown away -/
theorem compM_Tr {me : Int → AM AV} {R : Int → Int → Prop} : ∀ (ks : List Int) (Q : List Int → Ct → Prop), (∀ k ∈ ks, Tr Γ (me k) (fun a Γ' => Imp Γ' Γ ∧ ∃ i, a = .int i ∧ R k i) E) →
    (∀ l : List Int, l.length = ks.length → (∀ p ∈ ks.zip l, R p.1 p.2) → Q l Γ) → Tr Γ (compM me ks) Q E
  | [], Q, _, q => Tr.pure (q [] rfl (fun _ hp => by cases hp))
  | k :: ks, Q, h, q => by
    refine Tr.bind fun H S => (h k (.head _) H S).mono (fun a H' ⟨Γ', S', i, x, ea, hr⟩ => ⟨Γ, i _ S', ?_⟩) fun _ _ h => h
    subst ea
    refine Tr.bind (Tr.ok (v := x) (fun _ _ => rfl) ?_)
    refine Tr.bind (compM_Tr ks _ (fun k hk => h k (.tail _ hk)) fun l hl hp => Tr.pure (q (x :: l) (by simp [hl]) fun p hp' => ?_))
    rcases List.mem_cons.mp hp' with rfl | hp'
    · exact hr
    · exact hp p hp'
theorem Tr.compR {me : Int → AM AV} {R : Int → Int → Prop} {s : Int} {Q : List Int → Ct → Prop} (hz : n ≤ 1000000) (h : ∀ k ∈ rangeIs x s n, Tr Γ (me k) (fun a Γ' => Imp Γ' Γ ∧ ∃ i, a = .int i ∧ R k i) fun _ _ => False)
    (q : ∀ l : List Int, l.length = n → (∀ p ∈ (rangeIs x s n).zip l, R p.1 p.2) → Q l Γ) : Tr Γ (Mine.compR me (x, s, n)) Q E := fun H S => by
  have z := (Tr.noErr (E := E) (compM_Tr (rangeIs x s n) Q h fun l hl => q l (hl.trans rangeIs_len))) H S
  unfold Mine.compR
  dsimp only
  by_cases hs : s = 1
  · subst hs; rw [if_pos ⟨hz, rfl⟩]; exact z
  · rw [if_neg fun q => hs q.2, if_pos hz]; exact z
theorem Tr.compL {me : Int → AM AV} {R : Int → Int → Prop} {Q : AV → Ct → Prop} (hz : ns.length ≤ 1000000) (h : ∀ k ∈ ns, Tr ((j, .is (.frozen ns)) :: Δ) (me k) (fun a Γ' => Imp Γ' ((j, .is (.frozen ns)) :: Δ) ∧ ∃ i, a = .int i ∧ R k i) fun _ _ => False)
    (q : ∀ (n : Nat) (l : List Int), l.length = ns.length → (∀ p ∈ ns.zip l, R p.1 p.2) → Q (.loc n) ((n, .is (.ints l)) :: (j, .is (.ints ns)) :: Δ)) : Tr ((j, .is (.ints ns)) :: Δ) (Mine.compL me (.loc j)) Q E := fun H S => by
  have z := compM_Tr ns (fun l Γ' => Γ' = (j, .is (.frozen ns)) :: Δ ∧ l.length = ns.length ∧ ∀ p ∈ ns.zip l, R p.1 p.2) h (fun l hl hp => ⟨rfl, hl, hp⟩) _ (S.put (o' := .frozen ns) .here rfl)
  unfold Mine.compL
  dsimp only
  rw [S.at_ (.head _)]
  dsimp only
  rw [if_pos hz]
  cases e : compM me ns (H.set j (.frozen ns)) with
  | ok l H' =>
    rw [e] at z
    obtain ⟨_, S', rfl, hl, hp⟩ := z
    exact ⟨_, (S'.put (o' := .ints ns) (a' := .is (.ints ns)) .here rfl).push (.ints l), q _ l hl hp⟩
  | err x H' => rw [e] at z; obtain ⟨_, _, q⟩ := z; exact q.elim
  | stuck => rw [e] at z; exact z.elim
end
section
variable {Γ Γ' Δ : Ct} {i j n d : Nat} {o o' : AO} {a a1 a2 a3 a4 : AV} {E : Str → Ct → Prop} {Q : AV → Ct → Prop}
/-! calls -/
theorem Tr.m1 {P : AV → AM (Option AV)} (h : Tr Γ (P a1) (fun o Γ' => Q (outOf o) Γ') E) : Tr Γ (do let o ← theArgs 1 (args1 P) [a1]; Pure.pure (outOf o)) Q E := Tr.bind (h.mono (fun _ _ q => Tr.pure q) fun _ _ h => h)
theorem Tr.m2 {P : AV → AV → AM (Option AV)} (h : Tr Γ (P a1 a2) (fun o Γ' => Q (outOf o) Γ') E) : Tr Γ (do let o ← theArgs 2 (args2 P) [a1, a2]; Pure.pure (outOf o)) Q E := Tr.bind (h.mono (fun _ _ q => Tr.pure q) fun _ _ h => h)
theorem Tr.m3 {P : AV → AV → AV → AM (Option AV)} (h : Tr Γ (P a1 a2 a3) (fun o Γ' => Q (outOf o) Γ') E) : Tr Γ (do let o ← theArgs 3 (args3 P) [a1, a2, a3]; Pure.pure (outOf o)) Q E := Tr.bind (h.mono (fun _ _ q => Tr.pure q) fun _ _ h => h)
theorem Tr.m4 {P : AV → AV → AV → AV → AM (Option AV)} (h : Tr Γ (P a1 a2 a3 a4) (fun o Γ' => Q (outOf o) Γ') E) : Tr Γ (do let o ← theArgs 4 (args4 P) [a1, a2, a3, a4]; Pure.pure (outOf o)) Q E := Tr.bind (h.mono (fun _ _ q => Tr.pure q) fun _ _ h => h)
theorem St1.push1 {H : AH} (S : St1 Γ H) {k : Nat} (hk : k = H.length) (o : AO) : St1 ((k, .is o) :: Γ) (H ++ [o]) := hk ▸ S.push o
theorem Tr.aftN {m : AM (Option AV)} {Q : Option AV → Ct → Prop} (h : Tr Γ m Q E) : Tr Γ (after none m) Q E := h
theorem Tr.aftS {m : AM (Option AV)} {Q : Option AV → Ct → Prop} (h : Q (some a) Γ) : Tr Γ (after (some a) m) Q E := Tr.pure h
theorem Tr.orS {m : AM AV} (h : Q a Γ) : Tr Γ (orElse (some a) m) Q E := Tr.pure h
theorem Tr.orN {m : AM AV} (h : Tr Γ m Q E) : Tr Γ (orElse none m) Q E := h
theorem Tr.pair {Q : AV × AV → Ct → Prop} (h : Q (a1, a2) Γ) : Tr Γ (pair [a1, a2]) Q E := Tr.pure h
/-! the draws' box -/
theorem Pull.of_mem {p : Nat × As} : ∀ {Γ : Ct}, p ∈ Γ → ∃ Δ, Pull p Γ Δ ∧ ∀ x ∈ Γ, x ≠ p → x ∈ Δ
  | q :: Γ, h => by
    by_cases e : p = q
    · subst e; exact ⟨Γ, .here, fun x hx ne => (List.mem_cons.mp hx).resolve_left ne⟩
    · obtain ⟨Δ, u, k⟩ := Pull.of_mem ((List.mem_cons.mp h).resolve_left e)
      refine ⟨q :: Δ, .next u, fun x hx ne => ?_⟩
      rcases List.mem_cons.mp hx with rfl | hx
      · exact .head _
      · exact .tail _ (k x hx ne)
theorem Tr.box {m : AM AV} {b q : Nat} {v : AV} (hb : (b, As.box q) ∈ Γ) (hq : (q, As.que) ∈ Γ) (h : ∀ (s : Int) (ns : List Int) (Δ : Ct), 0 ≤ s → s < 1000003 → ns.length ≤ 40 → (∀ k ∈ ns, 0 ≤ k) →
    Tr ((b, .is (.mix [.loc q, .int s])) :: (q, .is (.ints ns)) :: Δ) m (fun a Γ' => ∃ (s' : Int) (ns' : List Int), 0 ≤ s' ∧ s' < 1000003 ∧ ns'.length ≤ 40 ∧ (∀ k ∈ ns', 0 ≤ k) ∧ Γ' = (b, .is (.mix [.loc q, .int s'])) :: (q, .is (.ints ns')) :: Δ ∧ Q a Γ) E) : Tr Γ m Q E := fun H S => by
  obtain ⟨_, eb, s, rfl, s0, s1⟩ := S.2 _ hb
  obtain ⟨_, eq, ns, rfl, n0, n1⟩ := S.2 _ hq
  obtain ⟨Δ₁, u₁, k₁⟩ := Pull.of_mem hb
  obtain ⟨Δ, u₂, _⟩ := Pull.of_mem (k₁ _ hq (fun e => by cases (Prod.mk.inj e).2))
  have S₁ := u₁.imp H S
  have hp : ((b, As.box q) :: Δ₁).Perm ((b, As.box q) :: (q, As.que) :: Δ) := u₂.perm.cons _
  have S₂ := S₁.perm hp
  have S₃ : St1 ((b, .is (.mix [.loc q, .int s])) :: (q, .is (.ints ns)) :: Δ) H := ⟨S₂.1, fun p hp => by
    rcases List.mem_cons.mp hp with rfl | hp
    · exact ⟨_, eb, rfl⟩
    · rcases List.mem_cons.mp hp with rfl | hp
      · exact ⟨_, eq, rfl⟩
      · exact S₂.2 p (.tail _ (.tail _ hp))⟩
  refine (h s ns Δ s0 s1 n0 n1 H S₃).mono (fun a H' ⟨Γ', S', s', ns', a0, a1, a2, a3, e, c⟩ => ⟨Γ, ?_, c⟩) fun _ _ h => h
  subst e
  refine u₁.back _ (St1.perm (Γ := (b, As.box q) :: (q, As.que) :: Δ) ⟨S'.1, fun p hp => ?_⟩ hp.symm)
  rcases List.mem_cons.mp hp with rfl | hp
  · obtain ⟨o, e, r⟩ := S'.2 _ (.head _); exact ⟨o, e, s', r, a0, a1⟩
  · rcases List.mem_cons.mp hp with rfl | hp
    · obtain ⟨o, e, r⟩ := S'.2 _ (.tail _ (.head _)); exact ⟨o, e, ns', r, a2, a3⟩
    · exact S'.2 p (.tail _ (.tail _ hp))
theorem T202 {b q : Nat} {many : Int} (hb : (b, As.box q) ∈ Γ) (hq : (q, As.que) ∈ Γ) (hm : 0 < many) (c : ∀ r : Int, 0 ≤ r → r < many → Q (.int r) Γ) : Tr Γ (M202 [.loc b, .int many]) Q E := by
  refine Tr.box (v := .none) hb hq fun s ns Δ s0 s1 n0 n1 => Tr.m2 (P := P202) ?_
  unfold P202
  have fin : ∀ t : Int, 0 ≤ t % many ∧ t % many < many := fun t => ⟨Int.emod_nonneg _ (Int.ne_of_gt hm), Int.emod_lt_of_pos _ hm⟩
  have g0 : ([AV.loc q, AV.int s] : List AV)[(0 : Int).toNat]? = some (AV.loc q) := rfl
  have g1 : ([AV.loc q, AV.int s] : List AV)[(1 : Int).toNat]? = some (AV.int s) := rfl
  cases ns with
  | cons k ns =>
    have hl : ns.length + 1 ≤ 40 := n0
    with_reducible refine Tr.bind ?_
    with_reducible refine Tr.bind ?_
    with_reducible refine Tr.bind ?_
    with_reducible refine Tr.bind ?_
    with_reducible refine Tr.bind ?_
    with_reducible refine Tr.pure ?_
    with_reducible refine Tr.bind ?_
    with_reducible refine Tr.pure ?_
    (with_reducible refine Tr.getM (by (repeat (first | assumption | exact List.mem_cons_self | apply List.mem_cons_of_mem))) ?_ (by with_unfolding_all exact g0) ?_); (next => omega)
    with_reducible refine Tr.bind ?_
    with_reducible refine Tr.pure ?_
    with_reducible refine Tr.pure ?_
    (with_reducible refine Tr.len (by (repeat (first | assumption | exact List.mem_cons_self | apply List.mem_cons_of_mem))) ?_ ?_); (next => omega)
    with_reducible refine Tr.bind ?_
    with_reducible refine Tr.pure ?_
    with_reducible refine Tr.bind ?_
    (with_reducible refine Tr.gtI (c := true) ?_ ?_); (next => exact decide_eq_true (by (simp only [List.length_append, List.length_cons, List.length_nil, List.length_replicate, List.length_take, List.length_drop, List.length_set]; omega)))
    with_reducible refine Tr.bool ?_
    with_reducible refine Tr.bind ?_
    (with_reducible refine Tr.ifT ?_ ?_); (next => rfl)
    with_reducible refine Tr.bind ?_
    with_reducible refine Tr.bind ?_
    with_reducible refine Tr.bind ?_
    with_reducible refine Tr.bind ?_
    with_reducible refine Tr.pure ?_
    with_reducible refine Tr.bind ?_
    with_reducible refine Tr.pure ?_
    (with_reducible refine Tr.getM (by (repeat (first | assumption | exact List.mem_cons_self | apply List.mem_cons_of_mem))) ?_ (by with_unfolding_all exact g0) ?_); (next => omega)
    with_reducible refine Tr.bind ?_
    with_reducible refine Tr.lst (by (repeat (first | assumption | exact List.mem_cons_self | apply List.mem_cons_of_mem))) ?_
    with_reducible refine Tr.bind ?_
    with_reducible refine Tr.bind ?_
    with_reducible refine Tr.pure ?_
    with_reducible refine Tr.bind ?_
    with_reducible refine Tr.pure ?_
    with_reducible refine Tr.pure ?_
    refine Tr.put (v := .int k) (i := q) (a' := .is (.ints ns)) (.ints ns) (by (repeat (first | exact Up.here | apply Up.next))) rfl (fun H S => ?_) ?_
    · rw [show aPop (.loc q) [.int 0] H = (match H[q]? with | some (.ints (k :: ns)) => if ns.length ≤ 1000000 then .ok (.int k) (H.set q (.ints ns)) else .stuck | _ => .stuck) from rfl, S.at_ (.tail _ (.head _))]; exact if_pos (by omega)
    · with_reducible refine Tr.bind ?_
      with_reducible refine Tr.pure ?_
      (with_reducible refine Tr.mod ?_ ?_); (next => omega)
      with_reducible refine Tr.pure ?_
      with_reducible refine Tr.aftS ?_
      exact ⟨s, ns, s0, s1, Nat.le_of_succ_le n0, fun x hx => n1 x (.tail _ hx), rfl, c _ (fin _).1 (fin _).2⟩
  | nil =>
    with_reducible refine Tr.bind ?_
    with_reducible refine Tr.bind ?_
    with_reducible refine Tr.bind ?_
    with_reducible refine Tr.bind ?_
    with_reducible refine Tr.bind ?_
    with_reducible refine Tr.pure ?_
    with_reducible refine Tr.bind ?_
    with_reducible refine Tr.pure ?_
    (with_reducible refine Tr.getM (by (repeat (first | assumption | exact List.mem_cons_self | apply List.mem_cons_of_mem))) ?_ (by with_unfolding_all exact g0) ?_); (next => omega)
    with_reducible refine Tr.bind ?_
    with_reducible refine Tr.pure ?_
    with_reducible refine Tr.pure ?_
    (with_reducible refine Tr.len (by (repeat (first | assumption | exact List.mem_cons_self | apply List.mem_cons_of_mem))) ?_ ?_); (next => omega)
    with_reducible refine Tr.bind ?_
    with_reducible refine Tr.pure ?_
    with_reducible refine Tr.bind ?_
    (with_reducible refine Tr.gtI (c := false) ?_ ?_); (next => exact decide_eq_false (by (simp only [List.length_append, List.length_cons, List.length_nil, List.length_replicate, List.length_take, List.length_drop, List.length_set]; omega)))
    with_reducible refine Tr.bool ?_
    with_reducible refine Tr.bind ?_
    (with_reducible refine Tr.ifF ?_ ?_); (next => rfl)
    with_reducible refine Tr.pure ?_
    with_reducible refine Tr.aftN ?_
    with_reducible refine Tr.bind ?_
    with_reducible refine Tr.bind ?_
    with_reducible refine Tr.bind ?_
    with_reducible refine Tr.bind ?_
    with_reducible refine Tr.bind ?_
    with_reducible refine Tr.bind ?_
    with_reducible refine Tr.pure ?_
    with_reducible refine Tr.bind ?_
    with_reducible refine Tr.pure ?_
    (with_reducible refine Tr.getM (by (repeat (first | assumption | exact List.mem_cons_self | apply List.mem_cons_of_mem))) ?_ (by with_unfolding_all exact g1) ?_); (next => omega)
    with_reducible refine Tr.bind ?_
    with_reducible refine Tr.pure ?_
    (with_reducible refine Tr.mul ?_ ?_); (next => omega)
    with_reducible refine Tr.bind ?_
    with_reducible refine Tr.pure ?_
    with_reducible refine Tr.add ?_
    with_reducible refine Tr.bind ?_
    with_reducible refine Tr.pure ?_
    (with_reducible refine Tr.mod ?_ ?_); (next => omega)
    with_reducible refine Tr.bind ?_
    with_reducible refine Tr.pure ?_
    with_reducible refine Tr.bind ?_
    with_reducible refine Tr.pure ?_
    have hs : (0 : Int) ≤ (s * 4099 + 12301) % 1000003 ∧ (s * 4099 + 12301) % 1000003 < 1000003 := by omega
    refine Tr.setM (s := [.loc q, .int s]) .here ⟨by omega, by simp, by simp⟩ ?_
    have g2 : (([AV.loc q, AV.int s] : List AV).set (1 : Int).toNat (AV.int ((s * 4099 + 12301) % 1000003)))[(1 : Int).toNat]? = some (AV.int ((s * 4099 + 12301) % 1000003)) := rfl
    with_reducible refine Tr.bind ?_
    with_reducible refine Tr.bind ?_
    with_reducible refine Tr.bind ?_
    with_reducible refine Tr.bind ?_
    with_reducible refine Tr.pure ?_
    with_reducible refine Tr.bind ?_
    with_reducible refine Tr.pure ?_
    (with_reducible refine Tr.getM (by (repeat (first | assumption | exact List.mem_cons_self | apply List.mem_cons_of_mem))) ?_ (by with_unfolding_all exact g2) ?_); (next => omega)
    with_reducible refine Tr.bind ?_
    with_reducible refine Tr.pure ?_
    (with_reducible refine Tr.fdiv ?_ ?_); (next => omega)
    with_reducible refine Tr.bind ?_
    with_reducible refine Tr.pure ?_
    (with_reducible refine Tr.mod ?_ ?_); (next => omega)
    with_reducible refine Tr.pure ?_
    exact ⟨_, [], hs.1, hs.2, by decide, (fun _ h => nomatch h), rfl, c _ (fin _).1 (fin _).2⟩
end
end Mine
end

/-! ## PL3 -/
section
open PySem PySem.W PySem.Calls PyProof.Rows
namespace Mine
/-! the two kinds of object: their fields -/
noncomputable def dk (B K R E : Int) (ro : Bool) (x : Nat) : List (Str × AV) := [("blocks", .int B), ("block", .int K), ("record", .int R), ("entries", .int E), ("is_read_only", .bool ro), ("data", .loc x)]
noncomputable def en (u : Int) (r : Nat) (e s c : Int) (m : Nat) : List (Str × AV) := [("user", .int u), ("raw", .loc r), ("extent", .int e), ("spare", .int s), ("count", .int c), ("map", .loc m)]
section
variable {Γ Γ' Δ : Ct} {i j n d dd x e de r m o : Nat} {B K R N u ext sp ct : Int} {ro ro' : Bool} {a a1 a2 a3 a4 : AV} {E : Str → Ct → Prop} {Q : AV → Ct → Prop}
theorem dk_blocks : (dk B K R N ro x).lookup ("blocks" : Str) = some (.int B) := by kernel_rfl
theorem dk_block : (dk B K R N ro x).lookup ("block" : Str) = some (.int K) := by kernel_rfl
theorem dk_record : (dk B K R N ro x).lookup ("record" : Str) = some (.int R) := by kernel_rfl
theorem dk_entries : (dk B K R N ro x).lookup ("entries" : Str) = some (.int N) := by kernel_rfl
theorem dk_ro : (dk B K R N ro x).lookup ("is_read_only" : Str) = some (.bool ro) := by kernel_rfl
theorem dk_data : (dk B K R N ro x).lookup ("data" : Str) = some (.loc x) := by kernel_rfl
theorem en_user : (en u r ext sp ct m).lookup ("user" : Str) = some (.int u) := by kernel_rfl
theorem en_raw : (en u r ext sp ct m).lookup ("raw" : Str) = some (.loc r) := by kernel_rfl
theorem en_extent : (en u r ext sp ct m).lookup ("extent" : Str) = some (.int ext) := by kernel_rfl
theorem en_spare : (en u r ext sp ct m).lookup ("spare" : Str) = some (.int sp) := by kernel_rfl
theorem en_count : (en u r ext sp ct m).lookup ("count" : Str) = some (.int ct) := by kernel_rfl
theorem en_map : (en u r ext sp ct m).lookup ("map" : Str) = some (.loc m) := by kernel_rfl
theorem dkp_ro : putA "is_read_only" (.bool ro') (dk B K R N ro x) = dk B K R N ro' x := by kernel_rfl
theorem enp_spare {sp' : Int} : putA "spare" (.int sp') (en u r ext sp ct m) = en u r ext sp' ct m := by kernel_rfl
theorem enp_count {ct' : Int} : putA "count" (.int ct') (en u r ext sp ct m) = en u r ext sp ct' m := by kernel_rfl
theorem enp_map {m' : Nat} : putA "map" (.loc m') (en u r ext sp ct m) = en u r ext sp ct m' := by kernel_rfl
noncomputable def dt (B K R N : Int) (n : Nat) : List (Str × AV) := (dk B K R N false 0).take n
noncomputable def et (u : Int) (r : Nat) (e : Int) (n : Nat) : List (Str × AV) := (en u r e 0 0 0).take n
noncomputable def d1 (B : Int) : List (Str × AV) := [("blocks", .int B)]
noncomputable def d2 (B K : Int) : List (Str × AV) := [("blocks", .int B), ("block", .int K)]
noncomputable def d3 (B K R : Int) : List (Str × AV) := [("blocks", .int B), ("block", .int K), ("record", .int R)]
noncomputable def e1 (u : Int) : List (Str × AV) := [("user", .int u)]
noncomputable def e2 (u : Int) (r : Nat) : List (Str × AV) := [("user", .int u), ("raw", .loc r)]
theorem dki_0 : putA "blocks" (.int B) [] = (d1 B) := by kernel_rfl
theorem dki_1 : putA "block" (.int K) (d1 B) = (d2 B K) := by kernel_rfl
theorem dki_2 : putA "record" (.int R) (d2 B K) = (d3 B K R) := by kernel_rfl
theorem dki_3 : putA "entries" (.int N) (d3 B K R) = dt B K R N 4 := by kernel_rfl
theorem dki_4 : putA "is_read_only" (.bool false) (dt B K R N 4) = dt B K R N 5 := by kernel_rfl
theorem dki_5 : putA "data" (.loc x) (dt B K R N 5) = dk B K R N false x := by kernel_rfl
theorem eni_0 : putA "user" (.int u) [] = (e1 u) := by kernel_rfl
theorem eni_1 : putA "raw" (.loc r) (e1 u) = (e2 u r) := by kernel_rfl
theorem eni_2 : putA "extent" (.int ext) (e2 u r) = et u r ext 3 := by kernel_rfl
theorem eni_3 : putA "spare" (.int 0) (et u r ext 3) = et u r ext 4 := by kernel_rfl
theorem eni_4 : putA "count" (.int 0) (et u r ext 4) = et u r ext 5 := by kernel_rfl
theorem eni_5 : putA "map" (.loc m) (et u r ext 5) = en u r ext 0 0 m := by kernel_rfl
/-! a disk and an entry are made -/
theorem T53 (hB : -1000000 ≤ B ∧ B ≤ 1000000) (hK : -1000000 ≤ K ∧ K ≤ 1000000) (hN : -1000000 ≤ N ∧ N ≤ 1000000) (h : N * 32 ≤ B * K) (hz : 0 ≤ B * K ∧ B * K ≤ 1000000)
    (q : ∀ d dd x, Q (.loc d) ((x, .is (.ints (List.replicate (B * K).toNat 229))) :: (d, .is (.inst 53 dd)) :: (dd, .is (.dict (dk B K R N false x))) :: Γ)) : Tr Γ (aNew 53 5 (args5 P50) [.int B, .int K, .int R, .int N]) Q E := by
  refine Tr.wk (Tr.nw rfl fun dd => Tr.mono (Q' := fun o Γ' => o = none ∧ ∃ Γ'', Imp Γ' Γ'' ∧ Q (.loc (dd + 1)) Γ'') ?_ (fun _ _ h => h) fun _ _ h => h)
  show Tr _ (P50 _ _ _ _ _) _ _
  unfold P50
  with_reducible refine Tr.bind ?_
  with_reducible refine Tr.bind ?_
  with_reducible refine Tr.bind ?_
  with_reducible refine Tr.pure ?_
  with_reducible refine Tr.bind ?_
  with_reducible refine Tr.pure ?_
  (with_reducible refine Tr.mul ?_ ?_); (next => omega)
  with_reducible refine Tr.bind ?_
  with_reducible refine Tr.bind ?_
  with_reducible refine Tr.pure ?_
  with_reducible refine Tr.bind ?_
  with_reducible refine Tr.pure ?_
  (with_reducible refine Tr.mul ?_ ?_); (next => omega)
  with_reducible refine Tr.bind ?_
  (with_reducible refine Tr.gtI (c := false) ?_ ?_); (next => exact decide_eq_false (by omega))
  with_reducible refine Tr.bool ?_
  with_reducible refine Tr.bind ?_
  (with_reducible refine Tr.ifF ?_ ?_); (next => rfl)
  with_reducible refine Tr.pure ?_
  with_reducible refine Tr.aftN ?_
  with_reducible refine Tr.bind ?_
  with_reducible refine Tr.bind ?_
  with_reducible refine Tr.pure ?_
  with_reducible refine Tr.bind ?_
  with_reducible refine Tr.pure ?_
  (with_reducible refine Tr.setF (by (repeat (first | assumption | exact List.mem_cons_self | apply List.mem_cons_of_mem))) (by (repeat (first | exact Up.here | apply Up.next))) (by exact dki_0) ?_ ?_); (next => exact Nat.le_of_ble_eq_true rfl)
  with_reducible refine Tr.bind ?_
  with_reducible refine Tr.bind ?_
  with_reducible refine Tr.pure ?_
  with_reducible refine Tr.bind ?_
  with_reducible refine Tr.pure ?_
  (with_reducible refine Tr.setF (by (repeat (first | assumption | exact List.mem_cons_self | apply List.mem_cons_of_mem))) (by (repeat (first | exact Up.here | apply Up.next))) (by exact dki_1) ?_ ?_); (next => exact Nat.le_of_ble_eq_true rfl)
  with_reducible refine Tr.bind ?_
  with_reducible refine Tr.bind ?_
  with_reducible refine Tr.pure ?_
  with_reducible refine Tr.bind ?_
  with_reducible refine Tr.pure ?_
  (with_reducible refine Tr.setF (by (repeat (first | assumption | exact List.mem_cons_self | apply List.mem_cons_of_mem))) (by (repeat (first | exact Up.here | apply Up.next))) (by exact dki_2) ?_ ?_); (next => exact Nat.le_of_ble_eq_true rfl)
  with_reducible refine Tr.bind ?_
  with_reducible refine Tr.bind ?_
  with_reducible refine Tr.pure ?_
  with_reducible refine Tr.bind ?_
  with_reducible refine Tr.pure ?_
  (with_reducible refine Tr.setF (by (repeat (first | assumption | exact List.mem_cons_self | apply List.mem_cons_of_mem))) (by (repeat (first | exact Up.here | apply Up.next))) (by exact dki_3) ?_ ?_); (next => exact Nat.le_of_ble_eq_true rfl)
  with_reducible refine Tr.bind ?_
  with_reducible refine Tr.bind ?_
  with_reducible refine Tr.pure ?_
  with_reducible refine Tr.bind ?_
  with_reducible refine Tr.pure ?_
  (with_reducible refine Tr.setF (by (repeat (first | assumption | exact List.mem_cons_self | apply List.mem_cons_of_mem))) (by (repeat (first | exact Up.here | apply Up.next))) (by exact dki_4) ?_ ?_); (next => exact Nat.le_of_ble_eq_true rfl)
  with_reducible refine Tr.bind ?_
  with_reducible refine Tr.bind ?_
  with_reducible refine Tr.bind ?_
  with_reducible refine Tr.bind ?_
  with_reducible refine Tr.bind ?_
  with_reducible refine Tr.pure ?_
  with_reducible refine Tr.bind ?_
  with_reducible refine Tr.pure ?_
  with_reducible refine Tr.pure ?_
  (with_reducible refine Tr.ints (by with_unfolding_all rfl) ?_ ?_); (next => exact Nat.le_of_ble_eq_true rfl); intro _
  with_reducible refine Tr.bind ?_
  with_reducible refine Tr.bind ?_
  with_reducible refine Tr.pure ?_
  with_reducible refine Tr.bind ?_
  with_reducible refine Tr.pure ?_
  (with_reducible refine Tr.mul ?_ ?_); (next => omega)
  (with_reducible refine Tr.rep (by (repeat (first | assumption | exact List.mem_cons_self | apply List.mem_cons_of_mem))) ?_ ?_); (next => omega); intro _
  with_reducible refine Tr.bind ?_
  with_reducible refine Tr.pure ?_
  (with_reducible refine Tr.setF (by (repeat (first | assumption | exact List.mem_cons_self | apply List.mem_cons_of_mem))) (by (repeat (first | exact Up.here | apply Up.next))) (by exact dki_5) ?_ ?_); (next => exact Nat.le_of_ble_eq_true rfl)
  with_reducible refine Tr.pure ?_
  rename_i n1 n2
  exact ⟨rfl, _, Imp.sub (by (repeat (first | exact List.Sublist.refl _ | apply List.Sublist.cons₂ | apply List.Sublist.cons))), q (dd + 1) dd n2⟩
theorem T74 {raw : List Int} {rw : Nat} (hr : (rw, As.is (.ints raw)) ∈ Γ) (hz : raw.length ≤ 1000000)
    (q : ∀ e de r m, Q (.loc e) ((m, .is (.ints [])) :: (r, .is (.ints raw)) :: (e, .is (.inst 74 de)) :: (de, .is (.dict (en u r ext 0 0 m))) :: Γ)) : Tr Γ (aNew 74 4 (args4 P71) [.int u, .loc rw, .int ext]) Q E := by
  refine Tr.nw rfl fun de => ?_
  show Tr _ (P71 _ _ _ _) _ _
  unfold P71
  with_reducible refine Tr.bind ?_
  with_reducible refine Tr.bind ?_
  with_reducible refine Tr.pure ?_
  with_reducible refine Tr.bind ?_
  with_reducible refine Tr.pure ?_
  (with_reducible refine Tr.setF (by (repeat (first | assumption | exact List.mem_cons_self | apply List.mem_cons_of_mem))) (by (repeat (first | exact Up.here | apply Up.next))) (by exact eni_0) ?_ ?_); (next => exact Nat.le_of_ble_eq_true rfl)
  with_reducible refine Tr.bind ?_
  with_reducible refine Tr.bind ?_
  with_reducible refine Tr.bind ?_
  with_reducible refine Tr.bind ?_
  with_reducible refine Tr.pure ?_
  with_reducible refine Tr.bind ?_
  with_reducible refine Tr.pure ?_
  with_reducible refine Tr.pure ?_
  (with_reducible refine Tr.copy (by (repeat (first | assumption | exact List.mem_cons_self | apply List.mem_cons_of_mem))) ?_ ?_); (next => omega); intro _
  with_reducible refine Tr.bind ?_
  with_reducible refine Tr.pure ?_
  (with_reducible refine Tr.setF (by (repeat (first | assumption | exact List.mem_cons_self | apply List.mem_cons_of_mem))) (by (repeat (first | exact Up.here | apply Up.next))) (by exact eni_1) ?_ ?_); (next => exact Nat.le_of_ble_eq_true rfl)
  with_reducible refine Tr.bind ?_
  with_reducible refine Tr.bind ?_
  with_reducible refine Tr.pure ?_
  with_reducible refine Tr.bind ?_
  with_reducible refine Tr.pure ?_
  (with_reducible refine Tr.setF (by (repeat (first | assumption | exact List.mem_cons_self | apply List.mem_cons_of_mem))) (by (repeat (first | exact Up.here | apply Up.next))) (by exact eni_2) ?_ ?_); (next => exact Nat.le_of_ble_eq_true rfl)
  with_reducible refine Tr.bind ?_
  with_reducible refine Tr.bind ?_
  with_reducible refine Tr.pure ?_
  with_reducible refine Tr.bind ?_
  with_reducible refine Tr.pure ?_
  (with_reducible refine Tr.setF (by (repeat (first | assumption | exact List.mem_cons_self | apply List.mem_cons_of_mem))) (by (repeat (first | exact Up.here | apply Up.next))) (by exact eni_3) ?_ ?_); (next => exact Nat.le_of_ble_eq_true rfl)
  with_reducible refine Tr.bind ?_
  with_reducible refine Tr.bind ?_
  with_reducible refine Tr.pure ?_
  with_reducible refine Tr.bind ?_
  with_reducible refine Tr.pure ?_
  (with_reducible refine Tr.setF (by (repeat (first | assumption | exact List.mem_cons_self | apply List.mem_cons_of_mem))) (by (repeat (first | exact Up.here | apply Up.next))) (by exact eni_4) ?_ ?_); (next => exact Nat.le_of_ble_eq_true rfl)
  with_reducible refine Tr.bind ?_
  with_reducible refine Tr.bind ?_
  with_reducible refine Tr.bind ?_
  with_reducible refine Tr.pure ?_
  (with_reducible refine Tr.ints (by with_unfolding_all rfl) ?_ ?_); (next => exact Nat.le_of_ble_eq_true rfl); intro _
  with_reducible refine Tr.bind ?_
  with_reducible refine Tr.pure ?_
  (with_reducible refine Tr.setF (by (repeat (first | assumption | exact List.mem_cons_self | apply List.mem_cons_of_mem))) (by (repeat (first | exact Up.here | apply Up.next))) (by exact eni_5) ?_ ?_); (next => exact Nat.le_of_ble_eq_true rfl)
  with_reducible refine Tr.pure ?_
  exact ⟨rfl, q (de + 1) de _ _⟩
/-! what is asked of a disk -/
variable (hd : (d, As.is (.inst 53 dd)) ∈ Γ) (hf : (dd, As.is (.dict (dk B K R N ro x))) ∈ Γ)
include hd hf
theorem T85 (q : Q (.int (if B ≤ 256 then 16 else 8)) Γ) : Tr Γ (M85 [.loc d]) Q E := by
  refine Tr.m1 (P := P85) ?_
  unfold P85
  by_cases h : B ≤ 256
  · rw [if_pos h] at q
    with_reducible refine Tr.bind ?_
    with_reducible refine Tr.bind ?_
    with_reducible refine Tr.bind ?_
    with_reducible refine Tr.bind ?_
    with_reducible refine Tr.pure ?_
    with_reducible refine Tr.getF (by (repeat (first | assumption | exact List.mem_cons_self | apply List.mem_cons_of_mem))) (by (repeat (first | assumption | exact List.mem_cons_self | apply List.mem_cons_of_mem))) (by exact dk_blocks) ?_
    with_reducible refine Tr.bind ?_
    with_reducible refine Tr.pure ?_
    with_reducible refine Tr.bind ?_
    (with_reducible refine Tr.leI (c := true) ?_ ?_); (next => exact decide_eq_true (by omega))
    with_reducible refine Tr.bool ?_
    (with_reducible refine Tr.ifT ?_ ?_); (next => rfl)
    with_reducible refine Tr.pure ?_
    with_reducible refine Tr.pure ?_
    exact q
  · rw [if_neg h] at q
    with_reducible refine Tr.bind ?_
    with_reducible refine Tr.bind ?_
    with_reducible refine Tr.bind ?_
    with_reducible refine Tr.bind ?_
    with_reducible refine Tr.pure ?_
    with_reducible refine Tr.getF (by (repeat (first | assumption | exact List.mem_cons_self | apply List.mem_cons_of_mem))) (by (repeat (first | assumption | exact List.mem_cons_self | apply List.mem_cons_of_mem))) (by exact dk_blocks) ?_
    with_reducible refine Tr.bind ?_
    with_reducible refine Tr.pure ?_
    with_reducible refine Tr.bind ?_
    (with_reducible refine Tr.leI (c := false) ?_ ?_); (next => exact decide_eq_false (by omega))
    with_reducible refine Tr.bool ?_
    (with_reducible refine Tr.ifF ?_ ?_); (next => rfl)
    with_reducible refine Tr.pure ?_
    with_reducible refine Tr.pure ?_
    exact q
theorem T92 (h : 0 < R ∧ R < 1073741824) (q : Q (.int (K / R)) Γ) : Tr Γ (M92 [.loc d]) Q E := by
  refine Tr.m1 (P := P92) ?_
  unfold P92
  with_reducible refine Tr.bind ?_
  with_reducible refine Tr.bind ?_
  with_reducible refine Tr.bind ?_
  with_reducible refine Tr.pure ?_
  with_reducible refine Tr.getF (by (repeat (first | assumption | exact List.mem_cons_self | apply List.mem_cons_of_mem))) (by (repeat (first | assumption | exact List.mem_cons_self | apply List.mem_cons_of_mem))) (by exact dk_block) ?_
  with_reducible refine Tr.bind ?_
  with_reducible refine Tr.bind ?_
  with_reducible refine Tr.pure ?_
  with_reducible refine Tr.getF (by (repeat (first | assumption | exact List.mem_cons_self | apply List.mem_cons_of_mem))) (by (repeat (first | assumption | exact List.mem_cons_self | apply List.mem_cons_of_mem))) (by exact dk_record) ?_
  (with_reducible refine Tr.fdiv ?_ ?_); (next => omega)
  with_reducible refine Tr.pure ?_
  exact q
theorem T99 (h : 0 < R ∧ R < 1073741824) (hk : 0 ≤ K / R ∧ K / R ≤ 1000) (q : Q (.int (if 128 < (if B ≤ 256 then 16 else 8) * (K / R) then 128 else (if B ≤ 256 then 16 else 8) * (K / R))) Γ) : Tr Γ (M99 [.loc d]) Q E := by
  refine Tr.m1 (P := P99) ?_
  unfold P99
  have hs : (if B ≤ 256 then 16 else 8 : Int) = 16 ∨ (if B ≤ 256 then 16 else 8 : Int) = 8 := by split <;> simp
  with_reducible refine Tr.bind ?_
  with_reducible refine Tr.bind ?_
  with_reducible refine Tr.bind ?_
  with_reducible refine Tr.bind ?_
  with_reducible refine Tr.bind ?_
  with_reducible refine Tr.bind ?_
  with_reducible refine Tr.pure ?_
  with_reducible refine Tr.bind ?_
  with_reducible refine Tr.pure ?_
  with_reducible refine Tr.pure ?_
  with_reducible refine T85 (by (repeat (first | assumption | exact List.mem_cons_self | apply List.mem_cons_of_mem))) (by (repeat (first | assumption | exact List.mem_cons_self | apply List.mem_cons_of_mem))) ?_
  with_reducible refine Tr.bind ?_
  with_reducible refine Tr.bind ?_
  with_reducible refine Tr.bind ?_
  with_reducible refine Tr.pure ?_
  with_reducible refine Tr.bind ?_
  with_reducible refine Tr.pure ?_
  with_reducible refine Tr.pure ?_
  (with_reducible refine T92 (by (repeat (first | assumption | exact List.mem_cons_self | apply List.mem_cons_of_mem))) (by (repeat (first | assumption | exact List.mem_cons_self | apply List.mem_cons_of_mem))) ?_ ?_); (next => omega)
  (with_reducible refine Tr.mul ?_ ?_); (next => omega)
  with_reducible refine Tr.bind ?_
  with_reducible refine Tr.bind ?_
  with_reducible refine Tr.pure ?_
  with_reducible refine Tr.bind ?_
  with_reducible refine Tr.pure ?_
  with_reducible refine Tr.pure ?_
  with_reducible refine Tr.pure ?_
  with_reducible refine Tr.min ?_
  with_reducible refine Tr.pure ?_
  exact q
theorem T113 {raw : List Int} {rw : Nat} (hr : (rw, As.is (.ints raw)) ∈ Γ) (hz : raw.length ≤ 1000000)
    (q : ∀ e de r m, Q (.loc e) ((m, .is (.ints (List.replicate (if B ≤ 256 then 16 else 8) 0))) :: (r, .is (.ints raw)) :: (e, .is (.inst 74 de)) :: (de, .is (.dict (en u r ext 0 0 m))) :: Γ)) : Tr Γ (M113 [.loc d, .int u, .loc rw, .int ext]) Q E := by
  refine Tr.m4 (P := P113) (Tr.wk ?_)
  unfold P113
  have hs : (if B ≤ 256 then 16 else 8 : Int) = 16 ∨ (if B ≤ 256 then 16 else 8 : Int) = 8 := by split <;> simp
  with_reducible refine Tr.bind ?_
  with_reducible refine Tr.bind ?_
  with_reducible refine Tr.bind ?_
  with_reducible refine Tr.pure ?_
  with_reducible refine Tr.bind ?_
  with_reducible refine Tr.bind ?_
  with_reducible refine Tr.pure ?_
  with_reducible refine Tr.bind ?_
  with_reducible refine Tr.bind ?_
  with_reducible refine Tr.pure ?_
  with_reducible refine Tr.bind ?_
  with_reducible refine Tr.pure ?_
  with_reducible refine Tr.pure ?_
  with_reducible refine Tr.pure ?_
  with_reducible refine Tr.pure ?_
  (with_reducible refine T74 (by (repeat (first | assumption | exact List.mem_cons_self | apply List.mem_cons_of_mem))) ?_ ?_); (next => omega); intro _ _ _ _
  with_reducible refine Tr.bind ?_
  with_reducible refine Tr.bind ?_
  with_reducible refine Tr.bind ?_
  with_reducible refine Tr.bind ?_
  with_reducible refine Tr.bind ?_
  with_reducible refine Tr.pure ?_
  with_reducible refine Tr.bind ?_
  with_reducible refine Tr.pure ?_
  with_reducible refine Tr.pure ?_
  (with_reducible refine Tr.ints (by with_unfolding_all rfl) ?_ ?_); (next => exact Nat.le_of_ble_eq_true rfl); intro _
  with_reducible refine Tr.bind ?_
  with_reducible refine Tr.bind ?_
  with_reducible refine Tr.bind ?_
  with_reducible refine Tr.pure ?_
  with_reducible refine Tr.bind ?_
  with_reducible refine Tr.pure ?_
  with_reducible refine Tr.pure ?_
  with_reducible refine T85 (by (repeat (first | assumption | exact List.mem_cons_self | apply List.mem_cons_of_mem))) (by (repeat (first | assumption | exact List.mem_cons_self | apply List.mem_cons_of_mem))) ?_
  (with_reducible refine Tr.rep (by (repeat (first | assumption | exact List.mem_cons_self | apply List.mem_cons_of_mem))) ?_ ?_); (next => omega); intro _
  with_reducible refine Tr.bind ?_
  with_reducible refine Tr.pure ?_
  (with_reducible refine Tr.setF (by (repeat (first | assumption | exact List.mem_cons_self | apply List.mem_cons_of_mem))) (by (repeat (first | exact Up.here | apply Up.next))) (by exact enp_map) ?_ ?_); (next => exact Nat.le_of_ble_eq_true rfl)
  with_reducible refine Tr.bind ?_
  with_reducible refine Tr.pure ?_
  with_reducible refine Tr.pure ?_
  rename_i e de r m0 z m
  refine ⟨_, Imp.sub ?_, q e de r m⟩
  rw [show (if B ≤ 256 then 16 else 8 : Nat) = (if B ≤ 256 then 16 else 8 : Int).toNat by split <;> rfl]
  (repeat (first | exact List.Sublist.refl _ | apply List.Sublist.cons₂ | apply List.Sublist.cons))
end
section
variable {Γ Γ' Δ : Ct} {i j n d dd x e de r m o : Nat} {B K R N u ext sp ct : Int} {ro ro' : Bool} {a a1 a2 a3 a4 : AV} {E : Str → Ct → Prop} {Q : AV → Ct → Prop}
theorem T106 (hd : (d, As.is (.inst 53 dd)) ∈ Γ) (hf : (dd, As.is (.dict (dk B K R N false x))) ∈ Γ) (q : Q .none Γ) : Tr Γ (M106 [.loc d]) Q E := by
  refine Tr.m1 (P := P106) ?_
  unfold P106
  with_reducible refine Tr.bind ?_
  with_reducible refine Tr.bind ?_
  with_reducible refine Tr.bind ?_
  with_reducible refine Tr.pure ?_
  with_reducible refine Tr.getF (by (repeat (first | assumption | exact List.mem_cons_self | apply List.mem_cons_of_mem))) (by (repeat (first | assumption | exact List.mem_cons_self | apply List.mem_cons_of_mem))) (by exact dk_ro) ?_
  with_reducible refine Tr.bool ?_
  with_reducible refine Tr.bind ?_
  (with_reducible refine Tr.ifF ?_ ?_); (next => rfl)
  with_reducible refine Tr.pure ?_
  with_reducible refine Tr.aftN ?_
  with_reducible refine Tr.pure ?_
  exact q
theorem T106e (hd : (d, As.is (.inst 53 dd)) ∈ Γ) (hf : (dd, As.is (.dict (dk B K R N true x))) ∈ Γ) (q : E "read only" Γ) : Tr Γ (M106 [.loc d]) Q E := by
  refine Tr.m1 (P := P106) ?_
  unfold P106
  with_reducible refine Tr.bind ?_
  with_reducible refine Tr.bind ?_
  with_reducible refine Tr.bind ?_
  with_reducible refine Tr.pure ?_
  with_reducible refine Tr.getF (by (repeat (first | assumption | exact List.mem_cons_self | apply List.mem_cons_of_mem))) (by (repeat (first | assumption | exact List.mem_cons_self | apply List.mem_cons_of_mem))) (by exact dk_ro) ?_
  with_reducible refine Tr.bool ?_
  with_reducible refine Tr.bind ?_
  (with_reducible refine Tr.ifT ?_ ?_); (next => rfl)
  exact Tr.err q
end
end Mine
end

/-! ## PL4 -/
section
open PySem PySem.W PySem.Calls PyProof.Rows
namespace Mine
/-! what an entry's octets are -/
noncomputable def oc (B k : Int) : List Int := if B ≤ 256 then [k] else [k % 256, k / 256]
noncomputable def mo (B : Int) (mp : List Int) : List Int := mp.flatMap (oc B)
noncomputable def oct (B u : Int) (raw : List Int) (ext sp ct : Int) (mp : List Int) : List Int := (([u] ++ raw) ++ [ext % 32, sp, ext / 32, ct]) ++ mo B mp
noncomputable def ma (B : Int) (L : List Int) : List Int := if B ≤ 256 then (L.take 32).drop 16 else (rangeIs 16 2 8).map fun k => L.getD k.toNat 0 + 256 * L.getD (k + 1).toNat 0
theorem mo_small {B : Int} (h : B ≤ 256) (mp : List Int) : mo B mp = mp := by
  induction mp with
  | nil => rfl
  | cons k r ih => rw [mo, List.flatMap_cons, oc, if_pos h]; exact congrArg (k :: ·) ih
theorem mo_len {B : Int} (mp : List Int) : (mo B mp).length ≤ 2 * mp.length := by
  induction mp with
  | nil => exact Nat.le_refl _
  | cons k r ih =>
    rw [mo, List.flatMap_cons, List.length_append, List.length_cons]
    have : (oc B k).length ≤ 2 := by unfold oc; split <;> simp
    have ih : (List.flatMap (oc B) r).length ≤ 2 * r.length := ih
    omega
theorem mo_snoc {B k : Int} {l : List Int} : mo B (l ++ [k]) = mo B l ++ oc B k := by simp [mo]
section
variable {Γ Γ' Δ : Ct} {i j n d dd x e de r m o : Nat} {B K R N u ext sp ct : Int} {ro ro' : Bool} {a a1 a2 a3 a4 : AV} {raw mp L : List Int} {E : Str → Ct → Prop} {Q : AV → Ct → Prop}
theorem Tr.rng16 {Q : Int × Int × Nat → Ct → Prop} (q : Q (16, 2, 8) Γ) : Tr Γ (rangeOf [.int 16, .int 32, .int 2]) Q E := .ok (fun _ _ => rfl) q
theorem Tr.cb1 {names : List Str} {cs : List (Str × Nat)} {mb : List AV → Nat → AM (Option AV)} {l : List AV} {v : Option AV} {Q : Option AV → Ct → Prop} (hc : cellInit names l cs = [.cell v]) (hn : l.length = names.length)
    (h : ∀ ck, Tr ((ck, .is (.cell v)) :: Γ) (mb l ck) Q E) : Tr Γ (cellBody names cs mb l) Q E := fun H S => by
  unfold cellBody
  rw [if_pos hn, hc]
  exact h _ _ (S.push _)
variable (hd : (d, As.is (.inst 53 dd)) ∈ Γ) (hf : (dd, As.is (.dict (dk B K R N ro x))) ∈ Γ)
include hd hf
theorem T174 (hm : (m, As.is (.ints mp)) ∈ Γ) (hz : mp.length ≤ 1000) (q : ∀ n, Q (.loc n) ((n, .is (.ints (mo B mp))) :: Γ)) : Tr Γ (M174 [.loc d, .loc m]) Q E := by
  refine Tr.m2 (P := P174) (Tr.wk ?_)
  unfold P174
  by_cases h : B ≤ 256
  · have hs : (if B ≤ 256 then 16 else 8 : Int) = 16 := if_pos h
    with_reducible refine Tr.bind ?_
    with_reducible refine Tr.bind ?_
    with_reducible refine Tr.bind ?_
    with_reducible refine Tr.bind ?_
    with_reducible refine Tr.pure ?_
    with_reducible refine Tr.bind ?_
    with_reducible refine Tr.pure ?_
    with_reducible refine Tr.pure ?_
    with_reducible refine T85 (by (repeat (first | assumption | exact List.mem_cons_self | apply List.mem_cons_of_mem))) (by (repeat (first | assumption | exact List.mem_cons_self | apply List.mem_cons_of_mem))) ?_
    with_reducible refine Tr.bind ?_
    with_reducible refine Tr.pure ?_
    with_reducible refine Tr.bind ?_
    (with_reducible refine Tr.eqI (c := true) ?_ ?_); (next => exact beq_iff_eq.mpr (by omega))
    with_reducible refine Tr.bool ?_
    with_reducible refine Tr.bind ?_
    (with_reducible refine Tr.ifT ?_ ?_); (next => rfl)
    with_reducible refine Tr.bind ?_
    with_reducible refine Tr.bind ?_
    with_reducible refine Tr.bind ?_
    with_reducible refine Tr.pure ?_
    with_reducible refine Tr.bind ?_
    with_reducible refine Tr.pure ?_
    with_reducible refine Tr.pure ?_
    (with_reducible refine Tr.copy (by (repeat (first | assumption | exact List.mem_cons_self | apply List.mem_cons_of_mem))) ?_ ?_); (next => omega); intro _
    with_reducible refine Tr.pure ?_
    with_reducible refine Tr.aftS ?_
    exact ⟨_, Imp.rfl, by rw [mo_small h] at q; exact q _⟩
  · have hs : (if B ≤ 256 then 16 else 8 : Int) = 8 := if_neg h
    with_reducible refine Tr.bind ?_
    with_reducible refine Tr.bind ?_
    with_reducible refine Tr.bind ?_
    with_reducible refine Tr.bind ?_
    with_reducible refine Tr.pure ?_
    with_reducible refine Tr.bind ?_
    with_reducible refine Tr.pure ?_
    with_reducible refine Tr.pure ?_
    with_reducible refine T85 (by (repeat (first | assumption | exact List.mem_cons_self | apply List.mem_cons_of_mem))) (by (repeat (first | assumption | exact List.mem_cons_self | apply List.mem_cons_of_mem))) ?_
    with_reducible refine Tr.bind ?_
    with_reducible refine Tr.pure ?_
    with_reducible refine Tr.bind ?_
    (with_reducible refine Tr.eqI (c := false) ?_ ?_); (next => exact beq_eq_false_iff_ne.mpr (by omega))
    with_reducible refine Tr.bool ?_
    with_reducible refine Tr.bind ?_
    (with_reducible refine Tr.ifF ?_ ?_); (next => rfl)
    with_reducible refine Tr.pure ?_
    with_reducible refine Tr.aftN ?_
    with_reducible refine Tr.bind ?_
    with_reducible refine Tr.bind ?_
    with_reducible refine Tr.pure ?_
    (with_reducible refine Tr.ints (by with_unfolding_all rfl) ?_ ?_); (next => exact Nat.le_of_ble_eq_true rfl); intro _
    with_reducible refine Tr.bind ?_
    with_reducible refine Tr.bind ?_
    with_reducible refine Tr.noErr ?_
    with_reducible refine Tr.pure ?_
    rename_i n0
    obtain ⟨Δ, u, _⟩ := Pull.of_mem hm
    refine Tr.pull (Pull.next u) (Tr.forInts (J := fun done _ Δ' => Δ' = (n0, .is (.ints (mo B done))) :: Δ) rfl ?_ ?_)
    · rintro done k rest _ _ e rfl
      have hl := mo_len (B := B) done
      have hn : done.length ≤ 1000 := by rw [e, List.length_append] at hz; omega
      with_reducible refine Tr.bind ?_
      with_reducible refine Tr.bind ?_
      with_reducible refine Tr.pure ?_
      with_reducible refine Tr.bind ?_
      with_reducible refine Tr.lst (by (repeat (first | assumption | exact List.mem_cons_self | apply List.mem_cons_of_mem))) ?_
      with_reducible refine Tr.bind ?_
      with_reducible refine Tr.bind ?_
      with_reducible refine Tr.bind ?_
      with_reducible refine Tr.bind ?_
      with_reducible refine Tr.bind ?_
      with_reducible refine Tr.pure ?_
      with_reducible refine Tr.bind ?_
      with_reducible refine Tr.pure ?_
      (with_reducible refine Tr.mod ?_ ?_); (next => omega)
      with_reducible refine Tr.bind ?_
      with_reducible refine Tr.bind ?_
      with_reducible refine Tr.bind ?_
      with_reducible refine Tr.pure ?_
      with_reducible refine Tr.bind ?_
      with_reducible refine Tr.pure ?_
      (with_reducible refine Tr.fdiv ?_ ?_); (next => omega)
      with_reducible refine Tr.bind ?_
      with_reducible refine Tr.pure ?_
      with_reducible refine Tr.pure ?_
      with_reducible refine Tr.pure ?_
      (with_reducible refine Tr.ints (by with_unfolding_all rfl) ?_ ?_); (next => exact Nat.le_of_ble_eq_true rfl); intro _
      with_reducible refine Tr.bind ?_
      with_reducible refine Tr.pure ?_
      with_reducible refine Tr.pure ?_
      (with_reducible refine Tr.extend (by (repeat (first | assumption | exact List.mem_cons_self | apply List.mem_cons_of_mem))) (by (repeat (first | exact Up.here | apply Up.next))) ?_ ?_); (next => (simp only [List.length_append, List.length_cons, List.length_nil, List.length_replicate, List.length_take, List.length_drop, List.length_set]; omega))
      with_reducible refine Tr.pure ?_
      refine ⟨_, Imp.sub (List.Sublist.cons _ (List.Sublist.refl _)), ?_⟩
      rw [mo_snoc, oc, if_neg h]
    · rintro _ _ rfl
      with_reducible refine Tr.bind ?_
      with_reducible refine Tr.pure ?_
      with_reducible refine Tr.pure ?_
      exact ⟨_, fun H S => (Pull.back (Pull.next u)) H S, q n0⟩
theorem T120 (he : (e, As.is (.inst 74 de)) ∈ Γ) (hg : (de, As.is (.dict (en u r ext sp ct m))) ∈ Γ) (hr : (r, As.is (.ints raw)) ∈ Γ) (hm : (m, As.is (.ints mp)) ∈ Γ) (hz : mp.length ≤ 1000) (hy : raw.length ≤ 1000)
    (q : ∀ n, Q (.loc n) ((n, .is (.ints (oct B u raw ext sp ct mp))) :: Γ)) : Tr Γ (M120 [.loc d, .loc e]) Q E := by
  refine Tr.m2 (P := P120) (Tr.wk ?_)
  have hl := mo_len (B := B) mp
  unfold P120
  with_reducible refine Tr.bind ?_
  with_reducible refine Tr.bind ?_
  with_reducible refine Tr.bind ?_
  with_reducible refine Tr.bind ?_
  with_reducible refine Tr.bind ?_
  with_reducible refine Tr.pure ?_
  with_reducible refine Tr.getF (by (repeat (first | assumption | exact List.mem_cons_self | apply List.mem_cons_of_mem))) (by (repeat (first | assumption | exact List.mem_cons_self | apply List.mem_cons_of_mem))) (by exact en_user) ?_
  with_reducible refine Tr.bind ?_
  with_reducible refine Tr.pure ?_
  with_reducible refine Tr.pure ?_
  (with_reducible refine Tr.ints (by with_unfolding_all rfl) ?_ ?_); (next => exact Nat.le_of_ble_eq_true rfl); intro _
  with_reducible refine Tr.bind ?_
  with_reducible refine Tr.bind ?_
  with_reducible refine Tr.pure ?_
  with_reducible refine Tr.getF (by (repeat (first | assumption | exact List.mem_cons_self | apply List.mem_cons_of_mem))) (by (repeat (first | assumption | exact List.mem_cons_self | apply List.mem_cons_of_mem))) (by exact en_raw) ?_
  (with_reducible refine Tr.cat (by (repeat (first | assumption | exact List.mem_cons_self | apply List.mem_cons_of_mem))) (by (repeat (first | assumption | exact List.mem_cons_self | apply List.mem_cons_of_mem))) ?_ ?_); (next => (simp only [List.length_append, List.length_cons, List.length_nil, List.length_replicate, List.length_take, List.length_drop, List.length_set]; omega)); intro _
  with_reducible refine Tr.bind ?_
  with_reducible refine Tr.bind ?_
  with_reducible refine Tr.pure ?_
  with_reducible refine Tr.bind ?_
  with_reducible refine Tr.bind ?_
  with_reducible refine Tr.bind ?_
  with_reducible refine Tr.bind ?_
  with_reducible refine Tr.bind ?_
  with_reducible refine Tr.pure ?_
  with_reducible refine Tr.getF (by (repeat (first | assumption | exact List.mem_cons_self | apply List.mem_cons_of_mem))) (by (repeat (first | assumption | exact List.mem_cons_self | apply List.mem_cons_of_mem))) (by exact en_extent) ?_
  with_reducible refine Tr.bind ?_
  with_reducible refine Tr.pure ?_
  (with_reducible refine Tr.mod ?_ ?_); (next => omega)
  with_reducible refine Tr.bind ?_
  with_reducible refine Tr.bind ?_
  with_reducible refine Tr.bind ?_
  with_reducible refine Tr.pure ?_
  with_reducible refine Tr.getF (by (repeat (first | assumption | exact List.mem_cons_self | apply List.mem_cons_of_mem))) (by (repeat (first | assumption | exact List.mem_cons_self | apply List.mem_cons_of_mem))) (by exact en_spare) ?_
  with_reducible refine Tr.bind ?_
  with_reducible refine Tr.bind ?_
  with_reducible refine Tr.bind ?_
  with_reducible refine Tr.bind ?_
  with_reducible refine Tr.pure ?_
  with_reducible refine Tr.getF (by (repeat (first | assumption | exact List.mem_cons_self | apply List.mem_cons_of_mem))) (by (repeat (first | assumption | exact List.mem_cons_self | apply List.mem_cons_of_mem))) (by exact en_extent) ?_
  with_reducible refine Tr.bind ?_
  with_reducible refine Tr.pure ?_
  (with_reducible refine Tr.fdiv ?_ ?_); (next => omega)
  with_reducible refine Tr.bind ?_
  with_reducible refine Tr.bind ?_
  with_reducible refine Tr.bind ?_
  with_reducible refine Tr.pure ?_
  with_reducible refine Tr.getF (by (repeat (first | assumption | exact List.mem_cons_self | apply List.mem_cons_of_mem))) (by (repeat (first | assumption | exact List.mem_cons_self | apply List.mem_cons_of_mem))) (by exact en_count) ?_
  with_reducible refine Tr.bind ?_
  with_reducible refine Tr.pure ?_
  with_reducible refine Tr.pure ?_
  with_reducible refine Tr.pure ?_
  with_reducible refine Tr.pure ?_
  with_reducible refine Tr.pure ?_
  (with_reducible refine Tr.ints (by with_unfolding_all rfl) ?_ ?_); (next => exact Nat.le_of_ble_eq_true rfl); intro _
  (with_reducible refine Tr.cat (by (repeat (first | assumption | exact List.mem_cons_self | apply List.mem_cons_of_mem))) (by (repeat (first | assumption | exact List.mem_cons_self | apply List.mem_cons_of_mem))) ?_ ?_); (next => (simp only [List.length_append, List.length_cons, List.length_nil, List.length_replicate, List.length_take, List.length_drop, List.length_set]; omega)); intro _
  with_reducible refine Tr.bind ?_
  with_reducible refine Tr.bind ?_
  with_reducible refine Tr.pure ?_
  with_reducible refine Tr.bind ?_
  with_reducible refine Tr.bind ?_
  with_reducible refine Tr.bind ?_
  with_reducible refine Tr.pure ?_
  with_reducible refine Tr.bind ?_
  with_reducible refine Tr.bind ?_
  with_reducible refine Tr.bind ?_
  with_reducible refine Tr.pure ?_
  with_reducible refine Tr.getF (by (repeat (first | assumption | exact List.mem_cons_self | apply List.mem_cons_of_mem))) (by (repeat (first | assumption | exact List.mem_cons_self | apply List.mem_cons_of_mem))) (by exact en_map) ?_
  with_reducible refine Tr.bind ?_
  with_reducible refine Tr.pure ?_
  with_reducible refine Tr.pure ?_
  with_reducible refine Tr.pure ?_
  (with_reducible refine T174 (by (repeat (first | assumption | exact List.mem_cons_self | apply List.mem_cons_of_mem))) (by (repeat (first | assumption | exact List.mem_cons_self | apply List.mem_cons_of_mem))) (by (repeat (first | assumption | exact List.mem_cons_self | apply List.mem_cons_of_mem))) ?_ ?_); (next => omega); intro _
  (with_reducible refine Tr.cat (by (repeat (first | assumption | exact List.mem_cons_self | apply List.mem_cons_of_mem))) (by (repeat (first | assumption | exact List.mem_cons_self | apply List.mem_cons_of_mem))) ?_ ?_); (next => (simp only [List.length_append, List.length_cons, List.length_nil, List.length_replicate, List.length_take, List.length_drop, List.length_set]; omega)); intro _
  with_reducible refine Tr.pure ?_
  exact ⟨_, Imp.sub (by (repeat (first | exact List.Sublist.refl _ | apply List.Sublist.cons₂ | apply List.Sublist.cons))), q _⟩
theorem T226 (he : (e, As.is (.inst 74 de)) ∈ Γ) (hg : (de, As.is (.dict (en u r ext sp ct m))) ∈ Γ) (hr : (r, As.is (.ints raw)) ∈ Γ) (hm : (m, As.is (.ints mp)) ∈ Γ) (hz : mp.length ≤ 1000) (hy : raw.length ≤ 1000)
    (q : ∀ n, Q (.loc n) ((n, .is (.ints (oct B u raw ext sp ct mp))) :: Γ)) : Tr Γ (M226 [.loc d, .loc e]) Q E := by
  refine Tr.m2 (P := P226) (Tr.wk ?_)
  unfold P226
  with_reducible refine Tr.bind ?_
  with_reducible refine Tr.bind ?_
  with_reducible refine Tr.bind ?_
  with_reducible refine Tr.bind ?_
  with_reducible refine Tr.bind ?_
  with_reducible refine Tr.bind ?_
  with_reducible refine Tr.pure ?_
  with_reducible refine Tr.getF (by (repeat (first | assumption | exact List.mem_cons_self | apply List.mem_cons_of_mem))) (by (repeat (first | assumption | exact List.mem_cons_self | apply List.mem_cons_of_mem))) (by exact en_user) ?_
  with_reducible refine Tr.bind ?_
  with_reducible refine Tr.pure ?_
  with_reducible refine Tr.pure ?_
  (with_reducible refine Tr.ints (by with_unfolding_all rfl) ?_ ?_); (next => exact Nat.le_of_ble_eq_true rfl); intro _
  with_reducible refine Tr.bind ?_
  with_reducible refine Tr.bind ?_
  with_reducible refine Tr.bind ?_
  with_reducible refine Tr.bind ?_
  with_reducible refine Tr.pure ?_
  with_reducible refine Tr.getF (by (repeat (first | assumption | exact List.mem_cons_self | apply List.mem_cons_of_mem))) (by (repeat (first | assumption | exact List.mem_cons_self | apply List.mem_cons_of_mem))) (by exact en_raw) ?_
  with_reducible refine Tr.bind ?_
  with_reducible refine Tr.pure ?_
  with_reducible refine Tr.pure ?_
  (with_reducible refine Tr.copy (by (repeat (first | assumption | exact List.mem_cons_self | apply List.mem_cons_of_mem))) ?_ ?_); (next => omega); intro _
  (with_reducible refine Tr.cat (by (repeat (first | assumption | exact List.mem_cons_self | apply List.mem_cons_of_mem))) (by (repeat (first | assumption | exact List.mem_cons_self | apply List.mem_cons_of_mem))) ?_ ?_); (next => (simp only [List.length_append, List.length_cons, List.length_nil, List.length_replicate, List.length_take, List.length_drop, List.length_set]; omega)); intro _
  with_reducible refine Tr.bind ?_
  with_reducible refine Tr.bind ?_
  with_reducible refine Tr.bind ?_
  with_reducible refine Tr.bind ?_
  with_reducible refine Tr.bind ?_
  with_reducible refine Tr.pure ?_
  with_reducible refine Tr.getF (by (repeat (first | assumption | exact List.mem_cons_self | apply List.mem_cons_of_mem))) (by (repeat (first | assumption | exact List.mem_cons_self | apply List.mem_cons_of_mem))) (by exact en_extent) ?_
  with_reducible refine Tr.bind ?_
  with_reducible refine Tr.pure ?_
  (with_reducible refine Tr.mod ?_ ?_); (next => omega)
  with_reducible refine Tr.bind ?_
  with_reducible refine Tr.bind ?_
  with_reducible refine Tr.bind ?_
  with_reducible refine Tr.pure ?_
  with_reducible refine Tr.getF (by (repeat (first | assumption | exact List.mem_cons_self | apply List.mem_cons_of_mem))) (by (repeat (first | assumption | exact List.mem_cons_self | apply List.mem_cons_of_mem))) (by exact en_spare) ?_
  with_reducible refine Tr.bind ?_
  with_reducible refine Tr.bind ?_
  with_reducible refine Tr.bind ?_
  with_reducible refine Tr.bind ?_
  with_reducible refine Tr.pure ?_
  with_reducible refine Tr.getF (by (repeat (first | assumption | exact List.mem_cons_self | apply List.mem_cons_of_mem))) (by (repeat (first | assumption | exact List.mem_cons_self | apply List.mem_cons_of_mem))) (by exact en_extent) ?_
  with_reducible refine Tr.bind ?_
  with_reducible refine Tr.pure ?_
  (with_reducible refine Tr.fdiv ?_ ?_); (next => omega)
  with_reducible refine Tr.bind ?_
  with_reducible refine Tr.bind ?_
  with_reducible refine Tr.bind ?_
  with_reducible refine Tr.pure ?_
  with_reducible refine Tr.getF (by (repeat (first | assumption | exact List.mem_cons_self | apply List.mem_cons_of_mem))) (by (repeat (first | assumption | exact List.mem_cons_self | apply List.mem_cons_of_mem))) (by exact en_count) ?_
  with_reducible refine Tr.bind ?_
  with_reducible refine Tr.pure ?_
  with_reducible refine Tr.pure ?_
  with_reducible refine Tr.pure ?_
  with_reducible refine Tr.pure ?_
  with_reducible refine Tr.pure ?_
  (with_reducible refine Tr.ints (by with_unfolding_all rfl) ?_ ?_); (next => exact Nat.le_of_ble_eq_true rfl); intro _
  (with_reducible refine Tr.cat (by (repeat (first | assumption | exact List.mem_cons_self | apply List.mem_cons_of_mem))) (by (repeat (first | assumption | exact List.mem_cons_self | apply List.mem_cons_of_mem))) ?_ ?_); (next => (simp only [List.length_append, List.length_cons, List.length_nil, List.length_replicate, List.length_take, List.length_drop, List.length_set]; omega)); intro _
  with_reducible refine Tr.bind ?_
  with_reducible refine Tr.bind ?_
  with_reducible refine Tr.noErr ?_
  with_reducible refine Tr.bind ?_
  with_reducible refine Tr.pure ?_
  with_reducible refine Tr.getF (by (repeat (first | assumption | exact List.mem_cons_self | apply List.mem_cons_of_mem))) (by (repeat (first | assumption | exact List.mem_cons_self | apply List.mem_cons_of_mem))) (by exact en_map) ?_
  rename_i n0
  refine Tr.imp (Γ' := (n0, .is (.ints ([u] ++ raw ++ [ext % 32, sp, ext / 32, ct]))) :: Γ) (Imp.sub (by (repeat (first | exact List.Sublist.refl _ | apply List.Sublist.cons₂ | apply List.Sublist.cons)))) ?_
  obtain ⟨Δ, w, hk⟩ := Pull.of_mem hm
  have hd' := hk _ hd (fun e => by cases (Prod.mk.inj e).2)
  have hf' := hk _ hf (fun e => by cases (Prod.mk.inj e).2)
  refine Tr.pull (Pull.next w) (Tr.forInts (J := fun done a Δ' => ∃ n, a = .loc n ∧ Δ' = (n, .is (.ints ([u] ++ raw ++ [ext % 32, sp, ext / 32, ct] ++ mo B done))) :: Δ) ⟨n0, rfl, by simp [mo]⟩ ?_ ?_)
  · rintro done k rest _ _ e ⟨n, rfl, rfl⟩
    have hl := mo_len (B := B) done
    have hn : done.length ≤ 1000 := by rw [e, List.length_append] at hz; omega
    by_cases h : B ≤ 256
    · with_reducible refine Tr.bind ?_
      with_reducible refine Tr.pure ?_
      with_reducible refine Tr.bind ?_
      with_reducible refine Tr.bind ?_
      with_reducible refine Tr.bind ?_
      with_reducible refine Tr.bind ?_
      with_reducible refine Tr.pure ?_
      with_reducible refine Tr.getF (by (repeat (first | assumption | exact List.mem_cons_self | apply List.mem_cons_of_mem))) (by (repeat (first | assumption | exact List.mem_cons_self | apply List.mem_cons_of_mem))) (by exact dk_blocks) ?_
      with_reducible refine Tr.bind ?_
      with_reducible refine Tr.pure ?_
      with_reducible refine Tr.bind ?_
      (with_reducible refine Tr.leI (c := true) ?_ ?_); (next => exact decide_eq_true (by omega))
      with_reducible refine Tr.bool ?_
      (with_reducible refine Tr.ifT ?_ ?_); (next => rfl)
      with_reducible refine Tr.bind ?_
      with_reducible refine Tr.bind ?_
      with_reducible refine Tr.pure ?_
      with_reducible refine Tr.bind ?_
      with_reducible refine Tr.pure ?_
      with_reducible refine Tr.pure ?_
      (with_reducible refine Tr.ints (by with_unfolding_all rfl) ?_ ?_); (next => exact Nat.le_of_ble_eq_true rfl); intro _
      (with_reducible refine Tr.cat (by (repeat (first | assumption | exact List.mem_cons_self | apply List.mem_cons_of_mem))) (by (repeat (first | assumption | exact List.mem_cons_self | apply List.mem_cons_of_mem))) ?_ ?_); (next => (simp only [List.length_append, List.length_cons, List.length_nil, List.length_replicate, List.length_take, List.length_drop, List.length_set]; omega)); intro _
      rename_i n2
      refine ⟨(n2, .is (.ints ([u] ++ raw ++ [ext % 32, sp, ext / 32, ct] ++ mo B done ++ [k]))) :: Δ, ?_, n2, rfl, ?_⟩
      · exact fun H S => (S.sub (Γ' := [_] ++ [_] ++ Δ) (List.Sublist.cons₂ _ (List.Sublist.cons _ (List.Sublist.cons₂ _ (List.Sublist.cons _ (List.Sublist.refl _)))))).perm (List.Perm.swap ..)
      · rw [mo_snoc, oc, if_pos h, List.append_assoc _ (mo B done)]
    · with_reducible refine Tr.bind ?_
      with_reducible refine Tr.pure ?_
      with_reducible refine Tr.bind ?_
      with_reducible refine Tr.bind ?_
      with_reducible refine Tr.bind ?_
      with_reducible refine Tr.bind ?_
      with_reducible refine Tr.pure ?_
      with_reducible refine Tr.getF (by (repeat (first | assumption | exact List.mem_cons_self | apply List.mem_cons_of_mem))) (by (repeat (first | assumption | exact List.mem_cons_self | apply List.mem_cons_of_mem))) (by exact dk_blocks) ?_
      with_reducible refine Tr.bind ?_
      with_reducible refine Tr.pure ?_
      with_reducible refine Tr.bind ?_
      (with_reducible refine Tr.leI (c := false) ?_ ?_); (next => exact decide_eq_false (by omega))
      with_reducible refine Tr.bool ?_
      (with_reducible refine Tr.ifF ?_ ?_); (next => rfl)
      with_reducible refine Tr.bind ?_
      with_reducible refine Tr.bind ?_
      with_reducible refine Tr.bind ?_
      with_reducible refine Tr.pure ?_
      with_reducible refine Tr.bind ?_
      with_reducible refine Tr.pure ?_
      (with_reducible refine Tr.mod ?_ ?_); (next => omega)
      with_reducible refine Tr.bind ?_
      with_reducible refine Tr.bind ?_
      with_reducible refine Tr.bind ?_
      with_reducible refine Tr.pure ?_
      with_reducible refine Tr.bind ?_
      with_reducible refine Tr.pure ?_
      (with_reducible refine Tr.fdiv ?_ ?_); (next => omega)
      with_reducible refine Tr.bind ?_
      with_reducible refine Tr.pure ?_
      with_reducible refine Tr.pure ?_
      with_reducible refine Tr.pure ?_
      (with_reducible refine Tr.ints (by with_unfolding_all rfl) ?_ ?_); (next => exact Nat.le_of_ble_eq_true rfl); intro _
      (with_reducible refine Tr.cat (by (repeat (first | assumption | exact List.mem_cons_self | apply List.mem_cons_of_mem))) (by (repeat (first | assumption | exact List.mem_cons_self | apply List.mem_cons_of_mem))) ?_ ?_); (next => (simp only [List.length_append, List.length_cons, List.length_nil, List.length_replicate, List.length_take, List.length_drop, List.length_set]; omega)); intro _
      rename_i n2
      refine ⟨(n2, .is (.ints ([u] ++ raw ++ [ext % 32, sp, ext / 32, ct] ++ mo B done ++ [k % 256, k / 256]))) :: Δ, ?_, n2, rfl, ?_⟩
      · exact fun H S => (S.sub (Γ' := [_] ++ [_] ++ Δ) (List.Sublist.cons₂ _ (List.Sublist.cons _ (List.Sublist.cons₂ _ (List.Sublist.cons _ (List.Sublist.refl _)))))).perm (List.Perm.swap ..)
      · rw [mo_snoc, oc, if_neg h, List.append_assoc _ (mo B done)]
  · rintro _ _ ⟨n, rfl, rfl⟩
    with_reducible refine Tr.bind ?_
    with_reducible refine Tr.pure ?_
    with_reducible refine Tr.pure ?_
    exact ⟨_, Pull.back (Pull.next w), q n⟩
theorem T167 (ho : (o, As.is (.ints L)) ∈ Γ) (hl : L.length = 32) (hb : ∀ i, -100000 ≤ L.getD i 0 ∧ L.getD i 0 ≤ 100000) (q : ∀ n, Q (.loc n) ((n, .is (.ints (ma B L))) :: Γ)) : Tr Γ (M167 [.loc d, .loc o]) Q E := by
  refine Tr.wk (Tr.bind (Tr.cb1 (v := some (.loc o)) rfl rfl fun ck => ?_))
  show Tr _ (P167 (.loc d) (.loc o) ck) _ _
  unfold P167
  by_cases h : B ≤ 256
  · have hs : (if B ≤ 256 then 16 else 8 : Int) = 16 := if_pos h
    with_reducible refine Tr.bind ?_
    with_reducible refine Tr.bind ?_
    with_reducible refine Tr.bind ?_
    with_reducible refine Tr.bind ?_
    with_reducible refine Tr.pure ?_
    with_reducible refine Tr.bind ?_
    with_reducible refine Tr.pure ?_
    with_reducible refine Tr.pure ?_
    with_reducible refine T85 (by (repeat (first | assumption | exact List.mem_cons_self | apply List.mem_cons_of_mem))) (by (repeat (first | assumption | exact List.mem_cons_self | apply List.mem_cons_of_mem))) ?_
    with_reducible refine Tr.bind ?_
    with_reducible refine Tr.pure ?_
    with_reducible refine Tr.bind ?_
    (with_reducible refine Tr.eqI (c := true) ?_ ?_); (next => exact beq_iff_eq.mpr (by omega))
    with_reducible refine Tr.bool ?_
    with_reducible refine Tr.bind ?_
    (with_reducible refine Tr.ifT ?_ ?_); (next => rfl)
    with_reducible refine Tr.bind ?_
    with_reducible refine Tr.bind ?_
    with_reducible refine Tr.cell (by (repeat (first | assumption | exact List.mem_cons_self | apply List.mem_cons_of_mem))) ?_
    with_reducible refine Tr.bind ?_
    with_reducible refine Tr.pure ?_
    with_reducible refine Tr.bind ?_
    with_reducible refine Tr.pure ?_
    (with_reducible refine Tr.slice (by (repeat (first | assumption | exact List.mem_cons_self | apply List.mem_cons_of_mem))) ?_ ?_ ?_ ?_); (next => omega); (next => omega); (next => omega); intro _
    with_reducible refine Tr.pure ?_
    with_reducible refine Tr.aftS ?_
    with_reducible refine Tr.pure ?_
    rw [ma, if_pos h] at q
    exact ⟨_, Imp.sub (List.Sublist.cons₂ _ (List.Sublist.cons _ (List.Sublist.refl _))), q _⟩
  · have hs : (if B ≤ 256 then 16 else 8 : Int) = 8 := if_neg h
    with_reducible refine Tr.bind ?_
    with_reducible refine Tr.bind ?_
    with_reducible refine Tr.bind ?_
    with_reducible refine Tr.bind ?_
    with_reducible refine Tr.pure ?_
    with_reducible refine Tr.bind ?_
    with_reducible refine Tr.pure ?_
    with_reducible refine Tr.pure ?_
    with_reducible refine T85 (by (repeat (first | assumption | exact List.mem_cons_self | apply List.mem_cons_of_mem))) (by (repeat (first | assumption | exact List.mem_cons_self | apply List.mem_cons_of_mem))) ?_
    with_reducible refine Tr.bind ?_
    with_reducible refine Tr.pure ?_
    with_reducible refine Tr.bind ?_
    (with_reducible refine Tr.eqI (c := false) ?_ ?_); (next => exact beq_eq_false_iff_ne.mpr (by omega))
    with_reducible refine Tr.bool ?_
    with_reducible refine Tr.bind ?_
    (with_reducible refine Tr.ifF ?_ ?_); (next => rfl)
    with_reducible refine Tr.pure ?_
    with_reducible refine Tr.aftN ?_
    with_reducible refine Tr.bind ?_
    with_reducible refine Tr.bind ?_
    with_reducible refine Tr.bind ?_
    with_reducible refine Tr.bind ?_
    with_reducible refine Tr.pure ?_
    with_reducible refine Tr.bind ?_
    with_reducible refine Tr.bind ?_
    with_reducible refine Tr.pure ?_
    with_reducible refine Tr.bind ?_
    with_reducible refine Tr.bind ?_
    with_reducible refine Tr.pure ?_
    with_reducible refine Tr.bind ?_
    with_reducible refine Tr.pure ?_
    with_reducible refine Tr.pure ?_
    with_reducible refine Tr.pure ?_
    with_reducible refine Tr.pure ?_
    refine Tr.rng16 ?_
    with_reducible refine Tr.bind ?_
    refine Tr.compR (R := fun k i => i = L.getD k.toNat 0 + 256 * L.getD (k + 1).toNat 0) (by decide) (fun k hk => ?_) fun l h1 h2 => ?_
    · have hk' : 16 ≤ k ∧ k ≤ 30 := by
        unfold rangeIs at hk
        obtain ⟨i, hi, rfl⟩ := List.mem_map.mp hk
        have := List.mem_range.mp hi
        omega
      have b1 := hb (k + 1).toNat
      with_reducible refine Tr.bind ?_
      with_reducible refine Tr.bind ?_
      with_reducible refine Tr.cell (by (repeat (first | assumption | exact List.mem_cons_self | apply List.mem_cons_of_mem))) ?_
      with_reducible refine Tr.bind ?_
      with_reducible refine Tr.pure ?_
      (with_reducible refine Tr.getI (by (repeat (first | assumption | exact List.mem_cons_self | apply List.mem_cons_of_mem))) ?_ ?_); (next => omega)
      with_reducible refine Tr.bind ?_
      with_reducible refine Tr.bind ?_
      with_reducible refine Tr.pure ?_
      with_reducible refine Tr.bind ?_
      with_reducible refine Tr.bind ?_
      with_reducible refine Tr.cell (by (repeat (first | assumption | exact List.mem_cons_self | apply List.mem_cons_of_mem))) ?_
      with_reducible refine Tr.bind ?_
      with_reducible refine Tr.bind ?_
      with_reducible refine Tr.pure ?_
      with_reducible refine Tr.bind ?_
      with_reducible refine Tr.pure ?_
      with_reducible refine Tr.add ?_
      (with_reducible refine Tr.getI (by (repeat (first | assumption | exact List.mem_cons_self | apply List.mem_cons_of_mem))) ?_ ?_); (next => omega)
      (with_reducible refine Tr.mul ?_ ?_); (next => omega)
      with_reducible refine Tr.add ?_
      exact ⟨Imp.rfl, _, rfl, rfl⟩
    · (with_reducible refine Tr.newl ?_); intro _
      with_reducible refine Tr.pure ?_
      with_reducible refine Tr.pure ?_
      refine ⟨_, Imp.sub (List.Sublist.cons₂ _ (List.Sublist.cons _ (List.Sublist.refl _))), ?_⟩
      have e : l = ma B L := by
        rw [ma, if_neg h]
        refine List.ext_getElem (by rw [h1]; rfl) fun i a b => ?_
        have := h2 ((rangeIs 16 2 8)[i]'(by rw [rangeIs_len]; omega), l[i]) (List.mem_iff_getElem.mpr ⟨i, by simp [rangeIs_len, h1] at *; omega, by simp⟩)
        simpa using this
      rw [e]; exact q _
omit hd hf in
/-- the parts of an entry -/
theorem T219 {e de r m : Nat} (he : (e, As.is (.inst 74 de)) ∈ Γ) (hg : (de, As.is (.dict (en u r ext sp ct m))) ∈ Γ) (hr : (r, As.is (.ints raw)) ∈ Γ) (hm : (m, As.is (.ints mp)) ∈ Γ) (hz : mp.length ≤ 1000) (hy : raw.length ≤ 1000)
    (q : ∀ n r' m', Q (.loc n) ((n, .is (.mix [.int u, .loc r', .int ext, .int sp, .int ct, .loc m'])) :: (m', .is (.ints mp)) :: (r', .is (.ints raw)) :: Γ)) : Tr Γ (M219 [.loc e]) Q E := by
  refine Tr.m1 (P := P219) ?_
  unfold P219
  with_reducible refine Tr.bind ?_
  with_reducible refine Tr.bind ?_
  with_reducible refine Tr.bind ?_
  with_reducible refine Tr.bind ?_
  with_reducible refine Tr.pure ?_
  with_reducible refine Tr.getF (by (repeat (first | assumption | exact List.mem_cons_self | apply List.mem_cons_of_mem))) (by (repeat (first | assumption | exact List.mem_cons_self | apply List.mem_cons_of_mem))) (by exact en_user) ?_
  with_reducible refine Tr.bind ?_
  with_reducible refine Tr.bind ?_
  with_reducible refine Tr.bind ?_
  with_reducible refine Tr.bind ?_
  with_reducible refine Tr.bind ?_
  with_reducible refine Tr.pure ?_
  with_reducible refine Tr.getF (by (repeat (first | assumption | exact List.mem_cons_self | apply List.mem_cons_of_mem))) (by (repeat (first | assumption | exact List.mem_cons_self | apply List.mem_cons_of_mem))) (by exact en_raw) ?_
  with_reducible refine Tr.bind ?_
  with_reducible refine Tr.pure ?_
  with_reducible refine Tr.pure ?_
  (with_reducible refine Tr.copy (by (repeat (first | assumption | exact List.mem_cons_self | apply List.mem_cons_of_mem))) ?_ ?_); (next => omega); intro _
  with_reducible refine Tr.bind ?_
  with_reducible refine Tr.bind ?_
  with_reducible refine Tr.bind ?_
  with_reducible refine Tr.pure ?_
  with_reducible refine Tr.getF (by (repeat (first | assumption | exact List.mem_cons_self | apply List.mem_cons_of_mem))) (by (repeat (first | assumption | exact List.mem_cons_self | apply List.mem_cons_of_mem))) (by exact en_extent) ?_
  with_reducible refine Tr.bind ?_
  with_reducible refine Tr.bind ?_
  with_reducible refine Tr.bind ?_
  with_reducible refine Tr.pure ?_
  with_reducible refine Tr.getF (by (repeat (first | assumption | exact List.mem_cons_self | apply List.mem_cons_of_mem))) (by (repeat (first | assumption | exact List.mem_cons_self | apply List.mem_cons_of_mem))) (by exact en_spare) ?_
  with_reducible refine Tr.bind ?_
  with_reducible refine Tr.bind ?_
  with_reducible refine Tr.bind ?_
  with_reducible refine Tr.pure ?_
  with_reducible refine Tr.getF (by (repeat (first | assumption | exact List.mem_cons_self | apply List.mem_cons_of_mem))) (by (repeat (first | assumption | exact List.mem_cons_self | apply List.mem_cons_of_mem))) (by exact en_count) ?_
  with_reducible refine Tr.bind ?_
  with_reducible refine Tr.bind ?_
  with_reducible refine Tr.bind ?_
  with_reducible refine Tr.bind ?_
  with_reducible refine Tr.bind ?_
  with_reducible refine Tr.pure ?_
  with_reducible refine Tr.getF (by (repeat (first | assumption | exact List.mem_cons_self | apply List.mem_cons_of_mem))) (by (repeat (first | assumption | exact List.mem_cons_self | apply List.mem_cons_of_mem))) (by exact en_map) ?_
  with_reducible refine Tr.bind ?_
  with_reducible refine Tr.pure ?_
  with_reducible refine Tr.pure ?_
  (with_reducible refine Tr.copy (by (repeat (first | assumption | exact List.mem_cons_self | apply List.mem_cons_of_mem))) ?_ ?_); (next => omega); intro _
  with_reducible refine Tr.bind ?_
  with_reducible refine Tr.pure ?_
  with_reducible refine Tr.pure ?_
  with_reducible refine Tr.pure ?_
  with_reducible refine Tr.pure ?_
  with_reducible refine Tr.pure ?_
  with_reducible refine Tr.pure ?_
  with_reducible refine Tr.pure ?_
  (with_reducible refine Tr.mix ?_ ?_); (next => exact Nat.le_of_ble_eq_true rfl); intro _
  with_reducible refine Tr.pure ?_
  exact q _ _ _
theorem T127n (ho : (o, As.is (.ints L)) ∈ Γ) (hl : 0 < L.length ∧ L.length ≤ 1000) (h0 : L.getD 0 0 = 229) (q : Q .none Γ) : Tr Γ (M127 [.loc d, .loc o]) Q E := by
  refine Tr.m2 (P := P127) ?_
  have z : L.getD (0 : Int).toNat 0 = 229 := h0
  unfold P127
  with_reducible refine Tr.bind ?_
  with_reducible refine Tr.bind ?_
  with_reducible refine Tr.bind ?_
  with_reducible refine Tr.pure ?_
  with_reducible refine Tr.bind ?_
  with_reducible refine Tr.pure ?_
  (with_reducible refine Tr.getI (by (repeat (first | assumption | exact List.mem_cons_self | apply List.mem_cons_of_mem))) ?_ ?_); (next => omega)
  with_reducible refine Tr.bind ?_
  with_reducible refine Tr.pure ?_
  with_reducible refine Tr.bind ?_
  (with_reducible refine Tr.eqI (c := true) ?_ ?_); (next => exact beq_iff_eq.mpr (by omega))
  with_reducible refine Tr.bool ?_
  with_reducible refine Tr.bind ?_
  (with_reducible refine Tr.ifT ?_ ?_); (next => rfl)
  with_reducible refine Tr.bind ?_
  with_reducible refine Tr.pure ?_
  with_reducible refine Tr.pure ?_
  with_reducible refine Tr.aftS ?_
  exact q
theorem T127 (ho : (o, As.is (.ints L)) ∈ Γ) (hl : L.length = 32) (hb : ∀ i, -100000 ≤ L.getD i 0 ∧ L.getD i 0 ≤ 100000) (h0 : L.getD 0 0 ≠ 229)
    (q : ∀ e de r m, Q (.loc e) ((m, .is (.ints (ma B L))) :: (r, .is (.ints ((L.take 12).drop 1))) :: (e, .is (.inst 74 de)) :: (de, .is (.dict (en (L.getD 0 0) r (L.getD 14 0 * 32 + L.getD 12 0 % 32) (L.getD 13 0) (L.getD 15 0) m))) :: Γ)) : Tr Γ (M127 [.loc d, .loc o]) Q E := by
  refine Tr.m2 (P := P127) (Tr.wk ?_)
  have z : L.getD (0 : Int).toNat 0 ≠ 229 := h0
  have b14 : -100000 ≤ L.getD (14 : Int).toNat 0 ∧ L.getD (14 : Int).toNat 0 ≤ 100000 := hb 14
  unfold P127
  with_reducible refine Tr.bind ?_
  with_reducible refine Tr.bind ?_
  with_reducible refine Tr.bind ?_
  with_reducible refine Tr.pure ?_
  with_reducible refine Tr.bind ?_
  with_reducible refine Tr.pure ?_
  (with_reducible refine Tr.getI (by (repeat (first | assumption | exact List.mem_cons_self | apply List.mem_cons_of_mem))) ?_ ?_); (next => omega)
  with_reducible refine Tr.bind ?_
  with_reducible refine Tr.pure ?_
  with_reducible refine Tr.bind ?_
  (with_reducible refine Tr.eqI (c := false) ?_ ?_); (next => exact beq_eq_false_iff_ne.mpr (by omega))
  with_reducible refine Tr.bool ?_
  with_reducible refine Tr.bind ?_
  (with_reducible refine Tr.ifF ?_ ?_); (next => rfl)
  with_reducible refine Tr.pure ?_
  with_reducible refine Tr.aftN ?_
  with_reducible refine Tr.bind ?_
  with_reducible refine Tr.bind ?_
  with_reducible refine Tr.bind ?_
  with_reducible refine Tr.bind ?_
  with_reducible refine Tr.pure ?_
  with_reducible refine Tr.bind ?_
  with_reducible refine Tr.pure ?_
  (with_reducible refine Tr.getI (by (repeat (first | assumption | exact List.mem_cons_self | apply List.mem_cons_of_mem))) ?_ ?_); (next => omega)
  with_reducible refine Tr.bind ?_
  with_reducible refine Tr.bind ?_
  with_reducible refine Tr.bind ?_
  with_reducible refine Tr.pure ?_
  with_reducible refine Tr.bind ?_
  with_reducible refine Tr.pure ?_
  with_reducible refine Tr.bind ?_
  with_reducible refine Tr.bind ?_
  with_reducible refine Tr.pure ?_
  with_reducible refine Tr.bind ?_
  with_reducible refine Tr.pure ?_
  with_reducible refine Tr.add ?_
  (with_reducible refine Tr.slice (by (repeat (first | assumption | exact List.mem_cons_self | apply List.mem_cons_of_mem))) ?_ ?_ ?_ ?_); (next => omega); (next => omega); (next => omega); intro _
  with_reducible refine Tr.bind ?_
  with_reducible refine Tr.bind ?_
  with_reducible refine Tr.bind ?_
  with_reducible refine Tr.bind ?_
  with_reducible refine Tr.bind ?_
  with_reducible refine Tr.pure ?_
  with_reducible refine Tr.bind ?_
  with_reducible refine Tr.pure ?_
  (with_reducible refine Tr.getI (by (repeat (first | assumption | exact List.mem_cons_self | apply List.mem_cons_of_mem))) ?_ ?_); (next => omega)
  with_reducible refine Tr.bind ?_
  with_reducible refine Tr.pure ?_
  (with_reducible refine Tr.mul ?_ ?_); (next => omega)
  with_reducible refine Tr.bind ?_
  with_reducible refine Tr.bind ?_
  with_reducible refine Tr.bind ?_
  with_reducible refine Tr.pure ?_
  with_reducible refine Tr.bind ?_
  with_reducible refine Tr.pure ?_
  (with_reducible refine Tr.getI (by (repeat (first | assumption | exact List.mem_cons_self | apply List.mem_cons_of_mem))) ?_ ?_); (next => omega)
  with_reducible refine Tr.bind ?_
  with_reducible refine Tr.pure ?_
  (with_reducible refine Tr.mod ?_ ?_); (next => omega)
  with_reducible refine Tr.add ?_
  with_reducible refine Tr.bind ?_
  with_reducible refine Tr.pure ?_
  with_reducible refine Tr.pure ?_
  with_reducible refine Tr.pure ?_
  with_reducible refine Tr.pure ?_
  (with_reducible refine T74 (by (repeat (first | assumption | exact List.mem_cons_self | apply List.mem_cons_of_mem))) ?_ ?_); (next => (simp only [List.length_append, List.length_cons, List.length_nil, List.length_replicate, List.length_take, List.length_drop, List.length_set]; omega)); intro _ _ _ _
  with_reducible refine Tr.bind ?_
  with_reducible refine Tr.bind ?_
  with_reducible refine Tr.bind ?_
  with_reducible refine Tr.pure ?_
  with_reducible refine Tr.bind ?_
  with_reducible refine Tr.pure ?_
  (with_reducible refine Tr.getI (by (repeat (first | assumption | exact List.mem_cons_self | apply List.mem_cons_of_mem))) ?_ ?_); (next => omega)
  with_reducible refine Tr.bind ?_
  with_reducible refine Tr.pure ?_
  (with_reducible refine Tr.setF (by (repeat (first | assumption | exact List.mem_cons_self | apply List.mem_cons_of_mem))) (by (repeat (first | exact Up.here | apply Up.next))) (by exact enp_spare) ?_ ?_); (next => exact Nat.le_of_ble_eq_true rfl)
  with_reducible refine Tr.bind ?_
  with_reducible refine Tr.bind ?_
  with_reducible refine Tr.bind ?_
  with_reducible refine Tr.pure ?_
  with_reducible refine Tr.bind ?_
  with_reducible refine Tr.pure ?_
  (with_reducible refine Tr.getI (by (repeat (first | assumption | exact List.mem_cons_self | apply List.mem_cons_of_mem))) ?_ ?_); (next => omega)
  with_reducible refine Tr.bind ?_
  with_reducible refine Tr.pure ?_
  (with_reducible refine Tr.setF (by (repeat (first | assumption | exact List.mem_cons_self | apply List.mem_cons_of_mem))) (by (repeat (first | exact Up.here | apply Up.next))) (by exact enp_count) ?_ ?_); (next => exact Nat.le_of_ble_eq_true rfl)
  with_reducible refine Tr.bind ?_
  with_reducible refine Tr.bind ?_
  with_reducible refine Tr.bind ?_
  with_reducible refine Tr.bind ?_
  with_reducible refine Tr.pure ?_
  with_reducible refine Tr.bind ?_
  with_reducible refine Tr.bind ?_
  with_reducible refine Tr.pure ?_
  with_reducible refine Tr.bind ?_
  with_reducible refine Tr.pure ?_
  with_reducible refine Tr.pure ?_
  with_reducible refine Tr.pure ?_
  (with_reducible refine T167 (by (repeat (first | assumption | exact List.mem_cons_self | apply List.mem_cons_of_mem))) (by (repeat (first | assumption | exact List.mem_cons_self | apply List.mem_cons_of_mem))) (by (repeat (first | assumption | exact List.mem_cons_self | apply List.mem_cons_of_mem))) ?_ ?_ ?_); (next => omega); (next => assumption); intro _
  with_reducible refine Tr.bind ?_
  with_reducible refine Tr.pure ?_
  (with_reducible refine Tr.setF (by (repeat (first | assumption | exact List.mem_cons_self | apply List.mem_cons_of_mem))) (by (repeat (first | exact Up.here | apply Up.next))) (by exact enp_map) ?_ ?_); (next => exact Nat.le_of_ble_eq_true rfl)
  with_reducible refine Tr.bind ?_
  with_reducible refine Tr.pure ?_
  with_reducible refine Tr.pure ?_
  rename_i n1 e de r m0 n
  exact ⟨_, Imp.sub (by (repeat (first | exact List.Sublist.refl _ | apply List.Sublist.cons₂ | apply List.Sublist.cons))), q e de r n⟩
end
end Mine
end

/-! ## PL5 -/
section
open PySem PySem.W PySem.Calls PyProof.Rows
namespace Mine
/-! octets laid over data -/
noncomputable def ov (D : List Int) (k : Nat) (l : List Int) : List Int := D.take k ++ l ++ D.drop (k + l.length)
theorem ov_len {D l : List Int} {k : Nat} (h : k + l.length ≤ D.length) : (ov D k l).length = D.length := by simp [ov]; omega
theorem ov_nil {D : List Int} {k : Nat} : ov D k [] = D := by simp [ov]
theorem ov_set {D l : List Int} {k : Nat} {v : Int} (h : k + l.length < D.length) : (ov D k l).set (k + l.length) v = ov D k (l ++ [v]) := by
  have e : D.drop (k + l.length) = D[k + l.length] :: D.drop (k + l.length + 1) := List.drop_eq_getElem_cons h
  have hk : (D.take k ++ l).length = k + l.length := by simp; omega
  rw [ov, e, List.set_append_right _ _ (by omega), hk, Nat.sub_self, List.set_cons_zero, ov, List.length_append, List.length_singleton, ← Nat.add_assoc]
  simp
section
variable {Γ Γ' Δ : Ct} {i j n d dd x e de r m o : Nat} {B K R N u ext sp ct k : Int} {ro ro' : Bool} {a a1 a2 a3 a4 : AV} {raw mp L D : List Int} {E : Str → Ct → Prop} {Q : AV → Ct → Prop}
section
variable (hd : (d, As.is (.inst 53 dd)) ∈ Γ) (hf : (dd, As.is (.dict (dk B K R N ro x))) ∈ Γ)
include hd hf
theorem T134 (hx : (x, As.is (.ints D)) ∈ Γ) (hk : 0 ≤ k ∧ k < N) (hN : N ≤ 1000) (hz : D.length ≤ 1000000) (q : ∀ l, Q (.loc l) ((l, .is (.ints ((D.take ((k + 1) * 32).toNat).drop (k * 32).toNat))) :: Γ)) : Tr Γ (M134 [.loc d, .int k]) Q E := by
  refine Tr.m2 (P := P134) ?_
  unfold P134
  with_reducible refine Tr.bind ?_
  with_reducible refine Tr.bind ?_
  with_reducible refine Tr.bind ?_
  with_reducible refine Tr.pure ?_
  with_reducible refine Tr.bind ?_
  with_reducible refine Tr.pure ?_
  with_reducible refine Tr.bind ?_
  (with_reducible refine Tr.leI (c := true) ?_ ?_); (next => exact decide_eq_true (by omega))
  with_reducible refine Tr.bind ?_
  with_reducible refine Tr.bool ?_
  (with_reducible refine Tr.ifT ?_ ?_); (next => rfl)
  with_reducible refine Tr.bind ?_
  with_reducible refine Tr.bind ?_
  with_reducible refine Tr.pure ?_
  with_reducible refine Tr.getF (by (repeat (first | assumption | exact List.mem_cons_self | apply List.mem_cons_of_mem))) (by (repeat (first | assumption | exact List.mem_cons_self | apply List.mem_cons_of_mem))) (by exact dk_entries) ?_
  with_reducible refine Tr.bind ?_
  (with_reducible refine Tr.ltI (c := true) ?_ ?_); (next => exact decide_eq_true (by omega))
  with_reducible refine Tr.bool ?_
  with_reducible refine Tr.pure ?_
  with_reducible refine Tr.bind ?_
  (with_reducible refine Tr.ifF ?_ ?_); (next => rfl)
  with_reducible refine Tr.pure ?_
  with_reducible refine Tr.aftN ?_
  with_reducible refine Tr.bind ?_
  with_reducible refine Tr.bind ?_
  with_reducible refine Tr.bind ?_
  with_reducible refine Tr.pure ?_
  with_reducible refine Tr.getF (by (repeat (first | assumption | exact List.mem_cons_self | apply List.mem_cons_of_mem))) (by (repeat (first | assumption | exact List.mem_cons_self | apply List.mem_cons_of_mem))) (by exact dk_data) ?_
  with_reducible refine Tr.bind ?_
  with_reducible refine Tr.bind ?_
  with_reducible refine Tr.pure ?_
  with_reducible refine Tr.bind ?_
  with_reducible refine Tr.pure ?_
  (with_reducible refine Tr.mul ?_ ?_); (next => omega)
  with_reducible refine Tr.bind ?_
  with_reducible refine Tr.bind ?_
  with_reducible refine Tr.bind ?_
  with_reducible refine Tr.pure ?_
  with_reducible refine Tr.bind ?_
  with_reducible refine Tr.pure ?_
  with_reducible refine Tr.add ?_
  with_reducible refine Tr.bind ?_
  with_reducible refine Tr.pure ?_
  (with_reducible refine Tr.mul ?_ ?_); (next => omega)
  (with_reducible refine Tr.slice (by (repeat (first | assumption | exact List.mem_cons_self | apply List.mem_cons_of_mem))) ?_ ?_ ?_ ?_); (next => omega); (next => omega); (next => omega); intro _
  with_reducible refine Tr.pure ?_
  exact q _
theorem T134e (hk : N ≤ k) (h0 : 0 ≤ k) (q : E "range" Γ) : Tr Γ (M134 [.loc d, .int k]) Q E := by
  refine Tr.m2 (P := P134) ?_
  unfold P134
  with_reducible refine Tr.bind ?_
  with_reducible refine Tr.bind ?_
  with_reducible refine Tr.bind ?_
  with_reducible refine Tr.pure ?_
  with_reducible refine Tr.bind ?_
  with_reducible refine Tr.pure ?_
  with_reducible refine Tr.bind ?_
  (with_reducible refine Tr.leI (c := true) ?_ ?_); (next => exact decide_eq_true (by omega))
  with_reducible refine Tr.bind ?_
  with_reducible refine Tr.bool ?_
  (with_reducible refine Tr.ifT ?_ ?_); (next => rfl)
  with_reducible refine Tr.bind ?_
  with_reducible refine Tr.bind ?_
  with_reducible refine Tr.pure ?_
  with_reducible refine Tr.getF (by (repeat (first | assumption | exact List.mem_cons_self | apply List.mem_cons_of_mem))) (by (repeat (first | assumption | exact List.mem_cons_self | apply List.mem_cons_of_mem))) (by exact dk_entries) ?_
  with_reducible refine Tr.bind ?_
  (with_reducible refine Tr.ltI (c := false) ?_ ?_); (next => exact decide_eq_false (by omega))
  with_reducible refine Tr.bool ?_
  with_reducible refine Tr.pure ?_
  with_reducible refine Tr.bind ?_
  (with_reducible refine Tr.ifT ?_ ?_); (next => rfl)
  exact Tr.err q
/-- where a record stands -/
theorem T181 {b i : Int} (hb : 0 ≤ b ∧ b < B) (hi : 0 ≤ i ∧ i < K / R) (hR : 0 < R ∧ R < 1000000) (hz : B < 1000000 ∧ K < 1000000 ∧ 0 < K ∧ K / R < 1000000) (q : Q (.int (b * K + i * R)) Γ) : Tr Γ (M181 [.loc d, .int b, .int i]) Q E := by
  refine Tr.m3 (P := P181) ?_
  unfold P181
  with_reducible refine Tr.bind ?_
  with_reducible refine Tr.bind ?_
  with_reducible refine Tr.bind ?_
  with_reducible refine Tr.bind ?_
  with_reducible refine Tr.pure ?_
  with_reducible refine Tr.bind ?_
  with_reducible refine Tr.pure ?_
  with_reducible refine Tr.bind ?_
  (with_reducible refine Tr.leI (c := true) ?_ ?_); (next => exact decide_eq_true (by omega))
  with_reducible refine Tr.bind ?_
  with_reducible refine Tr.bool ?_
  (with_reducible refine Tr.ifT ?_ ?_); (next => rfl)
  with_reducible refine Tr.bind ?_
  with_reducible refine Tr.bind ?_
  with_reducible refine Tr.pure ?_
  with_reducible refine Tr.getF (by (repeat (first | assumption | exact List.mem_cons_self | apply List.mem_cons_of_mem))) (by (repeat (first | assumption | exact List.mem_cons_self | apply List.mem_cons_of_mem))) (by exact dk_blocks) ?_
  with_reducible refine Tr.bind ?_
  (with_reducible refine Tr.ltI (c := true) ?_ ?_); (next => exact decide_eq_true (by omega))
  with_reducible refine Tr.bool ?_
  with_reducible refine Tr.pure ?_
  (with_reducible refine Tr.ifF ?_ ?_); (next => rfl)
  with_reducible refine Tr.bind ?_
  with_reducible refine Tr.bind ?_
  with_reducible refine Tr.pure ?_
  with_reducible refine Tr.bind ?_
  with_reducible refine Tr.pure ?_
  with_reducible refine Tr.bind ?_
  (with_reducible refine Tr.leI (c := true) ?_ ?_); (next => exact decide_eq_true (by omega))
  with_reducible refine Tr.bind ?_
  with_reducible refine Tr.bool ?_
  (with_reducible refine Tr.ifT ?_ ?_); (next => rfl)
  with_reducible refine Tr.bind ?_
  with_reducible refine Tr.bind ?_
  with_reducible refine Tr.bind ?_
  with_reducible refine Tr.pure ?_
  with_reducible refine Tr.bind ?_
  with_reducible refine Tr.pure ?_
  with_reducible refine Tr.pure ?_
  (with_reducible refine T92 (by (repeat (first | assumption | exact List.mem_cons_self | apply List.mem_cons_of_mem))) (by (repeat (first | assumption | exact List.mem_cons_self | apply List.mem_cons_of_mem))) ?_ ?_); (next => omega)
  with_reducible refine Tr.bind ?_
  (with_reducible refine Tr.ltI (c := true) ?_ ?_); (next => exact decide_eq_true (by omega))
  with_reducible refine Tr.bool ?_
  with_reducible refine Tr.pure ?_
  with_reducible refine Tr.bind ?_
  (with_reducible refine Tr.ifF ?_ ?_); (next => rfl)
  with_reducible refine Tr.pure ?_
  with_reducible refine Tr.aftN ?_
  with_reducible refine Tr.bind ?_
  with_reducible refine Tr.bind ?_
  with_reducible refine Tr.bind ?_
  with_reducible refine Tr.pure ?_
  with_reducible refine Tr.bind ?_
  with_reducible refine Tr.bind ?_
  with_reducible refine Tr.pure ?_
  with_reducible refine Tr.getF (by (repeat (first | assumption | exact List.mem_cons_self | apply List.mem_cons_of_mem))) (by (repeat (first | assumption | exact List.mem_cons_self | apply List.mem_cons_of_mem))) (by exact dk_block) ?_
  (with_reducible refine Tr.mul ?_ ?_); (next => omega)
  with_reducible refine Tr.bind ?_
  with_reducible refine Tr.bind ?_
  with_reducible refine Tr.pure ?_
  with_reducible refine Tr.bind ?_
  with_reducible refine Tr.bind ?_
  with_reducible refine Tr.pure ?_
  with_reducible refine Tr.getF (by (repeat (first | assumption | exact List.mem_cons_self | apply List.mem_cons_of_mem))) (by (repeat (first | assumption | exact List.mem_cons_self | apply List.mem_cons_of_mem))) (by exact dk_record) ?_
  (with_reducible refine Tr.mul ?_ ?_); (next => omega)
  with_reducible refine Tr.add ?_
  with_reducible refine Tr.pure ?_
  exact q
theorem T181e1 {b i : Int} (hb : b < 0 ∨ B ≤ b) (q : E "range" Γ) : Tr Γ (M181 [.loc d, .int b, .int i]) Q E := by
  refine Tr.m3 (P := P181) ?_
  unfold P181
  by_cases h : 0 ≤ b
  · with_reducible refine Tr.bind ?_
    with_reducible refine Tr.bind ?_
    with_reducible refine Tr.bind ?_
    with_reducible refine Tr.bind ?_
    with_reducible refine Tr.pure ?_
    with_reducible refine Tr.bind ?_
    with_reducible refine Tr.pure ?_
    with_reducible refine Tr.bind ?_
    (with_reducible refine Tr.leI (c := true) ?_ ?_); (next => exact decide_eq_true (by omega))
    with_reducible refine Tr.bind ?_
    with_reducible refine Tr.bool ?_
    (with_reducible refine Tr.ifT ?_ ?_); (next => rfl)
    with_reducible refine Tr.bind ?_
    with_reducible refine Tr.bind ?_
    with_reducible refine Tr.pure ?_
    with_reducible refine Tr.getF (by (repeat (first | assumption | exact List.mem_cons_self | apply List.mem_cons_of_mem))) (by (repeat (first | assumption | exact List.mem_cons_self | apply List.mem_cons_of_mem))) (by exact dk_blocks) ?_
    with_reducible refine Tr.bind ?_
    (with_reducible refine Tr.ltI (c := false) ?_ ?_); (next => exact decide_eq_false (by omega))
    with_reducible refine Tr.bool ?_
    with_reducible refine Tr.pure ?_
    (with_reducible refine Tr.ifT ?_ ?_); (next => rfl)
    with_reducible refine Tr.pure ?_
    with_reducible refine Tr.bind ?_
    (with_reducible refine Tr.ifT ?_ ?_); (next => rfl)
    exact Tr.err q
  · with_reducible refine Tr.bind ?_
    with_reducible refine Tr.bind ?_
    with_reducible refine Tr.bind ?_
    with_reducible refine Tr.bind ?_
    with_reducible refine Tr.pure ?_
    with_reducible refine Tr.bind ?_
    with_reducible refine Tr.pure ?_
    with_reducible refine Tr.bind ?_
    (with_reducible refine Tr.leI (c := false) ?_ ?_); (next => exact decide_eq_false (by omega))
    with_reducible refine Tr.bind ?_
    with_reducible refine Tr.bool ?_
    (with_reducible refine Tr.ifF ?_ ?_); (next => rfl)
    with_reducible refine Tr.pure ?_
    with_reducible refine Tr.pure ?_
    (with_reducible refine Tr.ifT ?_ ?_); (next => rfl)
    with_reducible refine Tr.pure ?_
    with_reducible refine Tr.bind ?_
    (with_reducible refine Tr.ifT ?_ ?_); (next => rfl)
    exact Tr.err q
theorem T181e2 {b i : Int} (hb : 0 ≤ b ∧ b < B) (hi : 0 ≤ i ∧ K / R ≤ i) (hR : 0 < R ∧ R < 1000000) (q : E "range" Γ) : Tr Γ (M181 [.loc d, .int b, .int i]) Q E := by
  refine Tr.m3 (P := P181) ?_
  unfold P181
  with_reducible refine Tr.bind ?_
  with_reducible refine Tr.bind ?_
  with_reducible refine Tr.bind ?_
  with_reducible refine Tr.bind ?_
  with_reducible refine Tr.pure ?_
  with_reducible refine Tr.bind ?_
  with_reducible refine Tr.pure ?_
  with_reducible refine Tr.bind ?_
  (with_reducible refine Tr.leI (c := true) ?_ ?_); (next => exact decide_eq_true (by omega))
  with_reducible refine Tr.bind ?_
  with_reducible refine Tr.bool ?_
  (with_reducible refine Tr.ifT ?_ ?_); (next => rfl)
  with_reducible refine Tr.bind ?_
  with_reducible refine Tr.bind ?_
  with_reducible refine Tr.pure ?_
  with_reducible refine Tr.getF (by (repeat (first | assumption | exact List.mem_cons_self | apply List.mem_cons_of_mem))) (by (repeat (first | assumption | exact List.mem_cons_self | apply List.mem_cons_of_mem))) (by exact dk_blocks) ?_
  with_reducible refine Tr.bind ?_
  (with_reducible refine Tr.ltI (c := true) ?_ ?_); (next => exact decide_eq_true (by omega))
  with_reducible refine Tr.bool ?_
  with_reducible refine Tr.pure ?_
  (with_reducible refine Tr.ifF ?_ ?_); (next => rfl)
  with_reducible refine Tr.bind ?_
  with_reducible refine Tr.bind ?_
  with_reducible refine Tr.pure ?_
  with_reducible refine Tr.bind ?_
  with_reducible refine Tr.pure ?_
  with_reducible refine Tr.bind ?_
  (with_reducible refine Tr.leI (c := true) ?_ ?_); (next => exact decide_eq_true (by omega))
  with_reducible refine Tr.bind ?_
  with_reducible refine Tr.bool ?_
  (with_reducible refine Tr.ifT ?_ ?_); (next => rfl)
  with_reducible refine Tr.bind ?_
  with_reducible refine Tr.bind ?_
  with_reducible refine Tr.bind ?_
  with_reducible refine Tr.pure ?_
  with_reducible refine Tr.bind ?_
  with_reducible refine Tr.pure ?_
  with_reducible refine Tr.pure ?_
  (with_reducible refine T92 (by (repeat (first | assumption | exact List.mem_cons_self | apply List.mem_cons_of_mem))) (by (repeat (first | assumption | exact List.mem_cons_self | apply List.mem_cons_of_mem))) ?_ ?_); (next => omega)
  with_reducible refine Tr.bind ?_
  (with_reducible refine Tr.ltI (c := false) ?_ ?_); (next => exact decide_eq_false (by omega))
  with_reducible refine Tr.bool ?_
  with_reducible refine Tr.pure ?_
  with_reducible refine Tr.bind ?_
  (with_reducible refine Tr.ifT ?_ ?_); (next => rfl)
  exact Tr.err q
end
section
variable (hd : (d, As.is (.inst 53 dd)) ∈ Γ) (hf : (dd, As.is (.dict (dk B K R N false x))) ∈ Γ)
include hd hf
/-- octets are put at a number -/
theorem T155 (ho : (o, As.is (.ints L)) ∈ Γ) (hk : 0 ≤ k ∧ k < N) (hN : N ≤ 1000) (hl : L.length = 32) (hz : N * 32 ≤ D.length ∧ D.length ≤ 1000000) (q : Q .none ((x, .is (.ints (ov D (k * 32).toNat L))) :: Γ)) :
    Tr ((x, .is (.ints D)) :: Γ) (M155 [.loc d, .int k, .loc o]) Q E := by
  refine Tr.m3 (P := P155) ?_
  unfold P155
  refine Tr.bind (Tr.bind (Tr.bind (Tr.pure (Tr.bind (Tr.pure (Tr.pure (T106 (.tail _ hd) (.tail _ hf) ?_)))))))
  with_reducible refine Tr.bind ?_
  with_reducible refine Tr.bind ?_
  with_reducible refine Tr.bind ?_
  with_reducible refine Tr.pure ?_
  with_reducible refine Tr.bind ?_
  with_reducible refine Tr.bind ?_
  with_reducible refine Tr.pure ?_
  with_reducible refine Tr.bind ?_
  with_reducible refine Tr.pure ?_
  with_reducible refine Tr.pure ?_
  with_reducible refine Tr.pure ?_
  (with_reducible refine T134 (by (repeat (first | assumption | exact List.mem_cons_self | apply List.mem_cons_of_mem))) (by (repeat (first | assumption | exact List.mem_cons_self | apply List.mem_cons_of_mem))) (by (repeat (first | assumption | exact List.mem_cons_self | apply List.mem_cons_of_mem))) ?_ ?_ ?_ ?_); (next => omega); (next => omega); (next => omega); intro _
  with_reducible refine Tr.bind ?_
  with_reducible refine Tr.bind ?_
  with_reducible refine Tr.noErr ?_
  with_reducible refine Tr.pure ?_
  refine Tr.drop ?_
  obtain ⟨Δ, w, hk'⟩ := Pull.of_mem ho
  have hd' := hk' _ hd (fun e => by cases (Prod.mk.inj e).2)
  have hf' := hk' _ hf (fun e => by cases (Prod.mk.inj e).2)
  refine Tr.wk (Tr.pull (Pull.next w) (Tr.forEnum (J := fun done _ Δ' => Δ' = (x, .is (.ints (ov D (k * 32).toNat done))) :: Δ) (by rw [ov_nil]) ?_ ?_))
  · rintro done v rest _ _ e rfl
    have h1 : done.length < 32 := by rw [← hl, e]; simp
    have h2 := ov_len (D := D) (l := done) (k := (k * 32).toNat) (by omega)
    with_reducible refine Tr.bind ?_
    with_reducible refine Tr.pure ?_
    with_reducible refine Tr.bind ?_
    with_reducible refine Tr.bind ?_
    with_reducible refine Tr.pure ?_
    with_reducible refine Tr.getF (by (repeat (first | assumption | exact List.mem_cons_self | apply List.mem_cons_of_mem))) (by (repeat (first | assumption | exact List.mem_cons_self | apply List.mem_cons_of_mem))) (by exact dk_data) ?_
    with_reducible refine Tr.bind ?_
    with_reducible refine Tr.bind ?_
    with_reducible refine Tr.bind ?_
    with_reducible refine Tr.pure ?_
    with_reducible refine Tr.bind ?_
    with_reducible refine Tr.pure ?_
    (with_reducible refine Tr.mul ?_ ?_); (next => omega)
    with_reducible refine Tr.bind ?_
    with_reducible refine Tr.pure ?_
    with_reducible refine Tr.add ?_
    (with_reducible refine Tr.setI (by (repeat (first | exact Up.here | apply Up.next))) ?_ ?_); (next => omega)
    refine ⟨_, Imp.rfl, ?_⟩
    rw [← ov_set (by omega), show (k * 32 + (done.length : Int)).toNat = (k * 32).toNat + done.length by omega]
  · rintro _ _ rfl
    skip
    exact ⟨_, Pull.back (Pull.next w), Tr.pure q⟩
theorem T162 (hk : 0 ≤ k ∧ k < N) (hN : N ≤ 1000) (hz : N * 32 ≤ D.length ∧ D.length ≤ 1000000) (q : Q .none ((x, .is (.ints (D.set (k * 32).toNat 229))) :: Γ)) :
    Tr ((x, .is (.ints D)) :: Γ) (M162 [.loc d, .int k]) Q E := by
  refine Tr.m2 (P := P162) (Tr.wk ?_)
  unfold P162
  with_reducible refine Tr.bind ?_
  with_reducible refine Tr.bind ?_
  with_reducible refine Tr.bind ?_
  with_reducible refine Tr.pure ?_
  with_reducible refine Tr.bind ?_
  with_reducible refine Tr.pure ?_
  with_reducible refine Tr.pure ?_
  with_reducible refine T106 (by (repeat (first | assumption | exact List.mem_cons_self | apply List.mem_cons_of_mem))) (by (repeat (first | assumption | exact List.mem_cons_self | apply List.mem_cons_of_mem))) ?_
  with_reducible refine Tr.bind ?_
  with_reducible refine Tr.bind ?_
  with_reducible refine Tr.bind ?_
  with_reducible refine Tr.pure ?_
  with_reducible refine Tr.bind ?_
  with_reducible refine Tr.bind ?_
  with_reducible refine Tr.pure ?_
  with_reducible refine Tr.bind ?_
  with_reducible refine Tr.pure ?_
  with_reducible refine Tr.pure ?_
  with_reducible refine Tr.pure ?_
  (with_reducible refine T134 (by (repeat (first | assumption | exact List.mem_cons_self | apply List.mem_cons_of_mem))) (by (repeat (first | assumption | exact List.mem_cons_self | apply List.mem_cons_of_mem))) (by (repeat (first | assumption | exact List.mem_cons_self | apply List.mem_cons_of_mem))) ?_ ?_ ?_ ?_); (next => omega); (next => omega); (next => omega); intro _
  with_reducible refine Tr.bind ?_
  with_reducible refine Tr.bind ?_
  with_reducible refine Tr.pure ?_
  with_reducible refine Tr.bind ?_
  with_reducible refine Tr.bind ?_
  with_reducible refine Tr.pure ?_
  with_reducible refine Tr.getF (by (repeat (first | assumption | exact List.mem_cons_self | apply List.mem_cons_of_mem))) (by (repeat (first | assumption | exact List.mem_cons_self | apply List.mem_cons_of_mem))) (by exact dk_data) ?_
  with_reducible refine Tr.bind ?_
  with_reducible refine Tr.bind ?_
  with_reducible refine Tr.pure ?_
  with_reducible refine Tr.bind ?_
  with_reducible refine Tr.pure ?_
  (with_reducible refine Tr.mul ?_ ?_); (next => omega)
  (with_reducible refine Tr.setI (by (repeat (first | exact Up.here | apply Up.next))) ?_ ?_); (next => omega)
  with_reducible refine Tr.pure ?_
  exact ⟨_, Imp.sub (by (repeat (first | exact List.Sublist.refl _ | apply List.Sublist.cons₂ | apply List.Sublist.cons))), q⟩
theorem T148 (he : (e, As.is (.inst 74 de)) ∈ Γ) (hg : (de, As.is (.dict (en u r ext sp ct m))) ∈ Γ) (hr : (r, As.is (.ints raw)) ∈ Γ) (hm : (m, As.is (.ints mp)) ∈ Γ) (hzm : mp.length ≤ 1000) (hzr : raw.length ≤ 1000)
    (hl : (oct B u raw ext sp ct mp).length = 32) (hk : 0 ≤ k ∧ k < N) (hN : N ≤ 1000) (hz : N * 32 ≤ D.length ∧ D.length ≤ 1000000) (q : Q .none ((x, .is (.ints (ov D (k * 32).toNat (oct B u raw ext sp ct mp)))) :: Γ)) :
    Tr ((x, .is (.ints D)) :: Γ) (M148 [.loc d, .int k, .loc e]) Q E := by
  refine Tr.m3 (P := P148) (Tr.wk ?_)
  unfold P148
  with_reducible refine Tr.bind ?_
  with_reducible refine Tr.bind ?_
  with_reducible refine Tr.bind ?_
  with_reducible refine Tr.pure ?_
  with_reducible refine Tr.bind ?_
  with_reducible refine Tr.bind ?_
  with_reducible refine Tr.pure ?_
  with_reducible refine Tr.bind ?_
  with_reducible refine Tr.bind ?_
  with_reducible refine Tr.bind ?_
  with_reducible refine Tr.bind ?_
  with_reducible refine Tr.pure ?_
  with_reducible refine Tr.bind ?_
  with_reducible refine Tr.bind ?_
  with_reducible refine Tr.pure ?_
  with_reducible refine Tr.bind ?_
  with_reducible refine Tr.pure ?_
  with_reducible refine Tr.pure ?_
  with_reducible refine Tr.pure ?_
  (with_reducible refine T120 (by (repeat (first | assumption | exact List.mem_cons_self | apply List.mem_cons_of_mem))) (by (repeat (first | assumption | exact List.mem_cons_self | apply List.mem_cons_of_mem))) (by (repeat (first | assumption | exact List.mem_cons_self | apply List.mem_cons_of_mem))) (by (repeat (first | assumption | exact List.mem_cons_self | apply List.mem_cons_of_mem))) (by (repeat (first | assumption | exact List.mem_cons_self | apply List.mem_cons_of_mem))) (by (repeat (first | assumption | exact List.mem_cons_self | apply List.mem_cons_of_mem))) ?_ ?_ ?_); (next => omega); (next => omega); intro _
  with_reducible refine Tr.bind ?_
  with_reducible refine Tr.pure ?_
  with_reducible refine Tr.pure ?_
  with_reducible refine Tr.pure ?_
  with_reducible refine Tr.pure ?_
  rename_i o
  refine Tr.pull (Pull.next Pull.here) (T155 (.tail _ hd) (.tail _ hf) (.head _) hk hN hl hz ?_)
  with_reducible refine Tr.pure ?_
  exact ⟨_, Imp.sub (by (repeat (first | exact List.Sublist.refl _ | apply List.Sublist.cons₂ | apply List.Sublist.cons))), q⟩
theorem T188 {b i : Int} (hx : (x, As.is (.ints D)) ∈ Γ) (hb : 0 ≤ b ∧ b < B) (hi : 0 ≤ i ∧ i < K / R) (hR : 0 < R ∧ R < 1000000) (hz : B < 1000000 ∧ K < 1000000 ∧ 0 < K ∧ K / R < 1000000) (hp : 0 ≤ b * K + i * R) (hD : D.length ≤ 1000000)
    (q : ∀ l, Q (.loc l) ((l, .is (.ints ((D.take (b * K + i * R + R).toNat).drop (b * K + i * R).toNat))) :: Γ)) : Tr Γ (M188 [.loc d, .int b, .int i]) Q E := by
  refine Tr.m3 (P := P188) ?_
  unfold P188
  with_reducible refine Tr.bind ?_
  with_reducible refine Tr.bind ?_
  with_reducible refine Tr.bind ?_
  with_reducible refine Tr.pure ?_
  with_reducible refine Tr.bind ?_
  with_reducible refine Tr.bind ?_
  with_reducible refine Tr.pure ?_
  with_reducible refine Tr.bind ?_
  with_reducible refine Tr.bind ?_
  with_reducible refine Tr.pure ?_
  with_reducible refine Tr.bind ?_
  with_reducible refine Tr.pure ?_
  with_reducible refine Tr.pure ?_
  with_reducible refine Tr.pure ?_
  with_reducible refine Tr.pure ?_
  (with_reducible refine T181 (by (repeat (first | assumption | exact List.mem_cons_self | apply List.mem_cons_of_mem))) (by (repeat (first | assumption | exact List.mem_cons_self | apply List.mem_cons_of_mem))) ?_ ?_ ?_ ?_ ?_); (next => omega); (next => omega); (next => omega); (next => omega)
  with_reducible refine Tr.bind ?_
  with_reducible refine Tr.bind ?_
  with_reducible refine Tr.bind ?_
  with_reducible refine Tr.pure ?_
  with_reducible refine Tr.getF (by (repeat (first | assumption | exact List.mem_cons_self | apply List.mem_cons_of_mem))) (by (repeat (first | assumption | exact List.mem_cons_self | apply List.mem_cons_of_mem))) (by exact dk_data) ?_
  with_reducible refine Tr.bind ?_
  with_reducible refine Tr.pure ?_
  with_reducible refine Tr.bind ?_
  with_reducible refine Tr.bind ?_
  with_reducible refine Tr.pure ?_
  with_reducible refine Tr.bind ?_
  with_reducible refine Tr.bind ?_
  with_reducible refine Tr.pure ?_
  with_reducible refine Tr.getF (by (repeat (first | assumption | exact List.mem_cons_self | apply List.mem_cons_of_mem))) (by (repeat (first | assumption | exact List.mem_cons_self | apply List.mem_cons_of_mem))) (by exact dk_record) ?_
  with_reducible refine Tr.add ?_
  (with_reducible refine Tr.slice (by (repeat (first | assumption | exact List.mem_cons_self | apply List.mem_cons_of_mem))) ?_ ?_ ?_ ?_); (next => omega); (next => omega); (next => omega); intro _
  with_reducible refine Tr.pure ?_
  exact q _
theorem T188e {b i : Int} (hb : b < 0 ∨ B ≤ b) (q : E "range" Γ) : Tr Γ (M188 [.loc d, .int b, .int i]) Q E := by
  refine Tr.m3 (P := P188) ?_
  unfold P188
  with_reducible refine Tr.bind ?_
  with_reducible refine Tr.bind ?_
  with_reducible refine Tr.bind ?_
  with_reducible refine Tr.pure ?_
  with_reducible refine Tr.bind ?_
  with_reducible refine Tr.bind ?_
  with_reducible refine Tr.pure ?_
  with_reducible refine Tr.bind ?_
  with_reducible refine Tr.bind ?_
  with_reducible refine Tr.pure ?_
  with_reducible refine Tr.bind ?_
  with_reducible refine Tr.pure ?_
  with_reducible refine Tr.pure ?_
  with_reducible refine Tr.pure ?_
  with_reducible refine Tr.pure ?_
  (with_reducible refine T181e1 (by (repeat (first | assumption | exact List.mem_cons_self | apply List.mem_cons_of_mem))) (by (repeat (first | assumption | exact List.mem_cons_self | apply List.mem_cons_of_mem))) ?_ ?_); (next => omega)
  exact q
theorem T195 {b i : Int} (ho : (o, As.is (.ints L)) ∈ Γ) (hb : 0 ≤ b ∧ b < B) (hi : 0 ≤ i ∧ i < K / R) (hR : 0 < R ∧ R < 1000000) (hz : B < 1000000 ∧ K < 1000000 ∧ 0 < K ∧ K / R < 1000000) (hp : 0 ≤ b * K + i * R) (hD : b * K + i * R + R ≤ D.length ∧ D.length ≤ 1000000) (hl : (L.length : Int) = R)
    (q : Q .none ((x, .is (.ints (ov D (b * K + i * R).toNat L))) :: Γ)) : Tr ((x, .is (.ints D)) :: Γ) (M195 [.loc d, .int b, .int i, .loc o]) Q E := by
  refine Tr.m4 (P := P195) ?_
  unfold P195
  refine Tr.bind (Tr.bind (Tr.bind (Tr.pure (Tr.bind (Tr.pure (Tr.pure (T106 (.tail _ hd) (.tail _ hf) ?_)))))))
  have hL : L.length ≤ 1000000 := by omega
  with_reducible refine Tr.bind ?_
  with_reducible refine Tr.bind ?_
  with_reducible refine Tr.bind ?_
  with_reducible refine Tr.pure ?_
  with_reducible refine Tr.bind ?_
  with_reducible refine Tr.bind ?_
  with_reducible refine Tr.pure ?_
  with_reducible refine Tr.bind ?_
  with_reducible refine Tr.bind ?_
  with_reducible refine Tr.pure ?_
  with_reducible refine Tr.bind ?_
  with_reducible refine Tr.pure ?_
  with_reducible refine Tr.pure ?_
  with_reducible refine Tr.pure ?_
  with_reducible refine Tr.pure ?_
  (with_reducible refine T181 (by (repeat (first | assumption | exact List.mem_cons_self | apply List.mem_cons_of_mem))) (by (repeat (first | assumption | exact List.mem_cons_self | apply List.mem_cons_of_mem))) ?_ ?_ ?_ ?_ ?_); (next => omega); (next => omega); (next => omega); (next => omega)
  with_reducible refine Tr.bind ?_
  with_reducible refine Tr.bind ?_
  with_reducible refine Tr.bind ?_
  with_reducible refine Tr.bind ?_
  with_reducible refine Tr.pure ?_
  with_reducible refine Tr.bind ?_
  with_reducible refine Tr.pure ?_
  with_reducible refine Tr.pure ?_
  (with_reducible refine Tr.len (by (repeat (first | assumption | exact List.mem_cons_self | apply List.mem_cons_of_mem))) ?_ ?_); (next => omega)
  with_reducible refine Tr.bind ?_
  with_reducible refine Tr.bind ?_
  with_reducible refine Tr.pure ?_
  with_reducible refine Tr.getF (by (repeat (first | assumption | exact List.mem_cons_self | apply List.mem_cons_of_mem))) (by (repeat (first | assumption | exact List.mem_cons_self | apply List.mem_cons_of_mem))) (by exact dk_record) ?_
  with_reducible refine Tr.bind ?_
  (with_reducible refine Tr.neI (c := false) ?_ ?_); (next => exact bne_eq_false_iff_eq.mpr (by omega))
  with_reducible refine Tr.bool ?_
  with_reducible refine Tr.bind ?_
  (with_reducible refine Tr.ifF ?_ ?_); (next => rfl)
  with_reducible refine Tr.pure ?_
  with_reducible refine Tr.aftN ?_
  with_reducible refine Tr.bind ?_
  with_reducible refine Tr.bind ?_
  with_reducible refine Tr.noErr ?_
  with_reducible refine Tr.pure ?_
  obtain ⟨Δ, w, hk'⟩ := Pull.of_mem ho
  have hd' := hk' _ hd (fun e => by cases (Prod.mk.inj e).2)
  have hf' := hk' _ hf (fun e => by cases (Prod.mk.inj e).2)
  generalize b * K + i * R = p at *
  refine Tr.wk (Tr.pull (Pull.next w) (Tr.forEnum (J := fun done _ Δ' => Δ' = (x, .is (.ints (ov D p.toNat done))) :: Δ) (by rw [ov_nil]) ?_ ?_))
  · rintro done v rest _ _ e rfl
    have h1 : done.length < L.length := by rw [e]; simp
    have h2 := ov_len (D := D) (l := done) (k := p.toNat) (by omega)
    with_reducible refine Tr.bind ?_
    with_reducible refine Tr.pure ?_
    with_reducible refine Tr.bind ?_
    with_reducible refine Tr.bind ?_
    with_reducible refine Tr.pure ?_
    with_reducible refine Tr.getF (by (repeat (first | assumption | exact List.mem_cons_self | apply List.mem_cons_of_mem))) (by (repeat (first | assumption | exact List.mem_cons_self | apply List.mem_cons_of_mem))) (by exact dk_data) ?_
    with_reducible refine Tr.bind ?_
    with_reducible refine Tr.bind ?_
    with_reducible refine Tr.pure ?_
    with_reducible refine Tr.bind ?_
    with_reducible refine Tr.pure ?_
    with_reducible refine Tr.add ?_
    (with_reducible refine Tr.setI (by (repeat (first | exact Up.here | apply Up.next))) ?_ ?_); (next => omega)
    refine ⟨_, Imp.rfl, ?_⟩
    rw [← ov_set (by omega), show (p + (done.length : Int)).toNat = p.toNat + done.length by omega]
  · rintro _ _ rfl
    skip
    exact ⟨_, Pull.back (Pull.next w), Tr.pure q⟩
theorem T195e {b i : Int} (hb : 0 ≤ b ∧ b < B) (hi : 0 ≤ i ∧ K / R ≤ i) (hR : 0 < R ∧ R < 1000000) (q : E "range" Γ) : Tr Γ (M195 [.loc d, .int b, .int i, .loc o]) Q E := by
  refine Tr.m4 (P := P195) ?_
  unfold P195
  with_reducible refine Tr.bind ?_
  with_reducible refine Tr.bind ?_
  with_reducible refine Tr.bind ?_
  with_reducible refine Tr.pure ?_
  with_reducible refine Tr.bind ?_
  with_reducible refine Tr.pure ?_
  with_reducible refine Tr.pure ?_
  with_reducible refine T106 (by (repeat (first | assumption | exact List.mem_cons_self | apply List.mem_cons_of_mem))) (by (repeat (first | assumption | exact List.mem_cons_self | apply List.mem_cons_of_mem))) ?_
  with_reducible refine Tr.bind ?_
  with_reducible refine Tr.bind ?_
  with_reducible refine Tr.bind ?_
  with_reducible refine Tr.pure ?_
  with_reducible refine Tr.bind ?_
  with_reducible refine Tr.bind ?_
  with_reducible refine Tr.pure ?_
  with_reducible refine Tr.bind ?_
  with_reducible refine Tr.bind ?_
  with_reducible refine Tr.pure ?_
  with_reducible refine Tr.bind ?_
  with_reducible refine Tr.pure ?_
  with_reducible refine Tr.pure ?_
  with_reducible refine Tr.pure ?_
  with_reducible refine Tr.pure ?_
  (with_reducible refine T181e2 (by (repeat (first | assumption | exact List.mem_cons_self | apply List.mem_cons_of_mem))) (by (repeat (first | assumption | exact List.mem_cons_self | apply List.mem_cons_of_mem))) ?_ ?_ ?_ ?_); (next => omega); (next => omega); (next => omega)
  exact q
theorem T195l {b i : Int} (ho : (o, As.is (.ints L)) ∈ Γ) (hb : 0 ≤ b ∧ b < B) (hi : 0 ≤ i ∧ i < K / R) (hR : 0 < R ∧ R < 1000000) (hz : B < 1000000 ∧ K < 1000000 ∧ 0 < K ∧ K / R < 1000000) (hL : L.length ≤ 1000000) (hl : (L.length : Int) ≠ R)
    (q : E "range" Γ) : Tr Γ (M195 [.loc d, .int b, .int i, .loc o]) Q E := by
  refine Tr.m4 (P := P195) ?_
  unfold P195
  with_reducible refine Tr.bind ?_
  with_reducible refine Tr.bind ?_
  with_reducible refine Tr.bind ?_
  with_reducible refine Tr.pure ?_
  with_reducible refine Tr.bind ?_
  with_reducible refine Tr.pure ?_
  with_reducible refine Tr.pure ?_
  with_reducible refine T106 (by (repeat (first | assumption | exact List.mem_cons_self | apply List.mem_cons_of_mem))) (by (repeat (first | assumption | exact List.mem_cons_self | apply List.mem_cons_of_mem))) ?_
  with_reducible refine Tr.bind ?_
  with_reducible refine Tr.bind ?_
  with_reducible refine Tr.bind ?_
  with_reducible refine Tr.pure ?_
  with_reducible refine Tr.bind ?_
  with_reducible refine Tr.bind ?_
  with_reducible refine Tr.pure ?_
  with_reducible refine Tr.bind ?_
  with_reducible refine Tr.bind ?_
  with_reducible refine Tr.pure ?_
  with_reducible refine Tr.bind ?_
  with_reducible refine Tr.pure ?_
  with_reducible refine Tr.pure ?_
  with_reducible refine Tr.pure ?_
  with_reducible refine Tr.pure ?_
  (with_reducible refine T181 (by (repeat (first | assumption | exact List.mem_cons_self | apply List.mem_cons_of_mem))) (by (repeat (first | assumption | exact List.mem_cons_self | apply List.mem_cons_of_mem))) ?_ ?_ ?_ ?_ ?_); (next => omega); (next => omega); (next => omega); (next => omega)
  with_reducible refine Tr.bind ?_
  with_reducible refine Tr.bind ?_
  with_reducible refine Tr.bind ?_
  with_reducible refine Tr.bind ?_
  with_reducible refine Tr.pure ?_
  with_reducible refine Tr.bind ?_
  with_reducible refine Tr.pure ?_
  with_reducible refine Tr.pure ?_
  (with_reducible refine Tr.len (by (repeat (first | assumption | exact List.mem_cons_self | apply List.mem_cons_of_mem))) ?_ ?_); (next => omega)
  with_reducible refine Tr.bind ?_
  with_reducible refine Tr.bind ?_
  with_reducible refine Tr.pure ?_
  with_reducible refine Tr.getF (by (repeat (first | assumption | exact List.mem_cons_self | apply List.mem_cons_of_mem))) (by (repeat (first | assumption | exact List.mem_cons_self | apply List.mem_cons_of_mem))) (by exact dk_record) ?_
  with_reducible refine Tr.bind ?_
  (with_reducible refine Tr.neI (c := true) ?_ ?_); (next => exact bne_iff_ne.mpr (by omega))
  with_reducible refine Tr.bool ?_
  with_reducible refine Tr.bind ?_
  (with_reducible refine Tr.ifT ?_ ?_); (next => rfl)
  exact Tr.err q
theorem T141e (hk : N ≤ k) (h0 : 0 ≤ k) (q : E "range" Γ) : Tr Γ (M141 [.loc d, .int k]) Q E := by
  refine Tr.m2 (P := P141) ?_
  unfold P141
  with_reducible refine Tr.bind ?_
  with_reducible refine Tr.bind ?_
  with_reducible refine Tr.bind ?_
  with_reducible refine Tr.pure ?_
  with_reducible refine Tr.bind ?_
  with_reducible refine Tr.bind ?_
  with_reducible refine Tr.bind ?_
  with_reducible refine Tr.bind ?_
  with_reducible refine Tr.pure ?_
  with_reducible refine Tr.bind ?_
  with_reducible refine Tr.bind ?_
  with_reducible refine Tr.pure ?_
  with_reducible refine Tr.bind ?_
  with_reducible refine Tr.pure ?_
  with_reducible refine Tr.pure ?_
  with_reducible refine Tr.pure ?_
  (with_reducible refine T134e (by (repeat (first | assumption | exact List.mem_cons_self | apply List.mem_cons_of_mem))) (by (repeat (first | assumption | exact List.mem_cons_self | apply List.mem_cons_of_mem))) ?_ ?_ ?_); (next => omega); (next => omega)
  exact q
end
end
end Mine
end

/-! ## PL6 -/
section
open PySem PySem.W PySem.Calls PyProof.Rows
namespace Mine
section
variable {Γ Γ' Δ : Ct} {i j n d dd x e de r m o f b q : Nat} {B K R N u ext sp ct k : Int} {ro ro' : Bool} {a a1 a2 a3 a4 : AV} {raw mp L D ns : List Int} {E : Str → Ct → Prop} {Q : AV → Ct → Prop}
theorem Tr.rngN {Q : Int × Int × Nat → Ct → Prop} (h : 0 ≤ k ∧ k ≤ 100000) (c : Q (0, 1, k.toNat) Γ) : Tr Γ (rangeOf [.int k]) Q E := .ok (fun _ _ => if_pos h) c
theorem Tr.stp {p : Int × Int × Nat} {Q : Int × Int × Nat → Ct → Prop} (h : p.2.1 = 1) (c : Q p Γ) : Tr Γ (step1 p) Q E := .ok (fun _ _ => if_pos h) c
theorem box_of {s : Int} {l : List Int} (h0 : 0 ≤ s) (h1 : s < 1000003) (hl : l.length ≤ 40) (hn : ∀ k ∈ l, 0 ≤ k) : Imp ((b, .is (.mix [.loc q, .int s])) :: (q, .is (.ints l)) :: Γ) ((b, .box q) :: (q, .que) :: Γ) := fun H S => ⟨S.1, fun p hp => by
  rcases List.mem_cons.mp hp with rfl | hp
  · obtain ⟨o, e, r⟩ := S.2 _ (.head _); exact ⟨o, e, s, r, h0, h1⟩
  · rcases List.mem_cons.mp hp with rfl | hp
    · obtain ⟨o, e, r⟩ := S.2 _ (.tail _ (.head _)); exact ⟨o, e, l, r, hl, hn⟩
    · exact S.2 p (.tail _ (.tail _ hp))⟩
/-- the box is made of the script -/
theorem T207 (hf : (f, As.is (.frozen ns)) ∈ Γ) (hz : ns.length ≤ 1000) (c : ∀ b q, Q (.loc b) ((b, .box q) :: (q, .que) :: Γ)) : Tr Γ (M207 [.loc f]) Q E := by
  refine Tr.m1 (P := P207) (Tr.wk ?_)
  unfold P207
  have ht : (ns.take (40 : Int).toNat).length ≤ 40 := by rw [List.length_take]; exact Nat.min_le_left _ _
  have habs : ∀ k : Int, 0 ≤ (if k < 0 then -k else k) := fun k => by split <;> omega
  with_reducible refine Tr.bind ?_
  with_reducible refine Tr.bind ?_
  with_reducible refine Tr.bind ?_
  with_reducible refine Tr.bind ?_
  with_reducible refine Tr.bind ?_
  with_reducible refine Tr.pure ?_
  with_reducible refine Tr.bind ?_
  with_reducible refine Tr.pure ?_
  with_reducible refine Tr.bind ?_
  with_reducible refine Tr.pure ?_
  refine Tr.takeF (k := 40) hf (by decide) (by omega) fun n1 => ?_
  refine Tr.compL (R := fun k i => i = if k < 0 then -k else k) (by omega) (fun k hk => ?_) fun n2 l h1 h2 => ?_
  · with_reducible refine Tr.bind ?_
    with_reducible refine Tr.bind ?_
    with_reducible refine Tr.pure ?_
    with_reducible refine Tr.bind ?_
    with_reducible refine Tr.pure ?_
    with_reducible refine Tr.pure ?_
    with_reducible refine Tr.abs ?_
    exact ⟨Imp.rfl, _, rfl, rfl⟩
  have hl : ∀ k ∈ l, 0 ≤ k := fun k hk => by
    obtain ⟨i, hi, rfl⟩ := List.mem_iff_getElem.mp hk
    have z := h2 ((ns.take (40 : Int).toNat)[i]'(by omega), l[i]) (List.mem_iff_getElem.mpr ⟨i, by rw [List.length_zip]; omega, by simp⟩)
    dsimp only at z
    rw [z]; exact habs _
  with_reducible refine Tr.bind ?_
  with_reducible refine Tr.bind ?_
  with_reducible refine Tr.pure ?_
  with_reducible refine Tr.bind ?_
  with_reducible refine Tr.pure ?_
  with_reducible refine Tr.pure ?_
  with_reducible refine Tr.pure ?_
  (with_reducible refine Tr.mix ?_ ?_); (next => exact Nat.le_of_ble_eq_true rfl); intro _
  with_reducible refine Tr.bind ?_
  with_reducible refine Tr.bind ?_
  with_reducible refine Tr.noErr ?_
  with_reducible refine Tr.bind ?_
  with_reducible refine Tr.pure ?_
  with_reducible refine Tr.bind ?_
  with_reducible refine Tr.pure ?_
  with_reducible refine Tr.bind ?_
  with_reducible refine Tr.pure ?_
  rename_i bb
  refine Tr.takeF (k := 40) (ns := ns) (by (repeat (first | assumption | exact List.mem_cons_self | apply List.mem_cons_of_mem))) (by decide) (by omega) fun n3 => ?_
  refine Tr.forInts (J := fun done _ Δ' => ∃ s : Int, 0 ≤ s ∧ s < 1000003 ∧ Δ' = (bb, .is (.mix [.loc n2, .int s])) :: (n2, .is (.ints l)) :: (n1, .is (.ints (ns.take (40 : Int).toNat))) :: Γ) ⟨19, by decide, by decide, rfl⟩ ?_ ?_
  · rintro done k rest _ _ e ⟨s, s0, s1, rfl⟩
    have ha := habs k
    have g1 : ([AV.loc n2, AV.int s] : List AV)[(1 : Int).toNat]? = some (AV.int s) := rfl
    with_reducible refine Tr.bind ?_
    with_reducible refine Tr.bind ?_
    with_reducible refine Tr.bind ?_
    with_reducible refine Tr.bind ?_
    with_reducible refine Tr.bind ?_
    with_reducible refine Tr.bind ?_
    with_reducible refine Tr.pure ?_
    with_reducible refine Tr.bind ?_
    with_reducible refine Tr.pure ?_
    (with_reducible refine Tr.getM (by (repeat (first | assumption | exact List.mem_cons_self | apply List.mem_cons_of_mem))) ?_ (by with_unfolding_all exact g1) ?_); (next => omega)
    with_reducible refine Tr.bind ?_
    with_reducible refine Tr.pure ?_
    (with_reducible refine Tr.mul ?_ ?_); (next => omega)
    with_reducible refine Tr.bind ?_
    with_reducible refine Tr.bind ?_
    with_reducible refine Tr.bind ?_
    with_reducible refine Tr.pure ?_
    with_reducible refine Tr.bind ?_
    with_reducible refine Tr.pure ?_
    with_reducible refine Tr.pure ?_
    with_reducible refine Tr.abs ?_
    with_reducible refine Tr.add ?_
    with_reducible refine Tr.bind ?_
    with_reducible refine Tr.pure ?_
    (with_reducible refine Tr.mod ?_ ?_); (next => omega)
    with_reducible refine Tr.bind ?_
    with_reducible refine Tr.pure ?_
    with_reducible refine Tr.bind ?_
    with_reducible refine Tr.pure ?_
    refine Tr.setM (s := [.loc n2, .int s]) (.next .here) ⟨by omega, by simp, by simp⟩ ?_
    with_reducible refine Tr.pure ?_
    exact ⟨_, Imp.rfl, (s * 37 + (if k < 0 then -k else k)) % 1000003, by omega, by omega, rfl⟩
  · rintro _ _ ⟨s, s0, s1, rfl⟩
    with_reducible refine Tr.bind ?_
    with_reducible refine Tr.pure ?_
    with_reducible refine Tr.pure ?_
    refine ⟨_, Imp.drop (Imp.trans (Imp.sub (Γ' := (bb, .is (.mix [.loc n2, .int s])) :: (n2, .is (.ints l)) :: Γ) ?_) (box_of s0 s1 (by omega) hl)), c bb n2⟩
    (repeat (first | exact List.Sublist.refl _ | apply List.Sublist.cons₂ | apply List.Sublist.cons))
theorem Tr.cb2 {names : List Str} {cs : List (Str × Nat)} {mb : List AV → Nat → AM (Option AV)} {l : List AV} {v w : Option AV} {Q : Option AV → Ct → Prop} (hc : cellInit names l cs = [.cell v, .cell w]) (hn : l.length = names.length)
    (h : ∀ ck, Tr ((ck + 1, .is (.cell w)) :: (ck, .is (.cell v)) :: Γ) (mb l ck) Q E) : Tr Γ (cellBody names cs mb l) Q E := fun H S => by
  unfold cellBody
  rw [if_pos hn, hc]
  have z := (S.push (.cell v)).push (.cell w)
  rw [List.append_assoc, show (H ++ [AO.cell v]).length = H.length + 1 by simp] at z
  exact h _ _ z
/-- an entry is drawn -/
theorem T212 (hd : (d, As.is (.inst 53 dd)) ∈ Γ) (hf : (dd, As.is (.dict (dk B K R N ro x))) ∈ Γ) (hb : (b, As.box q) ∈ Γ) (hq : (q, As.que) ∈ Γ) (hB : 0 < B ∧ B ≤ 1000)
    (c : ∀ (e de r m : Nat) (u ext sp ct : Int) (raw mp : List Int), raw.length = 11 → (∀ i ∈ raw, 0 ≤ i ∧ i ≤ 1000) → (0 ≤ u ∧ u < 16) → (32 ≤ ext ∧ ext < 600) → (0 ≤ sp ∧ sp < 2) → (0 ≤ ct ∧ ct < 129) → mp.length = (if B ≤ 256 then 16 else 8) → (∀ i ∈ mp, 0 ≤ i ∧ i < B) →
      Q (.loc e) ((m, .is (.ints mp)) :: (r, .is (.ints raw)) :: (e, .is (.inst 74 de)) :: (de, .is (.dict (en u r ext sp ct m))) :: Γ)) : Tr Γ (M212 [.loc d, .loc b]) Q E := by
  refine Tr.wk (Tr.bind (Tr.cb2 (v := some (.loc b)) (w := some (.loc d)) rfl rfl fun ck => ?_))
  show Tr _ (P212 (.loc d) (.loc b) ck) _ _
  unfold P212
  with_reducible refine Tr.bind ?_
  with_reducible refine Tr.bind ?_
  with_reducible refine Tr.bind ?_
  with_reducible refine Tr.bind ?_
  with_reducible refine Tr.pure ?_
  with_reducible refine Tr.bind ?_
  with_reducible refine Tr.pure ?_
  with_reducible refine Tr.pure ?_
  (with_reducible refine Tr.rngN ?_ ?_); (next => omega)
  with_reducible refine Tr.bind ?_
  refine Tr.stp rfl ?_
  with_reducible refine Tr.bind ?_
  refine Tr.compR (R := fun k i => 0 ≤ i ∧ i ≤ 1000) (by decide) (fun k hk => ?_) fun raw h1 h2 => ?_
  · with_reducible refine Tr.bind ?_
    with_reducible refine Tr.bind ?_
    with_reducible refine Tr.pure ?_
    with_reducible refine Tr.bind ?_
    with_reducible refine Tr.bind ?_
    with_reducible refine Tr.bind ?_
    with_reducible refine Tr.cell (by (repeat (first | assumption | exact List.mem_cons_self | apply List.mem_cons_of_mem))) ?_
    with_reducible refine Tr.bind ?_
    with_reducible refine Tr.bind ?_
    with_reducible refine Tr.pure ?_
    with_reducible refine Tr.bind ?_
    with_reducible refine Tr.pure ?_
    with_reducible refine Tr.pure ?_
    with_reducible refine Tr.pure ?_
    (with_reducible refine T202 (by (repeat (first | assumption | exact List.mem_cons_self | apply List.mem_cons_of_mem))) (by (repeat (first | assumption | exact List.mem_cons_self | apply List.mem_cons_of_mem))) ?_ ?_); (next => omega); intro _ _ _
    with_reducible refine Tr.add ?_
    with_reducible refine Tr.bind ?_
    with_reducible refine Tr.bind ?_
    with_reducible refine Tr.pure ?_
    with_reducible refine Tr.bind ?_
    with_reducible refine Tr.bind ?_
    with_reducible refine Tr.bind ?_
    with_reducible refine Tr.bind ?_
    with_reducible refine Tr.cell (by (repeat (first | assumption | exact List.mem_cons_self | apply List.mem_cons_of_mem))) ?_
    with_reducible refine Tr.bind ?_
    with_reducible refine Tr.bind ?_
    with_reducible refine Tr.pure ?_
    with_reducible refine Tr.bind ?_
    with_reducible refine Tr.pure ?_
    with_reducible refine Tr.pure ?_
    with_reducible refine Tr.pure ?_
    (with_reducible refine T202 (by (repeat (first | assumption | exact List.mem_cons_self | apply List.mem_cons_of_mem))) (by (repeat (first | assumption | exact List.mem_cons_self | apply List.mem_cons_of_mem))) ?_ ?_); (next => omega); intro _ _ _
    with_reducible refine Tr.bind ?_
    with_reducible refine Tr.pure ?_
    (with_reducible refine Tr.fdiv ?_ ?_); (next => omega)
    (with_reducible refine Tr.mul ?_ ?_); (next => omega)
    with_reducible refine Tr.add ?_
    exact ⟨Imp.rfl, _, rfl, by omega, by omega⟩
  have hraw : ∀ i ∈ raw, 0 ≤ i ∧ i ≤ 1000 := fun i hi => by
    obtain ⟨j, hj, rfl⟩ := List.mem_iff_getElem.mp hi
    exact h2 ((rangeIs 0 1 (11 : Int).toNat)[j]'(by rw [rangeIs_len]; omega), raw[j]) (List.mem_iff_getElem.mpr ⟨j, by rw [List.length_zip, rangeIs_len]; omega, by simp⟩)
  have hl : raw.length = 11 := h1
  (with_reducible refine Tr.newl ?_); intro _
  with_reducible refine Tr.bind ?_
  with_reducible refine Tr.bind ?_
  with_reducible refine Tr.bind ?_
  with_reducible refine Tr.cell (by (repeat (first | assumption | exact List.mem_cons_self | apply List.mem_cons_of_mem))) ?_
  with_reducible refine Tr.bind ?_
  with_reducible refine Tr.bind ?_
  with_reducible refine Tr.bind ?_
  with_reducible refine Tr.bind ?_
  with_reducible refine Tr.cell (by (repeat (first | assumption | exact List.mem_cons_self | apply List.mem_cons_of_mem))) ?_
  with_reducible refine Tr.bind ?_
  with_reducible refine Tr.bind ?_
  with_reducible refine Tr.pure ?_
  with_reducible refine Tr.bind ?_
  with_reducible refine Tr.pure ?_
  with_reducible refine Tr.pure ?_
  with_reducible refine Tr.pure ?_
  (with_reducible refine T202 (by (repeat (first | assumption | exact List.mem_cons_self | apply List.mem_cons_of_mem))) (by (repeat (first | assumption | exact List.mem_cons_self | apply List.mem_cons_of_mem))) ?_ ?_); (next => omega); intro _ _ _
  with_reducible refine Tr.bind ?_
  with_reducible refine Tr.bind ?_
  with_reducible refine Tr.pure ?_
  with_reducible refine Tr.bind ?_
  with_reducible refine Tr.bind ?_
  with_reducible refine Tr.bind ?_
  with_reducible refine Tr.pure ?_
  with_reducible refine Tr.bind ?_
  with_reducible refine Tr.bind ?_
  with_reducible refine Tr.bind ?_
  with_reducible refine Tr.cell (by (repeat (first | assumption | exact List.mem_cons_self | apply List.mem_cons_of_mem))) ?_
  with_reducible refine Tr.bind ?_
  with_reducible refine Tr.bind ?_
  with_reducible refine Tr.pure ?_
  with_reducible refine Tr.bind ?_
  with_reducible refine Tr.pure ?_
  with_reducible refine Tr.pure ?_
  with_reducible refine Tr.pure ?_
  (with_reducible refine T202 (by (repeat (first | assumption | exact List.mem_cons_self | apply List.mem_cons_of_mem))) (by (repeat (first | assumption | exact List.mem_cons_self | apply List.mem_cons_of_mem))) ?_ ?_); (next => omega); intro _ _ _
  with_reducible refine Tr.add ?_
  with_reducible refine Tr.bind ?_
  with_reducible refine Tr.pure ?_
  with_reducible refine Tr.pure ?_
  with_reducible refine Tr.pure ?_
  with_reducible refine Tr.pure ?_
  with_reducible refine Tr.pure ?_
  (with_reducible refine T113 (by (repeat (first | assumption | exact List.mem_cons_self | apply List.mem_cons_of_mem))) (by (repeat (first | assumption | exact List.mem_cons_self | apply List.mem_cons_of_mem))) (by (repeat (first | assumption | exact List.mem_cons_self | apply List.mem_cons_of_mem))) ?_ ?_); (next => omega); intro _ _ _ _
  with_reducible refine Tr.bind ?_
  with_reducible refine Tr.bind ?_
  with_reducible refine Tr.bind ?_
  with_reducible refine Tr.bind ?_
  with_reducible refine Tr.bind ?_
  with_reducible refine Tr.cell (by (repeat (first | assumption | exact List.mem_cons_self | apply List.mem_cons_of_mem))) ?_
  with_reducible refine Tr.bind ?_
  with_reducible refine Tr.bind ?_
  with_reducible refine Tr.pure ?_
  with_reducible refine Tr.bind ?_
  with_reducible refine Tr.pure ?_
  with_reducible refine Tr.pure ?_
  with_reducible refine Tr.pure ?_
  (with_reducible refine T202 (by (repeat (first | assumption | exact List.mem_cons_self | apply List.mem_cons_of_mem))) (by (repeat (first | assumption | exact List.mem_cons_self | apply List.mem_cons_of_mem))) ?_ ?_); (next => omega); intro _ _ _
  with_reducible refine Tr.bind ?_
  with_reducible refine Tr.bind ?_
  with_reducible refine Tr.bind ?_
  with_reducible refine Tr.bind ?_
  with_reducible refine Tr.cell (by (repeat (first | assumption | exact List.mem_cons_self | apply List.mem_cons_of_mem))) ?_
  with_reducible refine Tr.bind ?_
  with_reducible refine Tr.bind ?_
  with_reducible refine Tr.pure ?_
  with_reducible refine Tr.bind ?_
  with_reducible refine Tr.pure ?_
  with_reducible refine Tr.pure ?_
  with_reducible refine Tr.pure ?_
  (with_reducible refine T202 (by (repeat (first | assumption | exact List.mem_cons_self | apply List.mem_cons_of_mem))) (by (repeat (first | assumption | exact List.mem_cons_self | apply List.mem_cons_of_mem))) ?_ ?_); (next => omega); intro _ _ _
  with_reducible refine Tr.bind ?_
  with_reducible refine Tr.pure ?_
  with_reducible refine Tr.pure ?_
  with_reducible refine Tr.pure ?_
  with_reducible refine Tr.bind ?_
  with_reducible refine Tr.pair ?_
  with_reducible refine Tr.bind ?_
  with_reducible refine Tr.bind ?_
  with_reducible refine Tr.pure ?_
  (with_reducible refine Tr.setF (by (repeat (first | assumption | exact List.mem_cons_self | apply List.mem_cons_of_mem))) (by (repeat (first | exact Up.here | apply Up.next))) (by exact enp_spare) ?_ ?_); (next => exact Nat.le_of_ble_eq_true rfl)
  with_reducible refine Tr.bind ?_
  with_reducible refine Tr.pure ?_
  (with_reducible refine Tr.setF (by (repeat (first | assumption | exact List.mem_cons_self | apply List.mem_cons_of_mem))) (by (repeat (first | exact Up.here | apply Up.next))) (by exact enp_count) ?_ ?_); (next => exact Nat.le_of_ble_eq_true rfl)
  with_reducible refine Tr.bind ?_
  with_reducible refine Tr.bind ?_
  with_reducible refine Tr.bind ?_
  with_reducible refine Tr.bind ?_
  with_reducible refine Tr.pure ?_
  with_reducible refine Tr.getF (by (repeat (first | assumption | exact List.mem_cons_self | apply List.mem_cons_of_mem))) (by (repeat (first | assumption | exact List.mem_cons_self | apply List.mem_cons_of_mem))) (by exact en_map) ?_
  rename_i n0 u hu0 hu1 ex hx0 hx1 e de r m0 sp hs0 hs1 ct hc0 hc1
  have hr : (List.replicate (if B ≤ 256 then 16 else 8) (0 : Int)).length = (if B ≤ 256 then 16 else 8) := List.length_replicate
  have hr' : (if B ≤ 256 then 16 else 8 : Nat) ≤ 16 := by split <;> decide
  refine Tr.compL (R := fun k i => 0 ≤ i ∧ i < B) (by omega) (fun k hk => ?_) fun m mp h3 h4 => ?_
  · with_reducible refine Tr.bind ?_
    with_reducible refine Tr.bind ?_
    with_reducible refine Tr.cell (by (repeat (first | assumption | exact List.mem_cons_self | apply List.mem_cons_of_mem))) ?_
    with_reducible refine Tr.bind ?_
    with_reducible refine Tr.bind ?_
    with_reducible refine Tr.bind ?_
    with_reducible refine Tr.cell (by (repeat (first | assumption | exact List.mem_cons_self | apply List.mem_cons_of_mem))) ?_
    with_reducible refine Tr.getF (by (repeat (first | assumption | exact List.mem_cons_self | apply List.mem_cons_of_mem))) (by (repeat (first | assumption | exact List.mem_cons_self | apply List.mem_cons_of_mem))) (by exact dk_blocks) ?_
    with_reducible refine Tr.bind ?_
    with_reducible refine Tr.pure ?_
    with_reducible refine Tr.pure ?_
    with_reducible refine Tr.pure ?_
    (with_reducible refine T202 (by (repeat (first | assumption | exact List.mem_cons_self | apply List.mem_cons_of_mem))) (by (repeat (first | assumption | exact List.mem_cons_self | apply List.mem_cons_of_mem))) ?_ ?_); (next => omega); intro _ _ _
    exact ⟨Imp.rfl, _, rfl, by omega, by omega⟩
  with_reducible refine Tr.bind ?_
  with_reducible refine Tr.pure ?_
  (with_reducible refine Tr.setF (by (repeat (first | assumption | exact List.mem_cons_self | apply List.mem_cons_of_mem))) (by (repeat (first | exact Up.here | apply Up.next))) (by exact enp_map) ?_ ?_); (next => exact Nat.le_of_ble_eq_true rfl)
  with_reducible refine Tr.bind ?_
  with_reducible refine Tr.pure ?_
  with_reducible refine Tr.pure ?_
  with_reducible refine Tr.pure ?_
  refine ⟨_, Imp.sub ?_, c e de r m u (32 + ex) sp ct raw mp hl hraw ⟨hu0, hu1⟩ (by omega) ⟨hs0, hs1⟩ ⟨hc0, hc1⟩ (h3.trans hr) fun i hi => ?_⟩
  · (repeat (first | exact List.Sublist.refl _ | apply List.Sublist.cons₂ | apply List.Sublist.cons))
  · obtain ⟨j, hj, rfl⟩ := List.mem_iff_getElem.mp hi
    exact h4 ((List.replicate (if B ≤ 256 then 16 else 8) (0 : Int))[j]'(by omega), mp[j]) (List.mem_iff_getElem.mpr ⟨j, by rw [List.length_zip]; omega, by simp⟩)
end
end Mine
end

/-! ## PL7 -/
section
open PySem PySem.W PySem.Calls PyProof.Rows
namespace Mine
/-! the octets of an entry are the entry again -/
section
variable {B u ext sp ct k : Int} {raw mp D O : List Int} {n : Nat}
theorem oct_cons : oct B u raw ext sp ct mp = u :: (raw ++ (ext % 32 :: sp :: ext / 32 :: ct :: mo B mp)) := by simp [oct]
theorem mo_length (h : mp.length = (if B ≤ 256 then 16 else 8)) : (mo B mp).length = 16 := by
  by_cases hB : B ≤ 256
  · rw [mo_small hB, h, if_pos hB]
  · rw [if_neg hB] at h
    have : ∀ l : List Int, (mo B l).length = 2 * l.length := fun l => by
      induction l with
      | nil => rfl
      | cons k r ih =>
        have ih : (List.flatMap (oc B) r).length = 2 * r.length := ih
        rw [mo, List.flatMap_cons, List.length_append, List.length_cons, ih, oc, if_neg hB, List.length_cons, List.length_cons, List.length_nil]
        omega
    rw [this, h]
theorem oct_len (hr : raw.length = 11) (h : mp.length = (if B ≤ 256 then 16 else 8)) : (oct B u raw ext sp ct mp).length = 32 := by
  have := mo_length h
  rw [oct_cons, List.length_cons, List.length_append]
  simp only [List.length_cons]
  omega
theorem tail_at {t : List Int} (hr : raw.length = 11) (j : Nat) : (u :: (raw ++ t)).getD (12 + j) 0 = t.getD j 0 := by
  rw [show 12 + j = (11 + j) + 1 by omega, List.getD_eq_getElem?_getD, List.getElem?_cons_succ, List.getElem?_append_right (by omega), hr, Nat.add_sub_cancel_left, List.getD_eq_getElem?_getD]
theorem oct_raw (hr : raw.length = 11) : ((oct B u raw ext sp ct mp).take 12).drop 1 = raw := by
  rw [oct_cons, List.take_succ_cons, List.drop_succ_cons, List.drop_zero, ← hr, List.take_left]
theorem oct_drop (hr : raw.length = 11) : (oct B u raw ext sp ct mp).drop 16 = mo B mp := by
  rw [oct_cons, List.drop_succ_cons, show (15 : Nat) = raw.length + 4 by omega, List.drop_append, List.drop_eq_nil_of_le (by omega), Nat.add_sub_cancel_left]
  rfl
theorem oct_at (hr : raw.length = 11) (j : Nat) : (oct B u raw ext sp ct mp).getD (16 + j) 0 = (mo B mp).getD j 0 := by
  rw [← oct_drop (u := u) (ext := ext) (sp := sp) (ct := ct) hr, List.getD_eq_getElem?_getD, List.getD_eq_getElem?_getD, List.getElem?_drop]
theorem mo_pair (hB : ¬ B ≤ 256) : ∀ (mp : List Int) (j : Nat) (h : j < mp.length), (mo B mp).getD (2 * j) 0 + 256 * (mo B mp).getD (2 * j + 1) 0 = mp[j]
  | k :: mp, 0, _ => by
    rw [mo, List.flatMap_cons, oc, if_neg hB]
    show k % 256 + 256 * (k / 256) = k
    omega
  | k :: mp, j + 1, h => by
    have := mo_pair hB mp j (by simpa using h)
    rw [List.getElem_cons_succ, ← this, mo, List.flatMap_cons, oc, if_neg hB]
    rfl
theorem oct_map (hr : raw.length = 11) (h : mp.length = (if B ≤ 256 then 16 else 8)) : ma B (oct B u raw ext sp ct mp) = mp := by
  by_cases hB : B ≤ 256
  · rw [ma, if_pos hB, List.take_of_length_le (by rw [oct_len hr h]; exact Nat.le_refl _), oct_drop hr, mo_small hB]
  · rw [ma, if_neg hB]
    rw [if_neg hB] at h
    refine List.ext_getElem (by rw [List.length_map, rangeIs_len, h]) fun i a b => ?_
    rw [List.getElem_map]
    have hi : i < 8 := by omega
    have e : (rangeIs 16 2 8)[i]'(by rw [rangeIs_len]; exact hi) = 16 + (i : Int) * 2 := by simp [rangeIs]
    rw [e, show (16 + (i : Int) * 2).toNat = 16 + 2 * i by omega, show (16 + (i : Int) * 2 + 1).toNat = 16 + (2 * i + 1) by omega, oct_at hr, oct_at hr]
    exact mo_pair hB mp i b
theorem getD_of {P : Int → Prop} {l : List Int} (h : ∀ y ∈ l, P y) (h0 : P 0) (i : Nat) : P (l.getD i 0) := by
  rw [List.getD_eq_getElem?_getD]
  cases e : l[i]? with
  | none => exact h0
  | some y => exact h y (List.mem_of_getElem? e)
theorem oct_bd (hu : 0 ≤ u ∧ u < 16) (hx : 32 ≤ ext ∧ ext < 600) (hs : 0 ≤ sp ∧ sp < 2) (hc : 0 ≤ ct ∧ ct < 129) (hraw : ∀ i ∈ raw, 0 ≤ i ∧ i ≤ 1000) (hmp : ∀ i ∈ mp, 0 ≤ i ∧ i < B) (hB : B ≤ 1000) (i : Nat) :
    -100000 ≤ (oct B u raw ext sp ct mp).getD i 0 ∧ (oct B u raw ext sp ct mp).getD i 0 ≤ 100000 := by
  refine getD_of (P := fun y => -100000 ≤ y ∧ y ≤ 100000) (fun y hy => ?_) (by omega) i
  rw [oct_cons] at hy
  simp only [List.mem_cons, List.mem_append] at hy
  rcases hy with rfl | hy | rfl | rfl | rfl | rfl | hy
  · omega
  · have := hraw y hy; omega
  · omega
  · omega
  · omega
  · omega
  · obtain ⟨k, hk, hy⟩ := List.mem_flatMap.mp hy
    have := hmp k hk
    unfold oc at hy
    split at hy
    · rw [List.mem_singleton.mp hy]; omega
    · simp only [List.mem_cons, List.not_mem_nil, or_false] at hy
      rcases hy with rfl | rfl <;> omega
/-! octets in their place -/
theorem ov_slice (h : n + O.length ≤ D.length) (e : k = n + O.length) : ((ov D n O).take k.toNat).drop n = O := by
  subst e
  have h1 : (D.take n ++ O).length = ((n : Int) + O.length).toNat := by simp; omega
  rw [ov, ← h1, List.take_left, List.drop_append]
  simp [List.drop_eq_nil_of_le, List.length_take, Nat.min_eq_left (show n ≤ D.length by omega)]
theorem ov_fill {v : Int} (h : n + O.length ≤ D.length) (h0 : 0 < O.length) : ov ((ov D n O).set n v) n O = ov D n O := by
  have ht : (D.take n).length = n := by simp; omega
  obtain ⟨y, O', rfl⟩ : ∃ y O', O = y :: O' := by cases O with | nil => simp at h0 | cons y O' => exact ⟨y, O', rfl⟩
  have e : (ov D n (y :: O')).set n v = ov D n (v :: O') := by
    rw [ov, List.append_assoc, List.set_append_right _ _ (by omega), ht, Nat.sub_self, List.cons_append, List.set_cons_zero, ov, List.append_assoc]
    rfl
  have a1 : (ov D n (v :: O')).take n = D.take n := by rw [ov, List.append_assoc, List.take_append_of_le_length (by omega), List.take_of_length_le (by omega)]
  have a2 : (ov D n (v :: O')).drop (n + (y :: O').length) = D.drop (n + (y :: O').length) := by
    rw [ov, show n + (y :: O').length = (D.take n ++ v :: O').length by simp; omega, List.drop_left]
    simp; congr 1; omega
  rw [e, ov, a1, a2, ← ov]
theorem set_cut {v : Int} (h : n < D.length) : D.set n v = D.take n ++ [v] ++ D.drop (n + 1) := by
  rw [List.set_eq_take_append_cons_drop, if_pos h]
  simp
end
end Mine
end

/-! ## PL8 -/
section
open PySem PySem.W PySem.Calls PyProof.Rows
namespace Mine
section
variable {Γ Γ' Δ : Ct} {i j n d dd x e de r m o f b q : Nat} {B K R N u ext sp ct k : Int} {ro ro' : Bool} {a a1 a2 a3 a4 : AV} {raw mp L D ns : List Int} {E : Str → Ct → Prop} {Q : AV → Ct → Prop}
/-- an entry is read by its number -/
theorem T141 (hd : (d, As.is (.inst 53 dd)) ∈ Γ) (hf : (dd, As.is (.dict (dk B K R N ro x))) ∈ Γ) (hx : (x, As.is (.ints D)) ∈ Γ) (hk : 0 ≤ k ∧ k < N) (hN : N ≤ 1000) (hz : D.length ≤ 1000000) (hL : (D.take ((k + 1) * 32).toNat).drop (k * 32).toNat = L) (hl : L.length = 32)
    (hb : ∀ i, -100000 ≤ L.getD i 0 ∧ L.getD i 0 ≤ 100000) (h0 : L.getD 0 0 ≠ 229)
    (q : ∀ e de r m, Q (.loc e) ((m, .is (.ints (ma B L))) :: (r, .is (.ints ((L.take 12).drop 1))) :: (e, .is (.inst 74 de)) :: (de, .is (.dict (en (L.getD 0 0) r (L.getD 14 0 * 32 + L.getD 12 0 % 32) (L.getD 13 0) (L.getD 15 0) m))) :: Γ)) : Tr Γ (M141 [.loc d, .int k]) Q E := by
  refine Tr.m2 (P := P141) (Tr.wk ?_)
  unfold P141
  with_reducible refine Tr.bind ?_
  with_reducible refine Tr.bind ?_
  with_reducible refine Tr.bind ?_
  with_reducible refine Tr.pure ?_
  with_reducible refine Tr.bind ?_
  with_reducible refine Tr.bind ?_
  with_reducible refine Tr.bind ?_
  with_reducible refine Tr.bind ?_
  with_reducible refine Tr.pure ?_
  with_reducible refine Tr.bind ?_
  with_reducible refine Tr.bind ?_
  with_reducible refine Tr.pure ?_
  with_reducible refine Tr.bind ?_
  with_reducible refine Tr.pure ?_
  with_reducible refine Tr.pure ?_
  with_reducible refine Tr.pure ?_
  (with_reducible refine T134 (by (repeat (first | assumption | exact List.mem_cons_self | apply List.mem_cons_of_mem))) (by (repeat (first | assumption | exact List.mem_cons_self | apply List.mem_cons_of_mem))) (by (repeat (first | assumption | exact List.mem_cons_self | apply List.mem_cons_of_mem))) ?_ ?_ ?_ ?_); (next => omega); (next => omega); (next => omega); intro _
  with_reducible refine Tr.bind ?_
  with_reducible refine Tr.pure ?_
  with_reducible refine Tr.pure ?_
  with_reducible refine Tr.pure ?_
  rw [hL]
  refine T127 (by (repeat (first | assumption | exact List.mem_cons_self | apply List.mem_cons_of_mem))) (by (repeat (first | assumption | exact List.mem_cons_self | apply List.mem_cons_of_mem))) (by (repeat (first | assumption | exact List.mem_cons_self | apply List.mem_cons_of_mem))) hl hb h0 fun e de r m => ?_
  with_reducible refine Tr.pure ?_
  exact ⟨_, Imp.sub (by (repeat (first | exact List.Sublist.refl _ | apply List.Sublist.cons₂ | apply List.Sublist.cons))), q e de r m⟩
theorem T141n (hd : (d, As.is (.inst 53 dd)) ∈ Γ) (hf : (dd, As.is (.dict (dk B K R N ro x))) ∈ Γ) (hx : (x, As.is (.ints D)) ∈ Γ) (hk : 0 ≤ k ∧ k < N) (hN : N ≤ 1000) (hz : N * 32 ≤ D.length ∧ D.length ≤ 1000000) (h0 : D.getD (k * 32).toNat 0 = 229) (q : Q .none Γ) : Tr Γ (M141 [.loc d, .int k]) Q E := by
  refine Tr.m2 (P := P141) (Tr.wk ?_)
  unfold P141
  have z : ((D.take ((k + 1) * 32).toNat).drop (k * 32).toNat).length = 32 := by rw [List.length_drop, List.length_take]; omega
  with_reducible refine Tr.bind ?_
  with_reducible refine Tr.bind ?_
  with_reducible refine Tr.bind ?_
  with_reducible refine Tr.pure ?_
  with_reducible refine Tr.bind ?_
  with_reducible refine Tr.bind ?_
  with_reducible refine Tr.bind ?_
  with_reducible refine Tr.bind ?_
  with_reducible refine Tr.pure ?_
  with_reducible refine Tr.bind ?_
  with_reducible refine Tr.bind ?_
  with_reducible refine Tr.pure ?_
  with_reducible refine Tr.bind ?_
  with_reducible refine Tr.pure ?_
  with_reducible refine Tr.pure ?_
  with_reducible refine Tr.pure ?_
  (with_reducible refine T134 (by (repeat (first | assumption | exact List.mem_cons_self | apply List.mem_cons_of_mem))) (by (repeat (first | assumption | exact List.mem_cons_self | apply List.mem_cons_of_mem))) (by (repeat (first | assumption | exact List.mem_cons_self | apply List.mem_cons_of_mem))) ?_ ?_ ?_ ?_); (next => omega); (next => omega); (next => omega); intro _
  with_reducible refine Tr.bind ?_
  with_reducible refine Tr.pure ?_
  with_reducible refine Tr.pure ?_
  with_reducible refine Tr.pure ?_
  refine T127n (by (repeat (first | assumption | exact List.mem_cons_self | apply List.mem_cons_of_mem))) (by (repeat (first | assumption | exact List.mem_cons_self | apply List.mem_cons_of_mem))) (by (repeat (first | assumption | exact List.mem_cons_self | apply List.mem_cons_of_mem))) (by omega) ?_ ?_
  · rw [List.getD_eq_getElem?_getD, List.getElem?_drop, List.getElem?_take_of_lt (by omega), ← List.getD_eq_getElem?_getD]; exact h0
  · with_reducible refine Tr.pure ?_
    exact ⟨_, Imp.sub (by (repeat (first | exact List.Sublist.refl _ | apply List.Sublist.cons₂ | apply List.Sublist.cons))), q⟩
theorem T240 (hd : (d, As.is (.inst 53 dd)) ∈ Γ) (hf : (dd, As.is (.dict (dk B K R 4 false x))) ∈ Γ) (hb : (b, As.box q) ∈ Γ) (hq : (q, As.que) ∈ Γ) (hB : 0 < B ∧ B ≤ 1000) (hz : 128 ≤ D.length ∧ D.length ≤ 1000000)
    (c : ∀ D' : List Int, D'.length = D.length → Q (.bool true) ((x, .is (.ints D')) :: Γ)) : Tr ((x, .is (.ints D)) :: Γ) (M240 [.loc d, .loc b]) Q E := by
  refine Tr.m2 (P := P240) (Tr.wk ?_)
  unfold P240
  with_reducible refine Tr.bind ?_
  with_reducible refine Tr.bind ?_
  with_reducible refine Tr.bind ?_
  with_reducible refine Tr.bind ?_
  with_reducible refine Tr.bind ?_
  with_reducible refine Tr.pure ?_
  with_reducible refine Tr.bind ?_
  with_reducible refine Tr.bind ?_
  with_reducible refine Tr.pure ?_
  with_reducible refine Tr.bind ?_
  with_reducible refine Tr.pure ?_
  with_reducible refine Tr.pure ?_
  with_reducible refine Tr.pure ?_
  (with_reducible refine T212 (by (repeat (first | assumption | exact List.mem_cons_self | apply List.mem_cons_of_mem))) (by (repeat (first | assumption | exact List.mem_cons_self | apply List.mem_cons_of_mem))) (by (repeat (first | assumption | exact List.mem_cons_self | apply List.mem_cons_of_mem))) (by (repeat (first | assumption | exact List.mem_cons_self | apply List.mem_cons_of_mem))) ?_ ?_); (next => omega); intro _ _ _ _ _ _ _ _ _ _ _ _ _ _ _ _ _ _
  with_reducible refine Tr.bind ?_
  with_reducible refine Tr.bind ?_
  with_reducible refine Tr.bind ?_
  with_reducible refine Tr.bind ?_
  with_reducible refine Tr.pure ?_
  with_reducible refine Tr.bind ?_
  with_reducible refine Tr.bind ?_
  with_reducible refine Tr.bind ?_
  with_reducible refine Tr.pure ?_
  with_reducible refine Tr.getF (by (repeat (first | assumption | exact List.mem_cons_self | apply List.mem_cons_of_mem))) (by (repeat (first | assumption | exact List.mem_cons_self | apply List.mem_cons_of_mem))) (by exact dk_entries) ?_
  with_reducible refine Tr.bind ?_
  with_reducible refine Tr.pure ?_
  with_reducible refine Tr.pure ?_
  with_reducible refine Tr.pure ?_
  (with_reducible refine T202 (by (repeat (first | assumption | exact List.mem_cons_self | apply List.mem_cons_of_mem))) (by (repeat (first | assumption | exact List.mem_cons_self | apply List.mem_cons_of_mem))) ?_ ?_); (next => omega); intro _ _ _
  with_reducible refine Tr.bind ?_
  with_reducible refine Tr.pure ?_
  with_reducible refine Tr.pure ?_
  with_reducible refine Tr.pure ?_
  with_reducible refine Tr.pair ?_
  with_reducible refine Tr.bind ?_
  with_reducible refine Tr.bind ?_
  with_reducible refine Tr.bind ?_
  with_reducible refine Tr.pure ?_
  with_reducible refine Tr.bind ?_
  with_reducible refine Tr.bind ?_
  with_reducible refine Tr.pure ?_
  with_reducible refine Tr.bind ?_
  with_reducible refine Tr.pure ?_
  with_reducible refine Tr.pure ?_
  with_reducible refine Tr.pure ?_
  rename_i e de r m u ext sp ct raw mp hraw hrb hu hx hs hc hmp hmb k hk0 hk1
  have hml : mp.length ≤ 16 := by rw [hmp]; split <;> decide
  have hO := oct_len (B := B) (u := u) (ext := ext) (sp := sp) (ct := ct) hraw hmp
  have hbd := oct_bd (B := B) (raw := raw) (mp := mp) hu hx hs hc hrb hmb hB.2
  have hraw2 := oct_raw (B := B) (u := u) (ext := ext) (sp := sp) (ct := ct) (mp := mp) hraw
  have hma := oct_map (B := B) (u := u) (ext := ext) (sp := sp) (ct := ct) hraw hmp
  have hdr := oct_drop (B := B) (u := u) (ext := ext) (sp := sp) (ct := ct) (mp := mp) hraw
  have g0 : (oct B u raw ext sp ct mp).getD 0 0 = u := by rw [oct_cons]; rfl
  have g12 : (oct B u raw ext sp ct mp).getD 12 0 = ext % 32 := by rw [oct_cons]; exact tail_at hraw 0
  have g13 : (oct B u raw ext sp ct mp).getD 13 0 = sp := by rw [oct_cons]; exact tail_at hraw 1
  have g14 : (oct B u raw ext sp ct mp).getD 14 0 = ext / 32 := by rw [oct_cons]; exact tail_at hraw 2
  have g15 : (oct B u raw ext sp ct mp).getD 15 0 = ct := by rw [oct_cons]; exact tail_at hraw 3
  have hO229 : (oct B u raw ext sp ct mp).getD 0 0 ≠ 229 := by rw [g0]; omega
  have hext : ext / 32 * 32 + ext % 32 % 32 = ext := by omega
  generalize hOe : oct B u raw ext sp ct mp = O at *
  dsimp only
  (with_reducible refine T226 (by (repeat (first | assumption | exact List.mem_cons_self | apply List.mem_cons_of_mem))) (by (repeat (first | assumption | exact List.mem_cons_self | apply List.mem_cons_of_mem))) (by (repeat (first | assumption | exact List.mem_cons_self | apply List.mem_cons_of_mem))) (by (repeat (first | assumption | exact List.mem_cons_self | apply List.mem_cons_of_mem))) (by (repeat (first | assumption | exact List.mem_cons_self | apply List.mem_cons_of_mem))) (by (repeat (first | assumption | exact List.mem_cons_self | apply List.mem_cons_of_mem))) ?_ ?_ ?_); (next => omega); (next => omega); intro _
  with_reducible refine Tr.bind ?_
  with_reducible refine Tr.bind ?_
  with_reducible refine Tr.bind ?_
  with_reducible refine Tr.bind ?_
  with_reducible refine Tr.bind ?_
  with_reducible refine Tr.pure ?_
  with_reducible refine Tr.bind ?_
  with_reducible refine Tr.bind ?_
  with_reducible refine Tr.pure ?_
  with_reducible refine Tr.bind ?_
  with_reducible refine Tr.pure ?_
  with_reducible refine Tr.pure ?_
  with_reducible refine Tr.pure ?_
  rename_i nO
  rw [hOe]
  (with_reducible refine T120 (by (repeat (first | assumption | exact List.mem_cons_self | apply List.mem_cons_of_mem))) (by (repeat (first | assumption | exact List.mem_cons_self | apply List.mem_cons_of_mem))) (by (repeat (first | assumption | exact List.mem_cons_self | apply List.mem_cons_of_mem))) (by (repeat (first | assumption | exact List.mem_cons_self | apply List.mem_cons_of_mem))) (by (repeat (first | assumption | exact List.mem_cons_self | apply List.mem_cons_of_mem))) (by (repeat (first | assumption | exact List.mem_cons_self | apply List.mem_cons_of_mem))) ?_ ?_ ?_); (next => omega); (next => omega); intro _
  with_reducible refine Tr.bind ?_
  with_reducible refine Tr.pure ?_
  with_reducible refine Tr.bind ?_
  rw [hOe]
  with_reducible refine Tr.neL (by (repeat (first | assumption | exact List.mem_cons_self | apply List.mem_cons_of_mem))) (by (repeat (first | assumption | exact List.mem_cons_self | apply List.mem_cons_of_mem))) rfl ?_
  with_reducible refine Tr.bool ?_
  (with_reducible refine Tr.ifF ?_ ?_); (next => rfl)
  with_reducible refine Tr.bind ?_
  with_reducible refine Tr.bind ?_
  with_reducible refine Tr.bind ?_
  with_reducible refine Tr.bind ?_
  with_reducible refine Tr.bind ?_
  with_reducible refine Tr.pure ?_
  with_reducible refine Tr.bind ?_
  with_reducible refine Tr.bind ?_
  with_reducible refine Tr.pure ?_
  with_reducible refine Tr.bind ?_
  with_reducible refine Tr.pure ?_
  with_reducible refine Tr.pure ?_
  with_reducible refine Tr.pure ?_
  refine Tr.drop (T127 (by (repeat (first | assumption | exact List.mem_cons_self | apply List.mem_cons_of_mem))) (by (repeat (first | assumption | exact List.mem_cons_self | apply List.mem_cons_of_mem))) (by (repeat (first | assumption | exact List.mem_cons_self | apply List.mem_cons_of_mem))) hO hbd hO229 fun e2 de2 r2 m2 => ?_)
  rw [hma, hraw2, g0, g12, g13, g14, g15, hext]
  with_reducible refine Tr.bind ?_
  with_reducible refine Tr.pure ?_
  with_reducible refine Tr.pure ?_
  (with_reducible refine T219 (by (repeat (first | assumption | exact List.mem_cons_self | apply List.mem_cons_of_mem))) (by (repeat (first | assumption | exact List.mem_cons_self | apply List.mem_cons_of_mem))) (by (repeat (first | assumption | exact List.mem_cons_self | apply List.mem_cons_of_mem))) (by (repeat (first | assumption | exact List.mem_cons_self | apply List.mem_cons_of_mem))) ?_ ?_ ?_); (next => omega); (next => omega); intro _ _ _
  with_reducible refine Tr.bind ?_
  with_reducible refine Tr.bind ?_
  with_reducible refine Tr.bind ?_
  with_reducible refine Tr.pure ?_
  with_reducible refine Tr.bind ?_
  with_reducible refine Tr.pure ?_
  with_reducible refine Tr.pure ?_
  (with_reducible refine T219 (by (repeat (first | assumption | exact List.mem_cons_self | apply List.mem_cons_of_mem))) (by (repeat (first | assumption | exact List.mem_cons_self | apply List.mem_cons_of_mem))) (by (repeat (first | assumption | exact List.mem_cons_self | apply List.mem_cons_of_mem))) (by (repeat (first | assumption | exact List.mem_cons_self | apply List.mem_cons_of_mem))) ?_ ?_ ?_); (next => omega); (next => omega); intro _ _ _
  with_reducible refine Tr.bind ?_
  with_reducible refine Tr.neP (by (repeat (first | assumption | exact List.mem_cons_self | apply List.mem_cons_of_mem))) (by (repeat (first | assumption | exact List.mem_cons_self | apply List.mem_cons_of_mem))) (by (repeat (first | assumption | exact List.mem_cons_self | apply List.mem_cons_of_mem))) (by (repeat (first | assumption | exact List.mem_cons_self | apply List.mem_cons_of_mem))) (by (repeat (first | assumption | exact List.mem_cons_self | apply List.mem_cons_of_mem))) (by (repeat (first | assumption | exact List.mem_cons_self | apply List.mem_cons_of_mem))) ?_
  with_reducible refine Tr.bool ?_
  with_reducible refine Tr.bind ?_
  (with_reducible refine Tr.ifF ?_ ?_); (next => rfl)
  with_reducible refine Tr.pure ?_
  with_reducible refine Tr.aftN ?_
  with_reducible refine Tr.bind ?_
  with_reducible refine Tr.bind ?_
  with_reducible refine Tr.bind ?_
  with_reducible refine Tr.bind ?_
  with_reducible refine Tr.bind ?_
  with_reducible refine Tr.pure ?_
  with_reducible refine Tr.bind ?_
  with_reducible refine Tr.bind ?_
  with_reducible refine Tr.pure ?_
  with_reducible refine Tr.bind ?_
  with_reducible refine Tr.pure ?_
  with_reducible refine Tr.pure ?_
  with_reducible refine Tr.pure ?_
  iterate 10 refine Tr.drop ?_
  (with_reducible refine T167 (by (repeat (first | assumption | exact List.mem_cons_self | apply List.mem_cons_of_mem))) (by (repeat (first | assumption | exact List.mem_cons_self | apply List.mem_cons_of_mem))) (by (repeat (first | assumption | exact List.mem_cons_self | apply List.mem_cons_of_mem))) ?_ ?_ ?_); (next => omega); (next => assumption); intro _
  with_reducible refine Tr.bind ?_
  with_reducible refine Tr.bind ?_
  with_reducible refine Tr.pure ?_
  with_reducible refine Tr.getF (by (repeat (first | assumption | exact List.mem_cons_self | apply List.mem_cons_of_mem))) (by (repeat (first | assumption | exact List.mem_cons_self | apply List.mem_cons_of_mem))) (by exact en_map) ?_
  with_reducible refine Tr.bind ?_
  rw [hma]
  with_reducible refine Tr.neL (by (repeat (first | assumption | exact List.mem_cons_self | apply List.mem_cons_of_mem))) (by (repeat (first | assumption | exact List.mem_cons_self | apply List.mem_cons_of_mem))) rfl ?_
  with_reducible refine Tr.bool ?_
  (with_reducible refine Tr.ifF ?_ ?_); (next => rfl)
  with_reducible refine Tr.bind ?_
  with_reducible refine Tr.bind ?_
  with_reducible refine Tr.bind ?_
  with_reducible refine Tr.pure ?_
  with_reducible refine Tr.bind ?_
  with_reducible refine Tr.bind ?_
  with_reducible refine Tr.bind ?_
  with_reducible refine Tr.pure ?_
  with_reducible refine Tr.getF (by (repeat (first | assumption | exact List.mem_cons_self | apply List.mem_cons_of_mem))) (by (repeat (first | assumption | exact List.mem_cons_self | apply List.mem_cons_of_mem))) (by exact en_map) ?_
  with_reducible refine Tr.bind ?_
  with_reducible refine Tr.pure ?_
  with_reducible refine Tr.pure ?_
  with_reducible refine Tr.pure ?_
  refine Tr.drop ?_
  (with_reducible refine T174 (by (repeat (first | assumption | exact List.mem_cons_self | apply List.mem_cons_of_mem))) (by (repeat (first | assumption | exact List.mem_cons_self | apply List.mem_cons_of_mem))) (by (repeat (first | assumption | exact List.mem_cons_self | apply List.mem_cons_of_mem))) ?_ ?_); (next => omega); intro _
  with_reducible refine Tr.bind ?_
  with_reducible refine Tr.bind ?_
  with_reducible refine Tr.pure ?_
  with_reducible refine Tr.bind ?_
  with_reducible refine Tr.pure ?_
  with_reducible refine Tr.bind ?_
  with_reducible refine Tr.pure ?_
  (with_reducible refine Tr.from (by (repeat (first | assumption | exact List.mem_cons_self | apply List.mem_cons_of_mem))) ?_ ?_ ?_); (next => omega); (next => omega); intro _
  with_reducible refine Tr.bind ?_
  rw [show Int.toNat 16 = 16 from rfl, hdr]
  with_reducible refine Tr.neL (by (repeat (first | assumption | exact List.mem_cons_self | apply List.mem_cons_of_mem))) (by (repeat (first | assumption | exact List.mem_cons_self | apply List.mem_cons_of_mem))) rfl ?_
  with_reducible refine Tr.bool ?_
  with_reducible refine Tr.bind ?_
  (with_reducible refine Tr.ifF ?_ ?_); (next => rfl)
  with_reducible refine Tr.pure ?_
  with_reducible refine Tr.aftN ?_
  with_reducible refine Tr.bind ?_
  with_reducible refine Tr.bind ?_
  with_reducible refine Tr.bind ?_
  with_reducible refine Tr.bind ?_
  with_reducible refine Tr.pure ?_
  with_reducible refine Tr.getF (by (repeat (first | assumption | exact List.mem_cons_self | apply List.mem_cons_of_mem))) (by (repeat (first | assumption | exact List.mem_cons_self | apply List.mem_cons_of_mem))) (by exact dk_data) ?_
  with_reducible refine Tr.bind ?_
  with_reducible refine Tr.pure ?_
  with_reducible refine Tr.pure ?_
  (with_reducible refine Tr.copy (by (repeat (first | assumption | exact List.mem_cons_self | apply List.mem_cons_of_mem))) ?_ ?_); (next => omega); intro _
  with_reducible refine Tr.bind ?_
  with_reducible refine Tr.bind ?_
  with_reducible refine Tr.bind ?_
  with_reducible refine Tr.pure ?_
  with_reducible refine Tr.bind ?_
  with_reducible refine Tr.bind ?_
  with_reducible refine Tr.pure ?_
  with_reducible refine Tr.bind ?_
  with_reducible refine Tr.bind ?_
  with_reducible refine Tr.pure ?_
  with_reducible refine Tr.bind ?_
  with_reducible refine Tr.pure ?_
  with_reducible refine Tr.pure ?_
  with_reducible refine Tr.pure ?_
  with_reducible refine Tr.pure ?_
  rename_i na
  refine Tr.imp (Γ' := (na, .is (.ints D)) :: (nO, .is (.ints O)) :: (m, .is (.ints mp)) :: (r, .is (.ints raw)) :: (e, .is (.inst 74 de)) :: (de, .is (.dict (en u r ext sp ct m))) :: (x, .is (.ints D)) :: Γ) (Imp.sub (by (repeat (first | exact List.Sublist.refl _ | apply List.Sublist.cons₂ | apply List.Sublist.cons)))) ?_
  have hkN : (k * 32).toNat + O.length ≤ D.length := by omega
  have hD1 := ov_len (D := D) (l := O) (k := (k * 32).toNat) hkN
  refine Tr.pull (p := (x, As.is (.ints D))) (by (repeat (first | exact Pull.here | apply Pull.next))) (T148 (by (repeat (first | assumption | exact List.mem_cons_self | apply List.mem_cons_of_mem))) (by (repeat (first | assumption | exact List.mem_cons_self | apply List.mem_cons_of_mem))) (by (repeat (first | assumption | exact List.mem_cons_self | apply List.mem_cons_of_mem))) (by (repeat (first | assumption | exact List.mem_cons_self | apply List.mem_cons_of_mem))) (by (repeat (first | assumption | exact List.mem_cons_self | apply List.mem_cons_of_mem))) (by (repeat (first | assumption | exact List.mem_cons_self | apply List.mem_cons_of_mem))) (by omega) (by omega) (by rw [hOe]; exact hO) ⟨hk0, hk1⟩ (by decide) (by omega) ?_)
  rw [hOe]
  have hdue : D.take (32 * k).toNat ++ O ++ D.drop (32 * k + 32).toNat = ov D (k * 32).toNat O := by
    rw [ov, hO, show (32 * k).toNat = (k * 32).toNat by omega, show (32 * k + 32).toNat = (k * 32).toNat + 32 by omega]
  have hsl := ov_slice (n := (k * 32).toNat) (k := ((k + 1) * 32).toNat) hkN (by omega)
  rw [Int.toNat_natCast] at hsl
  with_reducible refine Tr.bind ?_
  with_reducible refine Tr.bind ?_
  with_reducible refine Tr.bind ?_
  with_reducible refine Tr.bind ?_
  with_reducible refine Tr.pure ?_
  with_reducible refine Tr.bind ?_
  with_reducible refine Tr.pure ?_
  with_reducible refine Tr.bind ?_
  with_reducible refine Tr.bind ?_
  with_reducible refine Tr.pure ?_
  with_reducible refine Tr.bind ?_
  with_reducible refine Tr.pure ?_
  (with_reducible refine Tr.mul ?_ ?_); (next => omega)
  (with_reducible refine Tr.take (by (repeat (first | assumption | exact List.mem_cons_self | apply List.mem_cons_of_mem))) ?_ ?_ ?_); (next => omega); (next => omega); intro _
  with_reducible refine Tr.bind ?_
  with_reducible refine Tr.pure ?_
  (with_reducible refine Tr.cat (by (repeat (first | assumption | exact List.mem_cons_self | apply List.mem_cons_of_mem))) (by (repeat (first | assumption | exact List.mem_cons_self | apply List.mem_cons_of_mem))) ?_ ?_); (next => (simp only [List.length_append, List.length_cons, List.length_nil, List.length_replicate, List.length_take, List.length_drop, List.length_set]; omega)); intro _
  with_reducible refine Tr.bind ?_
  with_reducible refine Tr.bind ?_
  with_reducible refine Tr.pure ?_
  with_reducible refine Tr.bind ?_
  with_reducible refine Tr.bind ?_
  with_reducible refine Tr.bind ?_
  with_reducible refine Tr.pure ?_
  with_reducible refine Tr.bind ?_
  with_reducible refine Tr.pure ?_
  (with_reducible refine Tr.mul ?_ ?_); (next => omega)
  with_reducible refine Tr.bind ?_
  with_reducible refine Tr.pure ?_
  with_reducible refine Tr.add ?_
  with_reducible refine Tr.bind ?_
  with_reducible refine Tr.pure ?_
  (with_reducible refine Tr.from (by (repeat (first | assumption | exact List.mem_cons_self | apply List.mem_cons_of_mem))) ?_ ?_ ?_); (next => omega); (next => omega); intro _
  (with_reducible refine Tr.cat (by (repeat (first | assumption | exact List.mem_cons_self | apply List.mem_cons_of_mem))) (by (repeat (first | assumption | exact List.mem_cons_self | apply List.mem_cons_of_mem))) ?_ ?_); (next => (simp only [List.length_append, List.length_cons, List.length_nil, List.length_replicate, List.length_take, List.length_drop, List.length_set]; omega)); intro _
  with_reducible refine Tr.bind ?_
  with_reducible refine Tr.bind ?_
  with_reducible refine Tr.bind ?_
  with_reducible refine Tr.bind ?_
  with_reducible refine Tr.pure ?_
  with_reducible refine Tr.getF (by (repeat (first | assumption | exact List.mem_cons_self | apply List.mem_cons_of_mem))) (by (repeat (first | assumption | exact List.mem_cons_self | apply List.mem_cons_of_mem))) (by exact dk_data) ?_
  with_reducible refine Tr.bind ?_
  with_reducible refine Tr.pure ?_
  with_reducible refine Tr.bind ?_
  rw [hdue]
  generalize hDe : ov D (k * 32).toNat O = D1 at *
  with_reducible refine Tr.neL (by (repeat (first | assumption | exact List.mem_cons_self | apply List.mem_cons_of_mem))) (by (repeat (first | assumption | exact List.mem_cons_self | apply List.mem_cons_of_mem))) rfl ?_
  with_reducible refine Tr.bool ?_
  (with_reducible refine Tr.ifF ?_ ?_); (next => rfl)
  with_reducible refine Tr.bind ?_
  with_reducible refine Tr.bind ?_
  with_reducible refine Tr.bind ?_
  with_reducible refine Tr.bind ?_
  with_reducible refine Tr.pure ?_
  with_reducible refine Tr.bind ?_
  with_reducible refine Tr.bind ?_
  with_reducible refine Tr.pure ?_
  with_reducible refine Tr.bind ?_
  with_reducible refine Tr.pure ?_
  with_reducible refine Tr.pure ?_
  with_reducible refine Tr.pure ?_
  (with_reducible refine T134 (by (repeat (first | assumption | exact List.mem_cons_self | apply List.mem_cons_of_mem))) (by (repeat (first | assumption | exact List.mem_cons_self | apply List.mem_cons_of_mem))) (by (repeat (first | assumption | exact List.mem_cons_self | apply List.mem_cons_of_mem))) ?_ ?_ ?_ ?_); (next => omega); (next => omega); (next => omega); intro _
  with_reducible refine Tr.bind ?_
  with_reducible refine Tr.pure ?_
  with_reducible refine Tr.bind ?_
  rw [hsl]
  with_reducible refine Tr.neL (by (repeat (first | assumption | exact List.mem_cons_self | apply List.mem_cons_of_mem))) (by (repeat (first | assumption | exact List.mem_cons_self | apply List.mem_cons_of_mem))) rfl ?_
  with_reducible refine Tr.bool ?_
  (with_reducible refine Tr.ifF ?_ ?_); (next => rfl)
  with_reducible refine Tr.bind ?_
  with_reducible refine Tr.bind ?_
  with_reducible refine Tr.bind ?_
  with_reducible refine Tr.bind ?_
  with_reducible refine Tr.bind ?_
  with_reducible refine Tr.pure ?_
  with_reducible refine Tr.bind ?_
  with_reducible refine Tr.bind ?_
  with_reducible refine Tr.pure ?_
  with_reducible refine Tr.bind ?_
  with_reducible refine Tr.pure ?_
  with_reducible refine Tr.pure ?_
  with_reducible refine Tr.pure ?_
  rename_i t1 t2 t3 due l
  refine Tr.imp (Γ' := (due, .is (.ints D1)) :: (x, .is (.ints D1)) :: (nO, .is (.ints O)) :: (m, .is (.ints mp)) :: (r, .is (.ints raw)) :: (e, .is (.inst 74 de)) :: (de, .is (.dict (en u r ext sp ct m))) :: Γ) (Imp.sub (by (repeat (first | exact List.Sublist.refl _ | apply List.Sublist.cons₂ | apply List.Sublist.cons)))) ?_
  refine T141 (by (repeat (first | assumption | exact List.mem_cons_self | apply List.mem_cons_of_mem))) (by (repeat (first | assumption | exact List.mem_cons_self | apply List.mem_cons_of_mem))) (by (repeat (first | assumption | exact List.mem_cons_self | apply List.mem_cons_of_mem))) ⟨hk0, hk1⟩ (by decide) (by omega) hsl hO hbd hO229 fun e3 de3 r3 m3 => ?_
  rw [hma, hraw2, g0, g12, g13, g14, g15, hext]
  with_reducible refine Tr.bind ?_
  with_reducible refine Tr.pure ?_
  with_reducible refine Tr.pure ?_
  (with_reducible refine T219 (by (repeat (first | assumption | exact List.mem_cons_self | apply List.mem_cons_of_mem))) (by (repeat (first | assumption | exact List.mem_cons_self | apply List.mem_cons_of_mem))) (by (repeat (first | assumption | exact List.mem_cons_self | apply List.mem_cons_of_mem))) (by (repeat (first | assumption | exact List.mem_cons_self | apply List.mem_cons_of_mem))) ?_ ?_ ?_); (next => omega); (next => omega); intro _ _ _
  with_reducible refine Tr.bind ?_
  with_reducible refine Tr.bind ?_
  with_reducible refine Tr.bind ?_
  with_reducible refine Tr.pure ?_
  with_reducible refine Tr.bind ?_
  with_reducible refine Tr.pure ?_
  with_reducible refine Tr.pure ?_
  (with_reducible refine T219 (by (repeat (first | assumption | exact List.mem_cons_self | apply List.mem_cons_of_mem))) (by (repeat (first | assumption | exact List.mem_cons_self | apply List.mem_cons_of_mem))) (by (repeat (first | assumption | exact List.mem_cons_self | apply List.mem_cons_of_mem))) (by (repeat (first | assumption | exact List.mem_cons_self | apply List.mem_cons_of_mem))) ?_ ?_ ?_); (next => omega); (next => omega); intro _ _ _
  with_reducible refine Tr.bind ?_
  with_reducible refine Tr.neP (by (repeat (first | assumption | exact List.mem_cons_self | apply List.mem_cons_of_mem))) (by (repeat (first | assumption | exact List.mem_cons_self | apply List.mem_cons_of_mem))) (by (repeat (first | assumption | exact List.mem_cons_self | apply List.mem_cons_of_mem))) (by (repeat (first | assumption | exact List.mem_cons_self | apply List.mem_cons_of_mem))) (by (repeat (first | assumption | exact List.mem_cons_self | apply List.mem_cons_of_mem))) (by (repeat (first | assumption | exact List.mem_cons_self | apply List.mem_cons_of_mem))) ?_
  with_reducible refine Tr.bool ?_
  with_reducible refine Tr.bind ?_
  (with_reducible refine Tr.ifF ?_ ?_); (next => rfl)
  with_reducible refine Tr.pure ?_
  with_reducible refine Tr.aftN ?_
  with_reducible refine Tr.bind ?_
  with_reducible refine Tr.bind ?_
  with_reducible refine Tr.bind ?_
  with_reducible refine Tr.pure ?_
  with_reducible refine Tr.bind ?_
  with_reducible refine Tr.bind ?_
  with_reducible refine Tr.pure ?_
  with_reducible refine Tr.bind ?_
  with_reducible refine Tr.pure ?_
  with_reducible refine Tr.pure ?_
  with_reducible refine Tr.pure ?_
  refine Tr.imp (Γ' := (due, .is (.ints D1)) :: (x, .is (.ints D1)) :: (nO, .is (.ints O)) :: Γ) (Imp.sub (by (repeat (first | exact List.Sublist.refl _ | apply List.Sublist.cons₂ | apply List.Sublist.cons)))) ?_
  have hcut : D1.take (32 * k).toNat ++ [229] ++ D1.drop (32 * k + 1).toNat = D1.set (k * 32).toNat 229 := by
    rw [set_cut (by omega), show (32 * k).toNat = (k * 32).toNat by omega, show (32 * k + 1).toNat = (k * 32).toNat + 1 by omega]
  have h229 : (D1.set (k * 32).toNat 229).getD (k * 32).toNat 0 = 229 := by
    rw [List.getD_eq_getElem?_getD, List.getElem?_set_self (by omega)]; rfl
  have hfill : ov (D1.set (k * 32).toNat 229) (k * 32).toNat O = D1 := by rw [← hDe]; exact ov_fill hkN (by omega)
  have hsz : 4 * 32 ≤ ((D1.set (k * 32).toNat 229).length : Int) ∧ (D1.set (k * 32).toNat 229).length ≤ 1000000 := by rw [List.length_set]; omega
  refine Tr.pull (p := (x, As.is (.ints D1))) (by (repeat (first | exact Pull.here | apply Pull.next))) (T162 (by (repeat (first | assumption | exact List.mem_cons_self | apply List.mem_cons_of_mem))) (by (repeat (first | assumption | exact List.mem_cons_self | apply List.mem_cons_of_mem))) ⟨hk0, hk1⟩ (by decide) (by omega) ?_)
  with_reducible refine Tr.bind ?_
  with_reducible refine Tr.bind ?_
  with_reducible refine Tr.bind ?_
  with_reducible refine Tr.bind ?_
  with_reducible refine Tr.pure ?_
  with_reducible refine Tr.getF (by (repeat (first | assumption | exact List.mem_cons_self | apply List.mem_cons_of_mem))) (by (repeat (first | assumption | exact List.mem_cons_self | apply List.mem_cons_of_mem))) (by exact dk_data) ?_
  with_reducible refine Tr.bind ?_
  with_reducible refine Tr.bind ?_
  with_reducible refine Tr.bind ?_
  with_reducible refine Tr.bind ?_
  with_reducible refine Tr.pure ?_
  with_reducible refine Tr.bind ?_
  with_reducible refine Tr.pure ?_
  with_reducible refine Tr.bind ?_
  with_reducible refine Tr.bind ?_
  with_reducible refine Tr.pure ?_
  with_reducible refine Tr.bind ?_
  with_reducible refine Tr.pure ?_
  (with_reducible refine Tr.mul ?_ ?_); (next => omega)
  (with_reducible refine Tr.take (by (repeat (first | assumption | exact List.mem_cons_self | apply List.mem_cons_of_mem))) ?_ ?_ ?_); (next => omega); (next => omega); intro _
  with_reducible refine Tr.bind ?_
  with_reducible refine Tr.bind ?_
  with_reducible refine Tr.bind ?_
  with_reducible refine Tr.pure ?_
  with_reducible refine Tr.bind ?_
  with_reducible refine Tr.pure ?_
  with_reducible refine Tr.pure ?_
  (with_reducible refine Tr.ints (by with_unfolding_all rfl) ?_ ?_); (next => exact Nat.le_of_ble_eq_true rfl); intro _
  (with_reducible refine Tr.cat (by (repeat (first | assumption | exact List.mem_cons_self | apply List.mem_cons_of_mem))) (by (repeat (first | assumption | exact List.mem_cons_self | apply List.mem_cons_of_mem))) ?_ ?_); (next => (simp only [List.length_append, List.length_cons, List.length_nil, List.length_replicate, List.length_take, List.length_drop, List.length_set]; omega)); intro _
  with_reducible refine Tr.bind ?_
  with_reducible refine Tr.bind ?_
  with_reducible refine Tr.pure ?_
  with_reducible refine Tr.bind ?_
  with_reducible refine Tr.bind ?_
  with_reducible refine Tr.bind ?_
  with_reducible refine Tr.pure ?_
  with_reducible refine Tr.bind ?_
  with_reducible refine Tr.pure ?_
  (with_reducible refine Tr.mul ?_ ?_); (next => omega)
  with_reducible refine Tr.bind ?_
  with_reducible refine Tr.pure ?_
  with_reducible refine Tr.add ?_
  with_reducible refine Tr.bind ?_
  with_reducible refine Tr.pure ?_
  (with_reducible refine Tr.from (by (repeat (first | assumption | exact List.mem_cons_self | apply List.mem_cons_of_mem))) ?_ ?_ ?_); (next => omega); (next => omega); intro _
  (with_reducible refine Tr.cat (by (repeat (first | assumption | exact List.mem_cons_self | apply List.mem_cons_of_mem))) (by (repeat (first | assumption | exact List.mem_cons_self | apply List.mem_cons_of_mem))) ?_ ?_); (next => (simp only [List.length_append, List.length_cons, List.length_nil, List.length_replicate, List.length_take, List.length_drop, List.length_set]; omega)); intro _
  with_reducible refine Tr.bind ?_
  rw [hcut]
  generalize D1.set (k * 32).toNat 229 = D2 at *
  with_reducible refine Tr.neL (by (repeat (first | assumption | exact List.mem_cons_self | apply List.mem_cons_of_mem))) (by (repeat (first | assumption | exact List.mem_cons_self | apply List.mem_cons_of_mem))) rfl ?_
  with_reducible refine Tr.bool ?_
  (with_reducible refine Tr.ifF ?_ ?_); (next => rfl)
  with_reducible refine Tr.bind ?_
  with_reducible refine Tr.bind ?_
  with_reducible refine Tr.bind ?_
  with_reducible refine Tr.pure ?_
  with_reducible refine Tr.bind ?_
  with_reducible refine Tr.bind ?_
  with_reducible refine Tr.pure ?_
  with_reducible refine Tr.bind ?_
  with_reducible refine Tr.pure ?_
  with_reducible refine Tr.pure ?_
  with_reducible refine Tr.pure ?_
  refine T141n (by (repeat (first | assumption | exact List.mem_cons_self | apply List.mem_cons_of_mem))) (by (repeat (first | assumption | exact List.mem_cons_self | apply List.mem_cons_of_mem))) (by (repeat (first | assumption | exact List.mem_cons_self | apply List.mem_cons_of_mem))) ⟨hk0, hk1⟩ (by decide) hsz h229 ?_
  with_reducible refine Tr.bind ?_
  with_reducible refine Tr.pure ?_
  with_reducible refine Tr.bind ?_
  with_reducible refine Tr.isN ?_
  with_reducible refine Tr.bool ?_
  with_reducible refine Tr.bind ?_
  (with_reducible refine Tr.ifF ?_ ?_); (next => rfl)
  with_reducible refine Tr.pure ?_
  with_reducible refine Tr.aftN ?_
  with_reducible refine Tr.bind ?_
  with_reducible refine Tr.bind ?_
  with_reducible refine Tr.bind ?_
  with_reducible refine Tr.pure ?_
  with_reducible refine Tr.bind ?_
  with_reducible refine Tr.bind ?_
  with_reducible refine Tr.pure ?_
  with_reducible refine Tr.bind ?_
  with_reducible refine Tr.bind ?_
  with_reducible refine Tr.pure ?_
  with_reducible refine Tr.bind ?_
  with_reducible refine Tr.pure ?_
  with_reducible refine Tr.pure ?_
  with_reducible refine Tr.pure ?_
  with_reducible refine Tr.pure ?_
  refine Tr.pull (p := (x, As.is (.ints D2))) (by (repeat (first | exact Pull.here | apply Pull.next))) (T155 (by (repeat (first | assumption | exact List.mem_cons_self | apply List.mem_cons_of_mem))) (by (repeat (first | assumption | exact List.mem_cons_self | apply List.mem_cons_of_mem))) (by (repeat (first | assumption | exact List.mem_cons_self | apply List.mem_cons_of_mem))) ⟨hk0, hk1⟩ (by decide) hO hsz ?_)
  rw [hfill]
  with_reducible refine Tr.bind ?_
  with_reducible refine Tr.bind ?_
  with_reducible refine Tr.bind ?_
  with_reducible refine Tr.pure ?_
  with_reducible refine Tr.getF (by (repeat (first | assumption | exact List.mem_cons_self | apply List.mem_cons_of_mem))) (by (repeat (first | assumption | exact List.mem_cons_self | apply List.mem_cons_of_mem))) (by exact dk_data) ?_
  with_reducible refine Tr.bind ?_
  with_reducible refine Tr.pure ?_
  with_reducible refine Tr.eqL (by (repeat (first | assumption | exact List.mem_cons_self | apply List.mem_cons_of_mem))) (by (repeat (first | assumption | exact List.mem_cons_self | apply List.mem_cons_of_mem))) rfl ?_
  with_reducible refine Tr.pure ?_
  exact ⟨_, Imp.sub (by (repeat (first | exact List.Sublist.refl _ | apply List.Sublist.cons₂ | apply List.Sublist.cons))), c D1 hD1⟩
end
end Mine
end

/-! ## PL9 -/
section
open PySem PySem.W PySem.Calls PyProof.Rows
namespace Mine
section
variable {Γ Γ' Δ : Ct} {i j n d dd x e de r m o f b q : Nat} {B K R N u ext sp ct k : Int} {ro ro' : Bool} {a a1 a2 a3 a4 : AV} {raw mp L D ns : List Int} {E : Str → Ct → Prop} {Q : AV → Ct → Prop}
theorem Tr.cbG3 {names : List Str} {cs : List (Str × Nat)} {mb : List AV → Nat → AM AV} {l : List AV} {v w z : Option AV} (hc : cellInit names l cs = [.cell v, .cell w, .cell z]) (hn : l.length = names.length)
    (h : ∀ ck, Tr ((ck + 2, .is (.cell z)) :: (ck + 1, .is (.cell w)) :: (ck, .is (.cell v)) :: Γ) (mb l ck) Q E) : Tr Γ (cellBodyG names cs mb l) Q E := fun H S => by
  unfold cellBodyG
  rw [if_pos hn, hc]
  have y := ((S.push (.cell v)).push (.cell w)).push (.cell z)
  rw [List.append_assoc, List.append_assoc, show (H ++ [AO.cell v]).length = H.length + 1 by simp, show (H ++ ([AO.cell v] ++ [AO.cell w])).length = H.length + 2 by simp] at y
  exact h _ _ y
theorem Tr.cbG2 {names : List Str} {cs : List (Str × Nat)} {mb : List AV → Nat → AM AV} {l : List AV} {v w : Option AV} (hc : cellInit names l cs = [.cell v, .cell w]) (hn : l.length = names.length)
    (h : ∀ ck, Tr ((ck + 1, .is (.cell w)) :: (ck, .is (.cell v)) :: Γ) (mb l ck) Q E) : Tr Γ (cellBodyG names cs mb l) Q E := fun H S => by
  unfold cellBodyG
  rw [if_pos hn, hc]
  have z := (S.push (.cell v)).push (.cell w)
  rw [List.append_assoc, show (H ++ [AO.cell v]).length = H.length + 1 by simp] at z
  exact h _ _ z
theorem words5 (H : AH) : pdsOf H (List.replicate 5 (.str "range")) = some (List.replicate 5 (.s "range")) := by kernel_rfl
theorem words4 (H : AH) : pdsOf H (List.replicate 4 (.str "read only")) = some (List.replicate 4 (.s "read only")) := by kernel_rfl
theorem T245 (hd : (d, As.is (.inst 53 dd)) ∈ Γ) (hf : (dd, As.is (.dict (dk B 64 R 4 false x))) ∈ Γ) (hb : (b, As.box q) ∈ Γ) (hq : (q, As.que) ∈ Γ) (hB : 0 < B ∧ B ≤ 1000) (hR : R = 16 ∨ R = 32) (hz : (D.length : Int) = B * 64)
    (c : ∀ (D' : List Int) ts, D'.length = D.length → Q (.bool true) ((x, .is (.ints D')) :: (1, .is (.tab ts)) :: Γ)) : Tr ((x, .is (.ints D)) :: (1, .is (.tab [])) :: Γ) (M245 [.loc d, .loc b]) Q E := by
  refine Tr.wk (Tr.cbG3 (v := none) (w := some (.loc b)) (z := some (.loc d)) rfl rfl fun ck => ?_)
  show Tr _ (P245 (.loc d) (.loc b) ck) _ _
  unfold P245
  have hq1 : 0 < 64 / R ∧ 64 / R ≤ 4 := by rcases hR with rfl | rfl <;> decide
  have hR' : 0 < R ∧ R ≤ 32 := by omega
  have hq2 : ∀ i : Int, 0 ≤ i → i < 64 / R → 0 ≤ i * R ∧ i * R + R ≤ 64 := by
    rcases hR with rfl | rfl
    · intro i h0 h1; have h1 : i < 4 := h1; omega
    · intro i h0 h1; have h1 : i < 2 := h1; omega
  with_reducible refine Tr.bind ?_
  with_reducible refine Tr.bind ?_
  with_reducible refine Tr.bind ?_
  with_reducible refine Tr.bind ?_
  with_reducible refine Tr.bind ?_
  with_reducible refine Tr.cell (by (repeat (first | assumption | exact List.mem_cons_self | apply List.mem_cons_of_mem))) ?_
  with_reducible refine Tr.bind ?_
  with_reducible refine Tr.bind ?_
  with_reducible refine Tr.bind ?_
  with_reducible refine Tr.cell (by (repeat (first | assumption | exact List.mem_cons_self | apply List.mem_cons_of_mem))) ?_
  with_reducible refine Tr.getF (by (repeat (first | assumption | exact List.mem_cons_self | apply List.mem_cons_of_mem))) (by (repeat (first | assumption | exact List.mem_cons_self | apply List.mem_cons_of_mem))) (by exact dk_blocks) ?_
  with_reducible refine Tr.bind ?_
  with_reducible refine Tr.pure ?_
  with_reducible refine Tr.pure ?_
  with_reducible refine Tr.pure ?_
  (with_reducible refine T202 (by (repeat (first | assumption | exact List.mem_cons_self | apply List.mem_cons_of_mem))) (by (repeat (first | assumption | exact List.mem_cons_self | apply List.mem_cons_of_mem))) ?_ ?_); (next => omega); intro _ _ _
  with_reducible refine Tr.bind ?_
  with_reducible refine Tr.bind ?_
  with_reducible refine Tr.bind ?_
  with_reducible refine Tr.bind ?_
  with_reducible refine Tr.cell (by (repeat (first | assumption | exact List.mem_cons_self | apply List.mem_cons_of_mem))) ?_
  with_reducible refine Tr.bind ?_
  with_reducible refine Tr.bind ?_
  with_reducible refine Tr.bind ?_
  with_reducible refine Tr.bind ?_
  with_reducible refine Tr.cell (by (repeat (first | assumption | exact List.mem_cons_self | apply List.mem_cons_of_mem))) ?_
  with_reducible refine Tr.bind ?_
  with_reducible refine Tr.pure ?_
  with_reducible refine Tr.pure ?_
  (with_reducible refine T92 (by (repeat (first | assumption | exact List.mem_cons_self | apply List.mem_cons_of_mem))) (by (repeat (first | assumption | exact List.mem_cons_self | apply List.mem_cons_of_mem))) ?_ ?_); (next => omega)
  with_reducible refine Tr.bind ?_
  with_reducible refine Tr.pure ?_
  with_reducible refine Tr.pure ?_
  with_reducible refine Tr.pure ?_
  (with_reducible refine T202 (by (repeat (first | assumption | exact List.mem_cons_self | apply List.mem_cons_of_mem))) (by (repeat (first | assumption | exact List.mem_cons_self | apply List.mem_cons_of_mem))) ?_ ?_); (next => omega); intro _ _ _
  with_reducible refine Tr.bind ?_
  with_reducible refine Tr.pure ?_
  with_reducible refine Tr.pure ?_
  with_reducible refine Tr.pure ?_
  with_reducible refine Tr.pair ?_
  with_reducible refine Tr.bind ?_
  with_reducible refine Tr.bind ?_
  with_reducible refine Tr.bind ?_
  with_reducible refine Tr.bind ?_
  with_reducible refine Tr.bind ?_
  with_reducible refine Tr.bind ?_
  with_reducible refine Tr.cell (by (repeat (first | assumption | exact List.mem_cons_self | apply List.mem_cons_of_mem))) ?_
  with_reducible refine Tr.getF (by (repeat (first | assumption | exact List.mem_cons_self | apply List.mem_cons_of_mem))) (by (repeat (first | assumption | exact List.mem_cons_self | apply List.mem_cons_of_mem))) (by exact dk_record) ?_
  with_reducible refine Tr.bind ?_
  with_reducible refine Tr.pure ?_
  with_reducible refine Tr.pure ?_
  (with_reducible refine Tr.rngN ?_ ?_); (next => omega)
  with_reducible refine Tr.bind ?_
  rename_i bk hb0 hb1 ix hi0 hi1
  obtain ⟨hp0, hp1⟩ := hq2 ix hi0 hi1
  refine Tr.compR (R := fun k i => 0 ≤ i ∧ i < 256) (by omega) (fun k hk => ?_) fun l h1 h2 => ?_
  · with_reducible refine Tr.bind ?_
    with_reducible refine Tr.bind ?_
    with_reducible refine Tr.cell (by (repeat (first | assumption | exact List.mem_cons_self | apply List.mem_cons_of_mem))) ?_
    with_reducible refine Tr.bind ?_
    with_reducible refine Tr.bind ?_
    with_reducible refine Tr.pure ?_
    with_reducible refine Tr.bind ?_
    with_reducible refine Tr.pure ?_
    with_reducible refine Tr.pure ?_
    with_reducible refine Tr.pure ?_
    (with_reducible refine T202 (by (repeat (first | assumption | exact List.mem_cons_self | apply List.mem_cons_of_mem))) (by (repeat (first | assumption | exact List.mem_cons_self | apply List.mem_cons_of_mem))) ?_ ?_); (next => omega); intro _ _ _
    exact ⟨Imp.rfl, _, rfl, by omega, by omega⟩
  dsimp only
  (with_reducible refine Tr.newl ?_); intro _
  with_reducible refine Tr.cellSet (by (repeat (first | exact Up.here | apply Up.next))) ?_
  with_reducible refine Tr.bind ?_
  with_reducible refine Tr.bind ?_
  with_reducible refine Tr.bind ?_
  with_reducible refine Tr.bind ?_
  with_reducible refine Tr.bind ?_
  with_reducible refine Tr.bind ?_
  with_reducible refine Tr.cell (by (repeat (first | assumption | exact List.mem_cons_self | apply List.mem_cons_of_mem))) ?_
  with_reducible refine Tr.getF (by (repeat (first | assumption | exact List.mem_cons_self | apply List.mem_cons_of_mem))) (by (repeat (first | assumption | exact List.mem_cons_self | apply List.mem_cons_of_mem))) (by exact dk_data) ?_
  with_reducible refine Tr.bind ?_
  with_reducible refine Tr.pure ?_
  with_reducible refine Tr.pure ?_
  (with_reducible refine Tr.copy (by (repeat (first | assumption | exact List.mem_cons_self | apply List.mem_cons_of_mem))) ?_ ?_); (next => omega); intro _
  with_reducible refine Tr.bind ?_
  with_reducible refine Tr.bind ?_
  with_reducible refine Tr.bind ?_
  with_reducible refine Tr.bind ?_
  with_reducible refine Tr.pure ?_
  with_reducible refine Tr.bind ?_
  with_reducible refine Tr.bind ?_
  with_reducible refine Tr.cell (by (repeat (first | assumption | exact List.mem_cons_self | apply List.mem_cons_of_mem))) ?_
  with_reducible refine Tr.getF (by (repeat (first | assumption | exact List.mem_cons_self | apply List.mem_cons_of_mem))) (by (repeat (first | assumption | exact List.mem_cons_self | apply List.mem_cons_of_mem))) (by exact dk_block) ?_
  (with_reducible refine Tr.mul ?_ ?_); (next => omega)
  with_reducible refine Tr.bind ?_
  with_reducible refine Tr.bind ?_
  with_reducible refine Tr.pure ?_
  with_reducible refine Tr.bind ?_
  with_reducible refine Tr.bind ?_
  with_reducible refine Tr.cell (by (repeat (first | assumption | exact List.mem_cons_self | apply List.mem_cons_of_mem))) ?_
  with_reducible refine Tr.getF (by (repeat (first | assumption | exact List.mem_cons_self | apply List.mem_cons_of_mem))) (by (repeat (first | assumption | exact List.mem_cons_self | apply List.mem_cons_of_mem))) (by exact dk_record) ?_
  (with_reducible refine Tr.mul ?_ ?_); (next => omega)
  with_reducible refine Tr.add ?_
  with_reducible refine Tr.bind ?_
  with_reducible refine Tr.pure ?_
  with_reducible refine Tr.pure ?_
  with_reducible refine Tr.pure ?_
  with_reducible refine Tr.pair ?_
  with_reducible refine Tr.bind ?_
  with_reducible refine Tr.bind ?_
  with_reducible refine Tr.bind ?_
  with_reducible refine Tr.cell (by (repeat (first | assumption | exact List.mem_cons_self | apply List.mem_cons_of_mem))) ?_
  with_reducible refine Tr.bind ?_
  with_reducible refine Tr.bind ?_
  with_reducible refine Tr.pure ?_
  with_reducible refine Tr.bind ?_
  with_reducible refine Tr.bind ?_
  with_reducible refine Tr.pure ?_
  with_reducible refine Tr.bind ?_
  with_reducible refine Tr.bind ?_
  with_reducible refine Tr.cell (by (repeat (first | assumption | exact List.mem_cons_self | apply List.mem_cons_of_mem))) ?_
  with_reducible refine Tr.bind ?_
  with_reducible refine Tr.pure ?_
  with_reducible refine Tr.pure ?_
  with_reducible refine Tr.pure ?_
  with_reducible refine Tr.pure ?_
  with_reducible refine Tr.pure ?_
  rename_i lo na
  have hl : (l.length : Int) = R := by rw [h1]; omega
  have hb2 : bk * 64 + 64 ≤ B * 64 := by omega
  have hp2 : 0 ≤ bk * 64 + ix * R ∧ bk * 64 + ix * R + R ≤ D.length := by omega
  have hDz : D.length ≤ 1000000 := by omega
  refine Tr.pull (p := (x, As.is (.ints D))) (by (repeat (first | exact Pull.here | apply Pull.next))) (T195 (by (repeat (first | assumption | exact List.mem_cons_self | apply List.mem_cons_of_mem))) (by (repeat (first | assumption | exact List.mem_cons_self | apply List.mem_cons_of_mem))) (by (repeat (first | assumption | exact List.mem_cons_self | apply List.mem_cons_of_mem))) ⟨hb0, hb1⟩ ⟨hi0, hi1⟩ (by omega) (by omega) hp2.1 ⟨hp2.2, hDz⟩ hl ?_)
  dsimp only
  have hro : ∀ l', (l' = (D.take (bk * 64 + ix * R).toNat ++ l ++ D.drop (bk * 64 + ix * R + R).toNat)) → l' = ov D (bk * 64 + ix * R).toNat l := fun l' e => by
    rw [e, ov, show (bk * 64 + ix * R + R).toNat = (bk * 64 + ix * R).toNat + l.length by omega]
  have hkN : (bk * 64 + ix * R).toNat + l.length ≤ D.length := by omega
  have hsl := ov_slice (n := (bk * 64 + ix * R).toNat) (O := l) (k := bk * 64 + ix * R + R) hkN (by omega)
  have hD1 := ov_len (D := D) (l := l) (k := (bk * 64 + ix * R).toNat) hkN
  have hdue := hro _ rfl
  clear hro
  with_reducible refine Tr.bind ?_
  with_reducible refine Tr.bind ?_
  with_reducible refine Tr.bind ?_
  with_reducible refine Tr.bind ?_
  with_reducible refine Tr.cell (by (repeat (first | assumption | exact List.mem_cons_self | apply List.mem_cons_of_mem))) ?_
  with_reducible refine Tr.getF (by (repeat (first | assumption | exact List.mem_cons_self | apply List.mem_cons_of_mem))) (by (repeat (first | assumption | exact List.mem_cons_self | apply List.mem_cons_of_mem))) (by exact dk_data) ?_
  with_reducible refine Tr.bind ?_
  with_reducible refine Tr.bind ?_
  with_reducible refine Tr.bind ?_
  with_reducible refine Tr.bind ?_
  with_reducible refine Tr.pure ?_
  with_reducible refine Tr.bind ?_
  with_reducible refine Tr.pure ?_
  with_reducible refine Tr.bind ?_
  with_reducible refine Tr.pure ?_
  (with_reducible refine Tr.take (by (repeat (first | assumption | exact List.mem_cons_self | apply List.mem_cons_of_mem))) ?_ ?_ ?_); (next => omega); (next => omega); intro _
  with_reducible refine Tr.bind ?_
  with_reducible refine Tr.cell (by (repeat (first | assumption | exact List.mem_cons_self | apply List.mem_cons_of_mem))) ?_
  (with_reducible refine Tr.cat (by (repeat (first | assumption | exact List.mem_cons_self | apply List.mem_cons_of_mem))) (by (repeat (first | assumption | exact List.mem_cons_self | apply List.mem_cons_of_mem))) ?_ ?_); (next => (simp only [List.length_append, List.length_cons, List.length_nil, List.length_replicate, List.length_take, List.length_drop, List.length_set]; omega)); intro _
  with_reducible refine Tr.bind ?_
  with_reducible refine Tr.bind ?_
  with_reducible refine Tr.pure ?_
  with_reducible refine Tr.bind ?_
  with_reducible refine Tr.bind ?_
  with_reducible refine Tr.pure ?_
  with_reducible refine Tr.bind ?_
  with_reducible refine Tr.bind ?_
  with_reducible refine Tr.cell (by (repeat (first | assumption | exact List.mem_cons_self | apply List.mem_cons_of_mem))) ?_
  with_reducible refine Tr.getF (by (repeat (first | assumption | exact List.mem_cons_self | apply List.mem_cons_of_mem))) (by (repeat (first | assumption | exact List.mem_cons_self | apply List.mem_cons_of_mem))) (by exact dk_record) ?_
  with_reducible refine Tr.add ?_
  with_reducible refine Tr.bind ?_
  with_reducible refine Tr.pure ?_
  (with_reducible refine Tr.from (by (repeat (first | assumption | exact List.mem_cons_self | apply List.mem_cons_of_mem))) ?_ ?_ ?_); (next => omega); (next => omega); intro _
  (with_reducible refine Tr.cat (by (repeat (first | assumption | exact List.mem_cons_self | apply List.mem_cons_of_mem))) (by (repeat (first | assumption | exact List.mem_cons_self | apply List.mem_cons_of_mem))) ?_ ?_); (next => (simp only [List.length_append, List.length_cons, List.length_nil, List.length_replicate, List.length_take, List.length_drop, List.length_set]; omega)); intro _
  with_reducible refine Tr.bind ?_
  rw [hdue]
  generalize ov D (bk * 64 + ix * R).toNat l = D1 at *
  with_reducible refine Tr.neL (by (repeat (first | assumption | exact List.mem_cons_self | apply List.mem_cons_of_mem))) (by (repeat (first | assumption | exact List.mem_cons_self | apply List.mem_cons_of_mem))) rfl ?_
  with_reducible refine Tr.bool ?_
  (with_reducible refine Tr.ifF ?_ ?_); (next => rfl)
  with_reducible refine Tr.bind ?_
  with_reducible refine Tr.bind ?_
  with_reducible refine Tr.bind ?_
  with_reducible refine Tr.cell (by (repeat (first | assumption | exact List.mem_cons_self | apply List.mem_cons_of_mem))) ?_
  with_reducible refine Tr.bind ?_
  with_reducible refine Tr.bind ?_
  with_reducible refine Tr.pure ?_
  with_reducible refine Tr.bind ?_
  with_reducible refine Tr.bind ?_
  with_reducible refine Tr.pure ?_
  with_reducible refine Tr.bind ?_
  with_reducible refine Tr.pure ?_
  with_reducible refine Tr.pure ?_
  with_reducible refine Tr.pure ?_
  with_reducible refine Tr.pure ?_
  refine T188 (by (repeat (first | assumption | exact List.mem_cons_self | apply List.mem_cons_of_mem))) (by (repeat (first | assumption | exact List.mem_cons_self | apply List.mem_cons_of_mem))) (by (repeat (first | assumption | exact List.mem_cons_self | apply List.mem_cons_of_mem))) ⟨hb0, hb1⟩ ⟨hi0, hi1⟩ (by omega) (by omega) hp2.1 (by omega) fun l2 => ?_
  rw [hsl]
  with_reducible refine Tr.bind ?_
  with_reducible refine Tr.cell (by (repeat (first | assumption | exact List.mem_cons_self | apply List.mem_cons_of_mem))) ?_
  with_reducible refine Tr.bind ?_
  with_reducible refine Tr.neL (by (repeat (first | assumption | exact List.mem_cons_self | apply List.mem_cons_of_mem))) (by (repeat (first | assumption | exact List.mem_cons_self | apply List.mem_cons_of_mem))) rfl ?_
  with_reducible refine Tr.bool ?_
  (with_reducible refine Tr.ifF ?_ ?_); (next => rfl)
  with_reducible refine Tr.bind ?_
  with_reducible refine Tr.noErr ?_
  (with_reducible refine Tr.word (by (repeat (first | exact Up.here | apply Up.next))) ?_ ?_); (next => decide)
  with_reducible refine Tr.bind ?_
  with_reducible refine Tr.bind ?_
  with_reducible refine Tr.cell (by (repeat (first | assumption | exact List.mem_cons_self | apply List.mem_cons_of_mem))) ?_
  with_reducible refine Tr.bind ?_
  with_reducible refine Tr.bind ?_
  with_reducible refine Tr.bind ?_
  with_reducible refine Tr.cell (by (repeat (first | assumption | exact List.mem_cons_self | apply List.mem_cons_of_mem))) ?_
  with_reducible refine Tr.getF (by (repeat (first | assumption | exact List.mem_cons_self | apply List.mem_cons_of_mem))) (by (repeat (first | assumption | exact List.mem_cons_self | apply List.mem_cons_of_mem))) (by exact dk_blocks) ?_
  with_reducible refine Tr.bind ?_
  with_reducible refine Tr.bind ?_
  with_reducible refine Tr.pure ?_
  with_reducible refine Tr.bind ?_
  with_reducible refine Tr.pure ?_
  with_reducible refine Tr.pure ?_
  with_reducible refine Tr.pure ?_
  with_reducible refine Tr.pure ?_
  refine Tr.imp (Γ' := (x, .is (.ints D1)) :: (lo, .is (.ints l)) :: (ck + 2, .is (.cell (some (.loc d)))) :: (ck, .is (.cell (some (.loc lo)))) :: (1, .is (.tab [(154, 23)])) :: Γ) (Imp.sub (by (repeat (first | exact List.Sublist.refl _ | apply List.Sublist.cons₂ | apply List.Sublist.cons)))) ?_
  refine T188e (by (repeat (first | assumption | exact List.mem_cons_self | apply List.mem_cons_of_mem))) (by (repeat (first | assumption | exact List.mem_cons_self | apply List.mem_cons_of_mem))) (.inr (Int.le_refl _)) ?_
  with_reducible refine Tr.bind ?_
  (with_reducible refine Tr.mix ?_ ?_); (next => exact Nat.le_of_ble_eq_true rfl); intro _
  with_reducible refine Tr.noErr ?_
  with_reducible refine Tr.bind ?_
  with_reducible refine Tr.lstM (by (repeat (first | assumption | exact List.mem_cons_self | apply List.mem_cons_of_mem))) ?_
  with_reducible refine Tr.bind ?_
  with_reducible refine Tr.noErr ?_
  (with_reducible refine Tr.word (by (repeat (first | exact Up.here | apply Up.next))) ?_ ?_); (next => decide)
  with_reducible refine Tr.bind ?_
  with_reducible refine Tr.bind ?_
  with_reducible refine Tr.cell (by (repeat (first | assumption | exact List.mem_cons_self | apply List.mem_cons_of_mem))) ?_
  with_reducible refine Tr.bind ?_
  with_reducible refine Tr.bind ?_
  with_reducible refine Tr.bind ?_
  with_reducible refine Tr.pure ?_
  with_reducible refine Tr.bind ?_
  with_reducible refine Tr.pure ?_
  with_reducible refine Tr.subt ?_
  with_reducible refine Tr.bind ?_
  with_reducible refine Tr.bind ?_
  with_reducible refine Tr.pure ?_
  with_reducible refine Tr.bind ?_
  with_reducible refine Tr.pure ?_
  with_reducible refine Tr.pure ?_
  with_reducible refine Tr.pure ?_
  with_reducible refine Tr.pure ?_
  refine T188e (by (repeat (first | assumption | exact List.mem_cons_self | apply List.mem_cons_of_mem))) (by (repeat (first | assumption | exact List.mem_cons_self | apply List.mem_cons_of_mem))) (.inl (by decide)) ?_
  with_reducible refine Tr.bind ?_
  (with_reducible refine Tr.append (by (repeat (first | exact Up.here | apply Up.next))) ?_ ?_); (next => exact Nat.le_of_ble_eq_true rfl)
  with_reducible refine Tr.noErr ?_
  with_reducible refine Tr.bind ?_
  with_reducible refine Tr.lstM (by (repeat (first | assumption | exact List.mem_cons_self | apply List.mem_cons_of_mem))) ?_
  with_reducible refine Tr.bind ?_
  with_reducible refine Tr.noErr ?_
  (with_reducible refine Tr.word (by (repeat (first | exact Up.here | apply Up.next))) ?_ ?_); (next => decide)
  with_reducible refine Tr.bind ?_
  with_reducible refine Tr.bind ?_
  with_reducible refine Tr.cell (by (repeat (first | assumption | exact List.mem_cons_self | apply List.mem_cons_of_mem))) ?_
  with_reducible refine Tr.bind ?_
  with_reducible refine Tr.bind ?_
  with_reducible refine Tr.pure ?_
  with_reducible refine Tr.bind ?_
  with_reducible refine Tr.bind ?_
  with_reducible refine Tr.bind ?_
  with_reducible refine Tr.bind ?_
  with_reducible refine Tr.cell (by (repeat (first | assumption | exact List.mem_cons_self | apply List.mem_cons_of_mem))) ?_
  with_reducible refine Tr.bind ?_
  with_reducible refine Tr.pure ?_
  with_reducible refine Tr.pure ?_
  (with_reducible refine T92 (by (repeat (first | assumption | exact List.mem_cons_self | apply List.mem_cons_of_mem))) (by (repeat (first | assumption | exact List.mem_cons_self | apply List.mem_cons_of_mem))) ?_ ?_); (next => omega)
  with_reducible refine Tr.bind ?_
  with_reducible refine Tr.bind ?_
  with_reducible refine Tr.cell (by (repeat (first | assumption | exact List.mem_cons_self | apply List.mem_cons_of_mem))) ?_
  with_reducible refine Tr.bind ?_
  with_reducible refine Tr.pure ?_
  with_reducible refine Tr.pure ?_
  with_reducible refine Tr.pure ?_
  with_reducible refine Tr.pure ?_
  with_reducible refine Tr.pure ?_
  refine T195e (by (repeat (first | assumption | exact List.mem_cons_self | apply List.mem_cons_of_mem))) (by (repeat (first | assumption | exact List.mem_cons_self | apply List.mem_cons_of_mem))) ⟨by decide, hB.1⟩ ⟨by omega, Int.le_refl _⟩ (by omega) ?_
  with_reducible refine Tr.bind ?_
  (with_reducible refine Tr.append (by (repeat (first | exact Up.here | apply Up.next))) ?_ ?_); (next => exact Nat.le_of_ble_eq_true rfl)
  with_reducible refine Tr.noErr ?_
  with_reducible refine Tr.bind ?_
  with_reducible refine Tr.lstM (by (repeat (first | assumption | exact List.mem_cons_self | apply List.mem_cons_of_mem))) ?_
  with_reducible refine Tr.bind ?_
  with_reducible refine Tr.noErr ?_
  (with_reducible refine Tr.word (by (repeat (first | exact Up.here | apply Up.next))) ?_ ?_); (next => decide)
  with_reducible refine Tr.bind ?_
  with_reducible refine Tr.bind ?_
  with_reducible refine Tr.cell (by (repeat (first | assumption | exact List.mem_cons_self | apply List.mem_cons_of_mem))) ?_
  with_reducible refine Tr.bind ?_
  with_reducible refine Tr.bind ?_
  with_reducible refine Tr.pure ?_
  with_reducible refine Tr.bind ?_
  with_reducible refine Tr.bind ?_
  with_reducible refine Tr.pure ?_
  with_reducible refine Tr.bind ?_
  with_reducible refine Tr.bind ?_
  with_reducible refine Tr.bind ?_
  with_reducible refine Tr.cell (by (repeat (first | assumption | exact List.mem_cons_self | apply List.mem_cons_of_mem))) ?_
  with_reducible refine Tr.bind ?_
  with_reducible refine Tr.pure ?_
  with_reducible refine Tr.bind ?_
  with_reducible refine Tr.pure ?_
  (with_reducible refine Tr.from (by (repeat (first | assumption | exact List.mem_cons_self | apply List.mem_cons_of_mem))) ?_ ?_ ?_); (next => omega); (next => omega); intro _
  with_reducible refine Tr.bind ?_
  with_reducible refine Tr.pure ?_
  with_reducible refine Tr.pure ?_
  with_reducible refine Tr.pure ?_
  with_reducible refine Tr.pure ?_
  with_reducible refine Tr.pure ?_
  refine T195l (by (repeat (first | assumption | exact List.mem_cons_self | apply List.mem_cons_of_mem))) (by (repeat (first | assumption | exact List.mem_cons_self | apply List.mem_cons_of_mem))) (by (repeat (first | assumption | exact List.mem_cons_self | apply List.mem_cons_of_mem))) ⟨by decide, hB.1⟩ ⟨by decide, hq1.1⟩ (by omega) (by omega) (by rw [List.length_drop]; omega) (by rw [List.length_drop]; omega) ?_
  with_reducible refine Tr.bind ?_
  (with_reducible refine Tr.append (by (repeat (first | exact Up.here | apply Up.next))) ?_ ?_); (next => exact Nat.le_of_ble_eq_true rfl)
  with_reducible refine Tr.noErr ?_
  with_reducible refine Tr.bind ?_
  with_reducible refine Tr.lstM (by (repeat (first | assumption | exact List.mem_cons_self | apply List.mem_cons_of_mem))) ?_
  with_reducible refine Tr.bind ?_
  with_reducible refine Tr.noErr ?_
  (with_reducible refine Tr.word (by (repeat (first | exact Up.here | apply Up.next))) ?_ ?_); (next => decide)
  with_reducible refine Tr.bind ?_
  with_reducible refine Tr.bind ?_
  with_reducible refine Tr.cell (by (repeat (first | assumption | exact List.mem_cons_self | apply List.mem_cons_of_mem))) ?_
  with_reducible refine Tr.bind ?_
  with_reducible refine Tr.bind ?_
  with_reducible refine Tr.bind ?_
  with_reducible refine Tr.cell (by (repeat (first | assumption | exact List.mem_cons_self | apply List.mem_cons_of_mem))) ?_
  with_reducible refine Tr.getF (by (repeat (first | assumption | exact List.mem_cons_self | apply List.mem_cons_of_mem))) (by (repeat (first | assumption | exact List.mem_cons_self | apply List.mem_cons_of_mem))) (by exact dk_entries) ?_
  with_reducible refine Tr.bind ?_
  with_reducible refine Tr.pure ?_
  with_reducible refine Tr.pure ?_
  with_reducible refine Tr.pure ?_
  refine T141e (by (repeat (first | assumption | exact List.mem_cons_self | apply List.mem_cons_of_mem))) (by (repeat (first | assumption | exact List.mem_cons_self | apply List.mem_cons_of_mem))) (Int.le_refl _) (by decide) ?_
  with_reducible refine Tr.bind ?_
  (with_reducible refine Tr.append (by (repeat (first | exact Up.here | apply Up.next))) ?_ ?_); (next => exact Nat.le_of_ble_eq_true rfl)
  with_reducible refine Tr.noErr ?_
  with_reducible refine Tr.bind ?_
  with_reducible refine Tr.pure ?_
  with_reducible refine Tr.bind ?_
  with_reducible refine Tr.bind ?_
  with_reducible refine Tr.bind ?_
  with_reducible refine Tr.bind ?_
  with_reducible refine Tr.pure ?_
  with_reducible refine Tr.bind ?_
  with_reducible refine Tr.pure ?_
  with_reducible refine Tr.pure ?_
  (with_reducible refine Tr.mix ?_ ?_); (next => exact Nat.le_of_ble_eq_true rfl); intro _
  with_reducible refine Tr.bind ?_
  with_reducible refine Tr.pure ?_
  (with_reducible refine Tr.repS (by (repeat (first | assumption | exact List.mem_cons_self | apply List.mem_cons_of_mem))) ?_ ?_); (next => omega); intro _
  refine Tr.eqS (s := List.replicate 5 (.str "range")) (.tail _ (.tail _ (.tail _ (.head _)))) (.head _) words5 ?_
  exact ⟨_, Imp.sub (by (repeat (first | exact List.Sublist.refl _ | apply List.Sublist.cons₂ | apply List.Sublist.cons))), c D1 _ hD1⟩
end
end Mine
end

/-! ## PL10 -/
section
open PySem PySem.W PySem.Calls PyProof.Rows
namespace Mine
section
variable {Γ Γ' Δ : Ct} {i j n d dd x e de r m o f b q : Nat} {B K R N u ext sp ct k : Int} {ro ro' : Bool} {a a1 a2 a3 a4 : AV} {raw mp L D ns : List Int} {E : Str → Ct → Prop} {Q : AV → Ct → Prop}
section
variable (hd : (d, As.is (.inst 53 dd)) ∈ Γ) (hf : (dd, As.is (.dict (dk B K R N true x))) ∈ Γ)
include hd hf
theorem T155r (q : E "read only" Γ) : Tr Γ (M155 [.loc d, a1, a2]) Q E := by
  refine Tr.m3 (P := P155) ?_
  unfold P155
  with_reducible refine Tr.bind ?_
  with_reducible refine Tr.bind ?_
  with_reducible refine Tr.bind ?_
  with_reducible refine Tr.pure ?_
  with_reducible refine Tr.bind ?_
  with_reducible refine Tr.pure ?_
  with_reducible refine Tr.pure ?_
  with_reducible refine T106e (by (repeat (first | assumption | exact List.mem_cons_self | apply List.mem_cons_of_mem))) (by (repeat (first | assumption | exact List.mem_cons_self | apply List.mem_cons_of_mem))) ?_
  exact q
theorem T162r (q : E "read only" Γ) : Tr Γ (M162 [.loc d, a1]) Q E := by
  refine Tr.m2 (P := P162) ?_
  unfold P162
  with_reducible refine Tr.bind ?_
  with_reducible refine Tr.bind ?_
  with_reducible refine Tr.bind ?_
  with_reducible refine Tr.pure ?_
  with_reducible refine Tr.bind ?_
  with_reducible refine Tr.pure ?_
  with_reducible refine Tr.pure ?_
  with_reducible refine T106e (by (repeat (first | assumption | exact List.mem_cons_self | apply List.mem_cons_of_mem))) (by (repeat (first | assumption | exact List.mem_cons_self | apply List.mem_cons_of_mem))) ?_
  exact q
theorem T195r (q : E "read only" Γ) : Tr Γ (M195 [.loc d, a1, a2, a3]) Q E := by
  refine Tr.m4 (P := P195) ?_
  unfold P195
  with_reducible refine Tr.bind ?_
  with_reducible refine Tr.bind ?_
  with_reducible refine Tr.bind ?_
  with_reducible refine Tr.pure ?_
  with_reducible refine Tr.bind ?_
  with_reducible refine Tr.pure ?_
  with_reducible refine Tr.pure ?_
  with_reducible refine T106e (by (repeat (first | assumption | exact List.mem_cons_self | apply List.mem_cons_of_mem))) (by (repeat (first | assumption | exact List.mem_cons_self | apply List.mem_cons_of_mem))) ?_
  exact q
theorem T148r (he : (e, As.is (.inst 74 de)) ∈ Γ) (hg : (de, As.is (.dict (en u r ext sp ct m))) ∈ Γ) (hr : (r, As.is (.ints raw)) ∈ Γ) (hm : (m, As.is (.ints mp)) ∈ Γ) (hzm : mp.length ≤ 1000) (hzr : raw.length ≤ 1000)
    (q : ∀ n, E "read only" ((n, .is (.ints (oct B u raw ext sp ct mp))) :: Γ)) : Tr Γ (M148 [.loc d, a1, .loc e]) Q E := by
  refine Tr.m3 (P := P148) ?_
  unfold P148
  with_reducible refine Tr.bind ?_
  with_reducible refine Tr.bind ?_
  with_reducible refine Tr.bind ?_
  with_reducible refine Tr.pure ?_
  with_reducible refine Tr.bind ?_
  with_reducible refine Tr.bind ?_
  with_reducible refine Tr.pure ?_
  with_reducible refine Tr.bind ?_
  with_reducible refine Tr.bind ?_
  with_reducible refine Tr.bind ?_
  with_reducible refine Tr.bind ?_
  with_reducible refine Tr.pure ?_
  with_reducible refine Tr.bind ?_
  with_reducible refine Tr.bind ?_
  with_reducible refine Tr.pure ?_
  with_reducible refine Tr.bind ?_
  with_reducible refine Tr.pure ?_
  with_reducible refine Tr.pure ?_
  with_reducible refine Tr.pure ?_
  (with_reducible refine T120 (by (repeat (first | assumption | exact List.mem_cons_self | apply List.mem_cons_of_mem))) (by (repeat (first | assumption | exact List.mem_cons_self | apply List.mem_cons_of_mem))) (by (repeat (first | assumption | exact List.mem_cons_self | apply List.mem_cons_of_mem))) (by (repeat (first | assumption | exact List.mem_cons_self | apply List.mem_cons_of_mem))) (by (repeat (first | assumption | exact List.mem_cons_self | apply List.mem_cons_of_mem))) (by (repeat (first | assumption | exact List.mem_cons_self | apply List.mem_cons_of_mem))) ?_ ?_ ?_); (next => omega); (next => omega); intro _
  with_reducible refine Tr.bind ?_
  with_reducible refine Tr.pure ?_
  with_reducible refine Tr.pure ?_
  with_reducible refine Tr.pure ?_
  with_reducible refine Tr.pure ?_
  exact T155r (.tail _ hd) (.tail _ hf) (q _)
end
theorem T252 (hd : (d, As.is (.inst 53 dd)) ∈ Γ) (hx : (x, As.is (.ints D)) ∈ Γ) (hb : (b, As.box q) ∈ Γ) (hq : (q, As.que) ∈ Γ) (hB : 0 < B ∧ B ≤ 1000) (hR : 0 < R ∧ R ≤ 32) (hz : D.length ≤ 1000000)
    (c : ∀ ts, Q (.bool true) ((dd, .is (.dict (dk B K R 4 true x))) :: (0, .is (.tab ts)) :: Γ)) : Tr ((dd, .is (.dict (dk B K R 4 false x))) :: (0, .is (.tab [])) :: Γ) (M252 [.loc d, .loc b]) Q E := by
  refine Tr.wk (Tr.cbG2 (v := none) (w := some (.loc d)) rfl rfl fun ck => ?_)
  show Tr _ (P252 (.loc d) (.loc b) ck) _ _
  unfold P252
  with_reducible refine Tr.bind ?_
  with_reducible refine Tr.bind ?_
  with_reducible refine Tr.bind ?_
  with_reducible refine Tr.bind ?_
  with_reducible refine Tr.bind ?_
  with_reducible refine Tr.cell (by (repeat (first | assumption | exact List.mem_cons_self | apply List.mem_cons_of_mem))) ?_
  with_reducible refine Tr.bind ?_
  with_reducible refine Tr.bind ?_
  with_reducible refine Tr.pure ?_
  with_reducible refine Tr.bind ?_
  with_reducible refine Tr.pure ?_
  with_reducible refine Tr.pure ?_
  with_reducible refine Tr.pure ?_
  (with_reducible refine T212 (by (repeat (first | assumption | exact List.mem_cons_self | apply List.mem_cons_of_mem))) (by (repeat (first | assumption | exact List.mem_cons_self | apply List.mem_cons_of_mem))) (by (repeat (first | assumption | exact List.mem_cons_self | apply List.mem_cons_of_mem))) (by (repeat (first | assumption | exact List.mem_cons_self | apply List.mem_cons_of_mem))) ?_ ?_); (next => omega); intro _ _ _ _ _ _ _ _ _ _ _ _ _ _ _ _ _ _
  with_reducible refine Tr.bind ?_
  with_reducible refine Tr.bind ?_
  with_reducible refine Tr.bind ?_
  with_reducible refine Tr.bind ?_
  with_reducible refine Tr.bind ?_
  with_reducible refine Tr.cell (by (repeat (first | assumption | exact List.mem_cons_self | apply List.mem_cons_of_mem))) ?_
  with_reducible refine Tr.getF (by (repeat (first | assumption | exact List.mem_cons_self | apply List.mem_cons_of_mem))) (by (repeat (first | assumption | exact List.mem_cons_self | apply List.mem_cons_of_mem))) (by exact dk_data) ?_
  with_reducible refine Tr.bind ?_
  with_reducible refine Tr.pure ?_
  with_reducible refine Tr.pure ?_
  (with_reducible refine Tr.copy (by (repeat (first | assumption | exact List.mem_cons_self | apply List.mem_cons_of_mem))) ?_ ?_); (next => omega); intro _
  with_reducible refine Tr.bind ?_
  with_reducible refine Tr.pure ?_
  with_reducible refine Tr.pure ?_
  with_reducible refine Tr.pure ?_
  with_reducible refine Tr.bind ?_
  with_reducible refine Tr.pair ?_
  with_reducible refine Tr.bind ?_
  with_reducible refine Tr.cellSet (by (repeat (first | exact Up.here | apply Up.next))) ?_
  with_reducible refine Tr.pure ?_
  with_reducible refine Tr.bind ?_
  with_reducible refine Tr.bind ?_
  with_reducible refine Tr.pure ?_
  with_reducible refine Tr.bind ?_
  with_reducible refine Tr.cell (by (repeat (first | assumption | exact List.mem_cons_self | apply List.mem_cons_of_mem))) ?_
  (with_reducible refine Tr.setF (by (repeat (first | assumption | exact List.mem_cons_self | apply List.mem_cons_of_mem))) (by (repeat (first | exact Up.here | apply Up.next))) (by exact dkp_ro) ?_ ?_); (next => exact Nat.le_of_ble_eq_true rfl)
  with_reducible refine Tr.bind ?_
  with_reducible refine Tr.noErr ?_
  (with_reducible refine Tr.word (by (repeat (first | exact Up.here | apply Up.next))) ?_ ?_); (next => decide)
  with_reducible refine Tr.bind ?_
  with_reducible refine Tr.bind ?_
  with_reducible refine Tr.cell (by (repeat (first | assumption | exact List.mem_cons_self | apply List.mem_cons_of_mem))) ?_
  with_reducible refine Tr.bind ?_
  with_reducible refine Tr.bind ?_
  with_reducible refine Tr.pure ?_
  with_reducible refine Tr.bind ?_
  with_reducible refine Tr.bind ?_
  with_reducible refine Tr.cell (by (repeat (first | assumption | exact List.mem_cons_self | apply List.mem_cons_of_mem))) ?_
  with_reducible refine Tr.bind ?_
  with_reducible refine Tr.pure ?_
  with_reducible refine Tr.pure ?_
  with_reducible refine Tr.pure ?_
  with_reducible refine Tr.pure ?_
  rename_i e de r m u ext sp ct raw mp hraw hrb hu hx hs hc hmp hmb na
  have hml : mp.length ≤ 16 := by rw [hmp]; split <;> decide
  refine T148r (by (repeat (first | assumption | exact List.mem_cons_self | apply List.mem_cons_of_mem))) (by (repeat (first | assumption | exact List.mem_cons_self | apply List.mem_cons_of_mem))) (by (repeat (first | assumption | exact List.mem_cons_self | apply List.mem_cons_of_mem))) (by (repeat (first | assumption | exact List.mem_cons_self | apply List.mem_cons_of_mem))) (by (repeat (first | assumption | exact List.mem_cons_self | apply List.mem_cons_of_mem))) (by (repeat (first | assumption | exact List.mem_cons_self | apply List.mem_cons_of_mem))) (by omega) (by omega) fun no => ?_
  with_reducible refine Tr.bind ?_
  (with_reducible refine Tr.mix ?_ ?_); (next => exact Nat.le_of_ble_eq_true rfl); intro _
  with_reducible refine Tr.noErr ?_
  with_reducible refine Tr.bind ?_
  with_reducible refine Tr.lstM (by (repeat (first | assumption | exact List.mem_cons_self | apply List.mem_cons_of_mem))) ?_
  with_reducible refine Tr.bind ?_
  with_reducible refine Tr.noErr ?_
  (with_reducible refine Tr.word (by (repeat (first | exact Up.here | apply Up.next))) ?_ ?_); (next => decide)
  with_reducible refine Tr.bind ?_
  with_reducible refine Tr.bind ?_
  with_reducible refine Tr.cell (by (repeat (first | assumption | exact List.mem_cons_self | apply List.mem_cons_of_mem))) ?_
  with_reducible refine Tr.bind ?_
  with_reducible refine Tr.bind ?_
  with_reducible refine Tr.pure ?_
  with_reducible refine Tr.bind ?_
  with_reducible refine Tr.pure ?_
  with_reducible refine Tr.pure ?_
  with_reducible refine Tr.pure ?_
  refine T162r (by (repeat (first | assumption | exact List.mem_cons_self | apply List.mem_cons_of_mem))) (by (repeat (first | assumption | exact List.mem_cons_self | apply List.mem_cons_of_mem))) ?_
  with_reducible refine Tr.bind ?_
  (with_reducible refine Tr.append (by (repeat (first | exact Up.here | apply Up.next))) ?_ ?_); (next => exact Nat.le_of_ble_eq_true rfl)
  with_reducible refine Tr.noErr ?_
  with_reducible refine Tr.bind ?_
  with_reducible refine Tr.lstM (by (repeat (first | assumption | exact List.mem_cons_self | apply List.mem_cons_of_mem))) ?_
  with_reducible refine Tr.bind ?_
  with_reducible refine Tr.noErr ?_
  (with_reducible refine Tr.word (by (repeat (first | exact Up.here | apply Up.next))) ?_ ?_); (next => decide)
  with_reducible refine Tr.bind ?_
  with_reducible refine Tr.bind ?_
  with_reducible refine Tr.cell (by (repeat (first | assumption | exact List.mem_cons_self | apply List.mem_cons_of_mem))) ?_
  with_reducible refine Tr.bind ?_
  with_reducible refine Tr.bind ?_
  with_reducible refine Tr.pure ?_
  with_reducible refine Tr.bind ?_
  with_reducible refine Tr.bind ?_
  with_reducible refine Tr.bind ?_
  with_reducible refine Tr.bind ?_
  with_reducible refine Tr.bind ?_
  with_reducible refine Tr.pure ?_
  with_reducible refine Tr.bind ?_
  with_reducible refine Tr.pure ?_
  with_reducible refine Tr.pure ?_
  (with_reducible refine Tr.ints (by with_unfolding_all rfl) ?_ ?_); (next => exact Nat.le_of_ble_eq_true rfl); intro _
  with_reducible refine Tr.bind ?_
  with_reducible refine Tr.pure ?_
  (with_reducible refine Tr.rep (by (repeat (first | assumption | exact List.mem_cons_self | apply List.mem_cons_of_mem))) ?_ ?_); (next => omega); intro _
  with_reducible refine Tr.bind ?_
  with_reducible refine Tr.pure ?_
  with_reducible refine Tr.pure ?_
  with_reducible refine Tr.pure ?_
  with_reducible refine Tr.pure ?_
  refine T155r (by (repeat (first | assumption | exact List.mem_cons_self | apply List.mem_cons_of_mem))) (by (repeat (first | assumption | exact List.mem_cons_self | apply List.mem_cons_of_mem))) ?_
  with_reducible refine Tr.bind ?_
  (with_reducible refine Tr.append (by (repeat (first | exact Up.here | apply Up.next))) ?_ ?_); (next => exact Nat.le_of_ble_eq_true rfl)
  with_reducible refine Tr.noErr ?_
  with_reducible refine Tr.bind ?_
  with_reducible refine Tr.lstM (by (repeat (first | assumption | exact List.mem_cons_self | apply List.mem_cons_of_mem))) ?_
  with_reducible refine Tr.bind ?_
  with_reducible refine Tr.noErr ?_
  (with_reducible refine Tr.word (by (repeat (first | exact Up.here | apply Up.next))) ?_ ?_); (next => decide)
  with_reducible refine Tr.bind ?_
  with_reducible refine Tr.bind ?_
  with_reducible refine Tr.cell (by (repeat (first | assumption | exact List.mem_cons_self | apply List.mem_cons_of_mem))) ?_
  with_reducible refine Tr.bind ?_
  with_reducible refine Tr.bind ?_
  with_reducible refine Tr.pure ?_
  with_reducible refine Tr.bind ?_
  with_reducible refine Tr.bind ?_
  with_reducible refine Tr.pure ?_
  with_reducible refine Tr.bind ?_
  with_reducible refine Tr.bind ?_
  with_reducible refine Tr.bind ?_
  with_reducible refine Tr.bind ?_
  with_reducible refine Tr.bind ?_
  with_reducible refine Tr.pure ?_
  with_reducible refine Tr.bind ?_
  with_reducible refine Tr.pure ?_
  with_reducible refine Tr.pure ?_
  (with_reducible refine Tr.ints (by with_unfolding_all rfl) ?_ ?_); (next => exact Nat.le_of_ble_eq_true rfl); intro _
  with_reducible refine Tr.bind ?_
  with_reducible refine Tr.bind ?_
  with_reducible refine Tr.cell (by (repeat (first | assumption | exact List.mem_cons_self | apply List.mem_cons_of_mem))) ?_
  with_reducible refine Tr.getF (by (repeat (first | assumption | exact List.mem_cons_self | apply List.mem_cons_of_mem))) (by (repeat (first | assumption | exact List.mem_cons_self | apply List.mem_cons_of_mem))) (by exact dk_record) ?_
  (with_reducible refine Tr.rep (by (repeat (first | assumption | exact List.mem_cons_self | apply List.mem_cons_of_mem))) ?_ ?_); (next => omega); intro _
  with_reducible refine Tr.bind ?_
  with_reducible refine Tr.pure ?_
  with_reducible refine Tr.pure ?_
  with_reducible refine Tr.pure ?_
  with_reducible refine Tr.pure ?_
  with_reducible refine Tr.pure ?_
  refine T195r (by (repeat (first | assumption | exact List.mem_cons_self | apply List.mem_cons_of_mem))) (by (repeat (first | assumption | exact List.mem_cons_self | apply List.mem_cons_of_mem))) ?_
  with_reducible refine Tr.bind ?_
  (with_reducible refine Tr.append (by (repeat (first | exact Up.here | apply Up.next))) ?_ ?_); (next => exact Nat.le_of_ble_eq_true rfl)
  with_reducible refine Tr.noErr ?_
  with_reducible refine Tr.bind ?_
  with_reducible refine Tr.bind ?_
  with_reducible refine Tr.pure ?_
  with_reducible refine Tr.bind ?_
  with_reducible refine Tr.bind ?_
  with_reducible refine Tr.bind ?_
  with_reducible refine Tr.bind ?_
  with_reducible refine Tr.pure ?_
  with_reducible refine Tr.bind ?_
  with_reducible refine Tr.pure ?_
  with_reducible refine Tr.pure ?_
  (with_reducible refine Tr.mix ?_ ?_); (next => exact Nat.le_of_ble_eq_true rfl); intro _
  with_reducible refine Tr.bind ?_
  with_reducible refine Tr.pure ?_
  (with_reducible refine Tr.repS (by (repeat (first | assumption | exact List.mem_cons_self | apply List.mem_cons_of_mem))) ?_ ?_); (next => omega); intro _
  refine Tr.eqS (s := List.replicate 4 (.str "read only")) (.tail _ (.tail _ (.tail _ (.tail _ (.tail _ (.tail _ (.head _))))))) (.head _) words4 ?_
  with_reducible refine Tr.bind ?_
  with_reducible refine Tr.bool ?_
  (with_reducible refine Tr.ifT ?_ ?_); (next => rfl)
  with_reducible refine Tr.bind ?_
  with_reducible refine Tr.bind ?_
  with_reducible refine Tr.cell (by (repeat (first | assumption | exact List.mem_cons_self | apply List.mem_cons_of_mem))) ?_
  with_reducible refine Tr.getF (by (repeat (first | assumption | exact List.mem_cons_self | apply List.mem_cons_of_mem))) (by (repeat (first | assumption | exact List.mem_cons_self | apply List.mem_cons_of_mem))) (by exact dk_data) ?_
  with_reducible refine Tr.bind ?_
  with_reducible refine Tr.pure ?_
  with_reducible refine Tr.eqL (by (repeat (first | assumption | exact List.mem_cons_self | apply List.mem_cons_of_mem))) (by (repeat (first | assumption | exact List.mem_cons_self | apply List.mem_cons_of_mem))) rfl ?_
  exact ⟨_, Imp.sub (by (repeat (first | exact List.Sublist.refl _ | apply List.Sublist.cons₂ | apply List.Sublist.cons))), c _⟩
end
end Mine
end

/-! ## PL11 -/
section
open PySem PySem.W PySem.Calls PyProof.Rows
namespace Mine
section
variable {Γ Γ' Δ : Ct} {i j n d dd x e de r m o f b q : Nat} {B K R N u ext sp ct k : Int} {ro ro' : Bool} {a a1 a2 a3 a4 : AV} {raw mp L D ns : List Int} {E : Str → Ct → Prop} {Q : AV → Ct → Prop}
theorem Tr.loopT2 {mb : AV → AM (Option AV)} {Q : Option AV → Ct → Prop} (h : Tr Γ (mb a1) (fun o Γ' => o = none ∧ Tr Γ' (mb a2) (fun o Γ' => o = none ∧ Q none Γ') E) E) : Tr Γ (loopT mb [a1, a2]) Q E := by
  refine fun H S => ?_
  unfold loopT
  rw [if_pos (show [a1, a2].length ≤ 10 from Nat.le_of_ble_eq_true rfl)]
  refine Tr.bind (h.mono (fun o Γ' hh => ?_) fun _ _ h => h) H S
  obtain ⟨rfl, h2⟩ := hh
  refine Tr.bind (h2.mono (fun o Γ' hh => ?_) fun _ _ h => h)
  obtain ⟨rfl, h3⟩ := hh
  exact Tr.pure h3
theorem pure_law (ns : List Int) (h : ns.length ≤ 63) : ∃ H' t0 t1, P259 (.loc 2) [.tab [], .tab [], .frozen ns] = .ok (some (.bool true)) H' ∧ H'[0]? = some (.tab t0) ∧ H'[1]? = some (.tab t1) := by
  have key : Tr [(0, .is (.tab [])), (1, .is (.tab [])), (2, .is (.frozen ns))] (P259 (.loc 2)) (fun a Γ' => a = some (.bool true) ∧ (∃ t0, (0, As.is (.tab t0)) ∈ Γ') ∧ ∃ t1, (1, As.is (.tab t1)) ∈ Γ') (fun _ _ => False) := by
    unfold P259
    refine Tr.bind (Tr.bind (Tr.bind (Tr.pure (Tr.bind (Tr.pure (Tr.pure (T207 (by (repeat (first | assumption | exact List.mem_cons_self | apply List.mem_cons_of_mem))) (by omega) fun b q => ?_)))))))
    with_reducible refine Tr.bind ?_
    with_reducible refine Tr.bind ?_
    with_reducible refine Tr.bind ?_
    with_reducible refine Tr.bind ?_
    with_reducible refine Tr.pure ?_
    with_reducible refine Tr.bind ?_
    with_reducible refine Tr.bind ?_
    with_reducible refine Tr.bind ?_
    with_reducible refine Tr.pure ?_
    with_reducible refine Tr.bind ?_
    with_reducible refine Tr.bind ?_
    with_reducible refine Tr.pure ?_
    with_reducible refine Tr.bind ?_
    with_reducible refine Tr.pure ?_
    with_reducible refine Tr.pure ?_
    with_reducible refine Tr.pure ?_
    (with_reducible refine T202 (by (repeat (first | assumption | exact List.mem_cons_self | apply List.mem_cons_of_mem))) (by (repeat (first | assumption | exact List.mem_cons_self | apply List.mem_cons_of_mem))) ?_ ?_); (next => omega); intro _ _ _
    with_reducible refine Tr.add ?_
    with_reducible refine Tr.bind ?_
    with_reducible refine Tr.bind ?_
    with_reducible refine Tr.pure ?_
    with_reducible refine Tr.bind ?_
    with_reducible refine Tr.bind ?_
    with_reducible refine Tr.bind ?_
    with_reducible refine Tr.bind ?_
    with_reducible refine Tr.bind ?_
    with_reducible refine Tr.pure ?_
    with_reducible refine Tr.bind ?_
    with_reducible refine Tr.bind ?_
    with_reducible refine Tr.pure ?_
    with_reducible refine Tr.bind ?_
    with_reducible refine Tr.pure ?_
    with_reducible refine Tr.pure ?_
    with_reducible refine Tr.pure ?_
    (with_reducible refine Tr.ints (by with_unfolding_all rfl) ?_ ?_); (next => exact Nat.le_of_ble_eq_true rfl); intro _
    with_reducible refine Tr.bind ?_
    with_reducible refine Tr.bind ?_
    with_reducible refine Tr.bind ?_
    with_reducible refine Tr.pure ?_
    with_reducible refine Tr.bind ?_
    with_reducible refine Tr.bind ?_
    with_reducible refine Tr.pure ?_
    with_reducible refine Tr.bind ?_
    with_reducible refine Tr.pure ?_
    with_reducible refine Tr.pure ?_
    with_reducible refine Tr.pure ?_
    (with_reducible refine T202 (by (repeat (first | assumption | exact List.mem_cons_self | apply List.mem_cons_of_mem))) (by (repeat (first | assumption | exact List.mem_cons_self | apply List.mem_cons_of_mem))) ?_ ?_); (next => omega); intro _ _ _
    (with_reducible refine Tr.getI (by (repeat (first | assumption | exact List.mem_cons_self | apply List.mem_cons_of_mem))) ?_ ?_); (next => (simp only [List.length_append, List.length_cons, List.length_nil, List.length_replicate, List.length_take, List.length_drop, List.length_set]; omega))
    with_reducible refine Tr.bind ?_
    with_reducible refine Tr.bind ?_
    with_reducible refine Tr.pure ?_
    with_reducible refine Tr.bind ?_
    with_reducible refine Tr.pure ?_
    with_reducible refine Tr.pure ?_
    with_reducible refine Tr.pure ?_
    with_reducible refine Tr.pure ?_
    with_reducible refine Tr.pure ?_
    (with_reducible refine T53 ?_ ?_ ?_ ?_ ?_ ?_); (next => omega); (next => omega); (next => omega); (next => omega); (next => omega); intro _ _ _
    with_reducible refine Tr.bind ?_
    with_reducible refine Tr.bind ?_
    with_reducible refine Tr.bind ?_
    with_reducible refine Tr.bind ?_
    with_reducible refine Tr.pure ?_
    with_reducible refine Tr.bind ?_
    with_reducible refine Tr.bind ?_
    with_reducible refine Tr.bind ?_
    with_reducible refine Tr.pure ?_
    with_reducible refine Tr.bind ?_
    with_reducible refine Tr.bind ?_
    with_reducible refine Tr.pure ?_
    with_reducible refine Tr.bind ?_
    with_reducible refine Tr.pure ?_
    with_reducible refine Tr.pure ?_
    with_reducible refine Tr.pure ?_
    (with_reducible refine T202 (by (repeat (first | assumption | exact List.mem_cons_self | apply List.mem_cons_of_mem))) (by (repeat (first | assumption | exact List.mem_cons_self | apply List.mem_cons_of_mem))) ?_ ?_); (next => omega); intro _ _ _
    with_reducible refine Tr.add ?_
    with_reducible refine Tr.bind ?_
    with_reducible refine Tr.bind ?_
    with_reducible refine Tr.pure ?_
    with_reducible refine Tr.bind ?_
    with_reducible refine Tr.bind ?_
    with_reducible refine Tr.pure ?_
    with_reducible refine Tr.bind ?_
    with_reducible refine Tr.bind ?_
    with_reducible refine Tr.pure ?_
    with_reducible refine Tr.bind ?_
    with_reducible refine Tr.pure ?_
    with_reducible refine Tr.pure ?_
    with_reducible refine Tr.pure ?_
    with_reducible refine Tr.pure ?_
    with_reducible refine Tr.pure ?_
    (with_reducible refine T53 ?_ ?_ ?_ ?_ ?_ ?_); (next => omega); (next => omega); (next => omega); (next => omega); (next => omega); intro _ _ _
    with_reducible refine Tr.bind ?_
    with_reducible refine Tr.bind ?_
    with_reducible refine Tr.bind ?_
    with_reducible refine Tr.bind ?_
    with_reducible refine Tr.bind ?_
    with_reducible refine Tr.bind ?_
    with_reducible refine Tr.bind ?_
    with_reducible refine Tr.pure ?_
    with_reducible refine Tr.bind ?_
    with_reducible refine Tr.pure ?_
    with_reducible refine Tr.pure ?_
    rename_i r1 h10 h11 n r2 h20 h21 d1 dd1 x1 r3 h30 h31 d2 dd2 x2
    have hR : ([16, 32] : List Int).getD r2.toNat 0 = 16 ∨ ([16, 32] : List Int).getD r2.toNat 0 = 32 := by
      have : r2 = 0 ∨ r2 = 1 := by omega
      rcases this with rfl | rfl
      · exact .inl rfl
      · exact .inr rfl
    generalize ([16, 32] : List Int).getD r2.toNat 0 = R at *
    have hD1 : ((List.replicate ((4 + r1) * 64).toNat (229 : Int)).length : Int) = (4 + r1) * 64 := by rw [List.length_replicate]; omega
    have hD2 : ((List.replicate ((257 + r3) * 1).toNat (229 : Int)).length : Int) = (257 + r3) * 1 := by rw [List.length_replicate]; omega
    generalize List.replicate ((4 + r1) * 64).toNat (229 : Int) = D1 at *
    generalize List.replicate ((257 + r3) * 1).toNat (229 : Int) = D2 at *
    have if1 : (if 4 + r1 ≤ 256 then 16 else 8 : Int) = 16 := if_pos (by omega)
    have if2 : (if 257 + r3 ≤ 256 then 16 else 8 : Int) = 8 := if_neg (by omega)
    have hR' : 0 < R ∧ R ≤ 32 := by omega
    have hq : 0 ≤ 64 / R ∧ 64 / R ≤ 4 := by rcases hR with rfl | rfl <;> decide
    have e1 : (if 128 < 16 * (64 / R) then 128 else 16 * (64 / R)) = 16 * 64 / R := by rcases hR with rfl | rfl <;> decide
    with_reducible refine T85 (by (repeat (first | assumption | exact List.mem_cons_self | apply List.mem_cons_of_mem))) (by (repeat (first | assumption | exact List.mem_cons_self | apply List.mem_cons_of_mem))) ?_
    with_reducible refine Tr.bind ?_
    with_reducible refine Tr.bind ?_
    with_reducible refine Tr.bind ?_
    with_reducible refine Tr.bind ?_
    with_reducible refine Tr.pure ?_
    with_reducible refine Tr.bind ?_
    with_reducible refine Tr.pure ?_
    with_reducible refine Tr.pure ?_
    with_reducible refine T85 (by (repeat (first | assumption | exact List.mem_cons_self | apply List.mem_cons_of_mem))) (by (repeat (first | assumption | exact List.mem_cons_self | apply List.mem_cons_of_mem))) ?_
    with_reducible refine Tr.bind ?_
    with_reducible refine Tr.pure ?_
    with_reducible refine Tr.pure ?_
    with_reducible refine Tr.pure ?_
    (with_reducible refine Tr.ints (by with_unfolding_all rfl) ?_ ?_); (next => exact Nat.le_of_ble_eq_true rfl); intro _
    with_reducible refine Tr.bind ?_
    with_reducible refine Tr.bind ?_
    with_reducible refine Tr.bind ?_
    with_reducible refine Tr.pure ?_
    with_reducible refine Tr.bind ?_
    with_reducible refine Tr.bind ?_
    with_reducible refine Tr.pure ?_
    with_reducible refine Tr.bind ?_
    with_reducible refine Tr.pure ?_
    with_reducible refine Tr.pure ?_
    with_reducible refine Tr.pure ?_
    (with_reducible refine Tr.ints (by with_unfolding_all rfl) ?_ ?_); (next => exact Nat.le_of_ble_eq_true rfl); intro _
    with_reducible refine Tr.bind ?_
    rw [if1, if2]
    with_reducible refine Tr.neL (by (repeat (first | assumption | exact List.mem_cons_self | apply List.mem_cons_of_mem))) (by (repeat (first | assumption | exact List.mem_cons_self | apply List.mem_cons_of_mem))) rfl ?_
    with_reducible refine Tr.bool ?_
    (with_reducible refine Tr.ifF ?_ ?_); (next => rfl)
    with_reducible refine Tr.bind ?_
    with_reducible refine Tr.bind ?_
    with_reducible refine Tr.bind ?_
    with_reducible refine Tr.pure ?_
    with_reducible refine Tr.bind ?_
    with_reducible refine Tr.pure ?_
    with_reducible refine Tr.pure ?_
    (with_reducible refine T99 (by (repeat (first | assumption | exact List.mem_cons_self | apply List.mem_cons_of_mem))) (by (repeat (first | assumption | exact List.mem_cons_self | apply List.mem_cons_of_mem))) ?_ ?_ ?_); (next => omega); (next => omega)
    with_reducible refine Tr.bind ?_
    with_reducible refine Tr.bind ?_
    with_reducible refine Tr.bind ?_
    with_reducible refine Tr.pure ?_
    with_reducible refine Tr.bind ?_
    with_reducible refine Tr.pure ?_
    (with_reducible refine Tr.mul ?_ ?_); (next => omega)
    with_reducible refine Tr.bind ?_
    with_reducible refine Tr.bind ?_
    with_reducible refine Tr.pure ?_
    with_reducible refine Tr.getF (by (repeat (first | assumption | exact List.mem_cons_self | apply List.mem_cons_of_mem))) (by (repeat (first | assumption | exact List.mem_cons_self | apply List.mem_cons_of_mem))) (by exact dk_record) ?_
    (with_reducible refine Tr.fdiv ?_ ?_); (next => omega)
    with_reducible refine Tr.bind ?_
    rw [if1, e1]
    (with_reducible refine Tr.neI (c := false) ?_ ?_); (next => exact bne_eq_false_iff_eq.mpr (by omega))
    with_reducible refine Tr.bool ?_
    with_reducible refine Tr.bind ?_
    (with_reducible refine Tr.ifF ?_ ?_); (next => rfl)
    with_reducible refine Tr.pure ?_
    with_reducible refine Tr.aftN ?_
    with_reducible refine Tr.bind ?_
    with_reducible refine Tr.bind ?_
    with_reducible refine Tr.bind ?_
    with_reducible refine Tr.bind ?_
    with_reducible refine Tr.bind ?_
    with_reducible refine Tr.pure ?_
    with_reducible refine Tr.bind ?_
    with_reducible refine Tr.pure ?_
    with_reducible refine Tr.pure ?_
    (with_reducible refine T99 (by (repeat (first | assumption | exact List.mem_cons_self | apply List.mem_cons_of_mem))) (by (repeat (first | assumption | exact List.mem_cons_self | apply List.mem_cons_of_mem))) ?_ ?_ ?_); (next => omega); (next => omega)
    with_reducible refine Tr.bind ?_
    with_reducible refine Tr.pure ?_
    with_reducible refine Tr.bind ?_
    (with_reducible refine Tr.neI (c := false) ?_ ?_); (next => exact bne_eq_false_iff_eq.mpr (by omega))
    with_reducible refine Tr.bool ?_
    (with_reducible refine Tr.ifF ?_ ?_); (next => rfl)
    with_reducible refine Tr.bind ?_
    with_reducible refine Tr.bind ?_
    with_reducible refine Tr.bind ?_
    with_reducible refine Tr.bind ?_
    with_reducible refine Tr.bind ?_
    with_reducible refine Tr.pure ?_
    with_reducible refine Tr.bind ?_
    with_reducible refine Tr.bind ?_
    with_reducible refine Tr.pure ?_
    with_reducible refine Tr.bind ?_
    with_reducible refine Tr.bind ?_
    with_reducible refine Tr.pure ?_
    with_reducible refine Tr.bind ?_
    with_reducible refine Tr.bind ?_
    with_reducible refine Tr.pure ?_
    with_reducible refine Tr.bind ?_
    with_reducible refine Tr.pure ?_
    with_reducible refine Tr.pure ?_
    with_reducible refine Tr.pure ?_
    with_reducible refine Tr.pure ?_
    with_reducible refine Tr.pure ?_
    (with_reducible refine T53 ?_ ?_ ?_ ?_ ?_ ?_); (next => omega); (next => omega); (next => omega); (next => omega); (next => omega); intro _ _ _
    with_reducible refine Tr.bind ?_
    with_reducible refine Tr.pure ?_
    with_reducible refine Tr.pure ?_
    (with_reducible refine T99 (by (repeat (first | assumption | exact List.mem_cons_self | apply List.mem_cons_of_mem))) (by (repeat (first | assumption | exact List.mem_cons_self | apply List.mem_cons_of_mem))) ?_ ?_ ?_); (next => omega); (next => omega)
    with_reducible refine Tr.bind ?_
    with_reducible refine Tr.pure ?_
    with_reducible refine Tr.bind ?_
    (with_reducible refine Tr.neI (c := false) ?_ ?_); (next => exact bne_eq_false_iff_eq.mpr (by omega))
    with_reducible refine Tr.bool ?_
    with_reducible refine Tr.bind ?_
    (with_reducible refine Tr.ifF ?_ ?_); (next => rfl)
    with_reducible refine Tr.pure ?_
    with_reducible refine Tr.aftN ?_
    with_reducible refine Tr.bind ?_
    with_reducible refine Tr.noErr ?_
    with_reducible refine Tr.bind ?_
    with_reducible refine Tr.pure ?_
    with_reducible refine Tr.bind ?_
    with_reducible refine Tr.bind ?_
    with_reducible refine Tr.pure ?_
    with_reducible refine Tr.bind ?_
    with_reducible refine Tr.pure ?_
    with_reducible refine Tr.pure ?_
    with_reducible refine Tr.pure ?_
    with_reducible refine Tr.bind ?_
    with_reducible refine Tr.noErr ?_
    refine Tr.imp (Γ' := [(x2, .is (.ints D2)), (d2, .is (.inst 53 dd2)), (dd2, .is (.dict (dk (257 + r3) 1 1 4 false x2))), (x1, .is (.ints D1)), (d1, .is (.inst 53 dd1)), (dd1, .is (.dict (dk (4 + r1) 64 R 4 false x1))), (b, .box q), (q, .que), (0, .is (.tab [])), (1, .is (.tab []))]) (Imp.sub (by (repeat (first | exact List.Sublist.refl _ | apply List.Sublist.cons₂ | apply List.Sublist.cons)))) ?_
    refine Tr.loopT2 ?_
    with_reducible refine Tr.bind ?_
    with_reducible refine Tr.bind ?_
    with_reducible refine Tr.bind ?_
    with_reducible refine Tr.bind ?_
    with_reducible refine Tr.bind ?_
    with_reducible refine Tr.pure ?_
    with_reducible refine Tr.bind ?_
    with_reducible refine Tr.bind ?_
    with_reducible refine Tr.pure ?_
    with_reducible refine Tr.bind ?_
    with_reducible refine Tr.pure ?_
    with_reducible refine Tr.pure ?_
    with_reducible refine Tr.pure ?_
    refine Tr.pull (p := (x1, As.is (.ints D1))) (by (repeat (first | exact Pull.here | apply Pull.next))) (T240 (by (repeat (first | assumption | exact List.mem_cons_self | apply List.mem_cons_of_mem))) (by (repeat (first | assumption | exact List.mem_cons_self | apply List.mem_cons_of_mem))) (by (repeat (first | assumption | exact List.mem_cons_self | apply List.mem_cons_of_mem))) (by (repeat (first | assumption | exact List.mem_cons_self | apply List.mem_cons_of_mem))) (by omega) (by omega) fun E1 hE1 => ?_)
    with_reducible refine Tr.bool ?_
    with_reducible refine Tr.pure ?_
    with_reducible refine Tr.bind ?_
    (with_reducible refine Tr.ifF ?_ ?_); (next => rfl)
    with_reducible refine Tr.pure ?_
    with_reducible refine Tr.aftN ?_
    with_reducible refine Tr.pure ?_
    refine ⟨rfl, ?_⟩
    with_reducible refine Tr.bind ?_
    with_reducible refine Tr.bind ?_
    with_reducible refine Tr.bind ?_
    with_reducible refine Tr.bind ?_
    with_reducible refine Tr.bind ?_
    with_reducible refine Tr.pure ?_
    with_reducible refine Tr.bind ?_
    with_reducible refine Tr.bind ?_
    with_reducible refine Tr.pure ?_
    with_reducible refine Tr.bind ?_
    with_reducible refine Tr.pure ?_
    with_reducible refine Tr.pure ?_
    with_reducible refine Tr.pure ?_
    refine Tr.pull (p := (x2, As.is (.ints D2))) (by (repeat (first | exact Pull.here | apply Pull.next))) (T240 (by (repeat (first | assumption | exact List.mem_cons_self | apply List.mem_cons_of_mem))) (by (repeat (first | assumption | exact List.mem_cons_self | apply List.mem_cons_of_mem))) (by (repeat (first | assumption | exact List.mem_cons_self | apply List.mem_cons_of_mem))) (by (repeat (first | assumption | exact List.mem_cons_self | apply List.mem_cons_of_mem))) (by omega) (by omega) fun E2 hE2 => ?_)
    with_reducible refine Tr.bool ?_
    with_reducible refine Tr.pure ?_
    with_reducible refine Tr.bind ?_
    (with_reducible refine Tr.ifF ?_ ?_); (next => rfl)
    with_reducible refine Tr.pure ?_
    with_reducible refine Tr.aftN ?_
    with_reducible refine Tr.pure ?_
    refine ⟨rfl, ?_⟩
    with_reducible refine Tr.aftN ?_
    with_reducible refine Tr.bind ?_
    with_reducible refine Tr.bind ?_
    with_reducible refine Tr.bind ?_
    with_reducible refine Tr.bind ?_
    with_reducible refine Tr.pure ?_
    with_reducible refine Tr.bind ?_
    with_reducible refine Tr.bind ?_
    with_reducible refine Tr.pure ?_
    with_reducible refine Tr.bind ?_
    with_reducible refine Tr.pure ?_
    with_reducible refine Tr.pure ?_
    with_reducible refine Tr.pure ?_
    refine Tr.pull (p := (1, As.is (.tab []))) (by (repeat (first | exact Pull.here | apply Pull.next))) (Tr.pull (p := (x1, As.is (.ints E1))) (by (repeat (first | exact Pull.here | apply Pull.next))) (T245 (by (repeat (first | assumption | exact List.mem_cons_self | apply List.mem_cons_of_mem))) (by (repeat (first | assumption | exact List.mem_cons_self | apply List.mem_cons_of_mem))) (by (repeat (first | assumption | exact List.mem_cons_self | apply List.mem_cons_of_mem))) (by (repeat (first | assumption | exact List.mem_cons_self | apply List.mem_cons_of_mem))) (by omega) hR (by omega) fun E3 ts1 hE3 => ?_))
    with_reducible refine Tr.bind ?_
    with_reducible refine Tr.bool ?_
    (with_reducible refine Tr.ifT ?_ ?_); (next => rfl)
    with_reducible refine Tr.bind ?_
    with_reducible refine Tr.bind ?_
    with_reducible refine Tr.pure ?_
    with_reducible refine Tr.bind ?_
    with_reducible refine Tr.bind ?_
    with_reducible refine Tr.pure ?_
    with_reducible refine Tr.bind ?_
    with_reducible refine Tr.pure ?_
    with_reducible refine Tr.pure ?_
    with_reducible refine Tr.pure ?_
    refine Tr.pull (p := (0, As.is (.tab []))) (by (repeat (first | exact Pull.here | apply Pull.next))) (Tr.pull (p := (dd1, As.is (.dict (dk (4 + r1) 64 R 4 false x1)))) (by (repeat (first | exact Pull.here | apply Pull.next))) (T252 (by (repeat (first | assumption | exact List.mem_cons_self | apply List.mem_cons_of_mem))) (by (repeat (first | assumption | exact List.mem_cons_self | apply List.mem_cons_of_mem))) (by (repeat (first | assumption | exact List.mem_cons_self | apply List.mem_cons_of_mem))) (by (repeat (first | assumption | exact List.mem_cons_self | apply List.mem_cons_of_mem))) (by omega) hR' (by omega) fun ts0 => ?_))
    with_reducible refine Tr.pure ?_
    exact ⟨rfl, ⟨ts0, by (repeat (first | assumption | exact List.mem_cons_self | apply List.mem_cons_of_mem))⟩, ts1, by (repeat (first | assumption | exact List.mem_cons_self | apply List.mem_cons_of_mem))⟩
  have S : St1 [(0, .is (.tab [])), (1, .is (.tab [])), (2, .is (.frozen ns))] [.tab [], .tab [], .frozen ns] := ⟨(by decide : [0, 1, 2].Nodup), fun p hp => by
    simp only [List.mem_cons, List.not_mem_nil, or_false] at hp
    rcases hp with rfl | rfl | rfl
    · exact ⟨_, rfl, rfl⟩
    · exact ⟨_, rfl, rfl⟩
    · exact ⟨_, rfl, rfl⟩⟩
  have z := key _ S
  revert z
  cases P259 (.loc 2) [.tab [], .tab [], .frozen ns] with
  | ok a H' => exact fun ⟨Γ', S', e, ⟨t0, h0⟩, t1, h1⟩ => ⟨H', t0, t1, by rw [e], S'.at_ h0, S'.at_ h1⟩
  | err w H' => exact fun ⟨_, _, e⟩ => e.elim
  | stuck => exact fun e => e.elim
end
end Mine
end

/-! ## J2 -/
section
open PySem PySem.W PySem.Calls PyProof.Rows
namespace Mine
abbrev lawCx (w : World) (loose : List Str) (mean : ExcName → Option Value) (mg mb : Str → Option Value) (cn : Str) (cs : Scope) (fa : Addr) (ccd : Value) (g : Heap) (L : Addr) (oS : Obj) : Cx :=
  ⟨w, topProg, loose, mean, mg, mb, callerA.depth + 1, callerA.units + 3, some [], cn, cs, fa, ccd, [], [], callerA, g, g, L, [], [], [(2, oS)], [247, 242]⟩
theorem law_end {w : World} {loose : List Str} {mean : ExcName → Option Value} {m mg mb : Str → Option Value} {g : Heap} {L S fa : Addr} {vs : List Value} {ns : List Int} {cn : Str} {cs : Scope} {ccd : Value} {s : Shared} {Q : Flow → Shared → Prop} {E : Value → Shared → Prop} {body : List Stmt}
    (F : Fr g L s.heap m) (N : News g L s.heap [(247, tabObj #[]), (242, tabObj #[])]) (X : (hd.heap_39 w.params).In g) (T : Top topProg loose mean mg mb g) (B : Below callerA g [] g) (Ls : g.IsList S vs.toArray) (hI : IntsAre vs ns) (hm : m "script" = some (.ref S)) (hk : cs.kind = .function) (hlen : ns.length ≤ 63)
    (hs : ∀ g' oS, SimS (lawCx w loose mean mg mb cn cs fa ccd g' L oS) 8 (rset no "script" (.loc 2)) no body (P259 (.loc 2)))
    (hQ : ∀ h' tk m' ps ps', Fr g L h' m' → News g L h' [(247, tabObj ps), (242, tabObj ps')] → Q (.ret (.bool true)) { s with heap := h', toks := tk }) :
    wpAny (model PG w) (callerA.deeper (envX cn cs L fa ccd [])) (execs body (envX cn cs L fa ccd [])) Q E s := by
  obtain ⟨oS, hS, hc, k, hd⟩ := Ls
  obtain ⟨H', t0, t1, he, h0, h1⟩ := pure_law ns hlen
  have hSL : S ≠ L := fun q => by
    have := Nat.lt_of_lt_of_le (Heap.lt_size hS) F.above
    rw [q] at this; exact absurd this (Nat.lt_irrefl _)
  have hSh : s.heap.get? S = some oS := F.keep _ _ hS
  have F' : Fr (hideAll g [S]) L s.heap m := ⟨F.ns, fun b o e => F.keep b o (of_hideAll _ e), Nat.le_trans (Nat.le_of_eq (hideAll_size _ _)) F.above⟩
  have X' := hide_K hS hc X (noListK w)
  have T' := hide_top hS hc hd T
  have nS : ∀ p ∈ [(247, tabObj #[]), (242, tabObj #[])], p.1 ≠ S := fun p hp q => by
    have := (N p hp).2.2; rw [q, hS] at this; cases this
  have N' : News (hideAll g [S]) L s.heap [(247, tabObj #[]), (242, tabObj #[]), (S, oS)] := by
    intro p hp
    simp only [List.mem_cons, List.not_mem_nil, or_false] at hp
    rcases hp with rfl | rfl | rfl
    · have z := N (247, tabObj #[]) (by simp); exact ⟨z.1, z.2.1, hide_fresh z.2.2⟩
    · have z := N (242, tabObj #[]) (by simp); exact ⟨z.1, z.2.1, hide_fresh z.2.2⟩
    · exact ⟨hSh, hSL, hideAll_none _ (.head _)⟩
  have B' : Below callerA (hideAll g [S]) [] (hideAll g [S]) := below_caller _
  have ok : (lawCx w loose mean mg mb cn cs fa ccd (hideAll g [S]) L oS).Ok 8 := ⟨B', X', T', hk, (by show callerA.depth + 1 + 8 * 8 < 1000; decide), (by show callerA.units + 3 + 100 * 8 < 9900; decide), X', T'⟩
  have S0 : St (lawCx w loose mean mg mb cn cs fa ccd (hideAll g [S]) L oS) (rset no "script" (.loc 2)) m [.tab [], .tab [], .frozen ns] [(247, tabObj #[]), (242, tabObj #[]), (S, oS)] s.heap := by
    refine ⟨F', N', ?_, ⟨rfl, fun i ao e => ?_⟩, fun x a e => ?_, fun x i e => (by cases e), fun p hp => ?_, ?_⟩
    · have a1 : (247 : Nat) ≠ S := nS (247, tabObj #[]) (by simp)
      have a2 : (242 : Nat) ≠ S := nS (242, tabObj #[]) (by simp)
      simp [a1, a2]
    · match i, e with
      | 0, e => cases e; exact ⟨_, _, rfl, #[], rfl, trivial, fun _ _ => rfl⟩
      | 1, e => cases e; exact ⟨_, _, rfl, #[], rfl, trivial, fun _ _ => rfl⟩
      | 2, e => cases e; exact ⟨_, _, rfl, hc, vs, k, hd, hI⟩
      | i + 3, e => simp at e
    · unfold rset at e
      split at e
      · rename_i q; subst q; cases e; exact ⟨_, hm, S, rfl, rfl⟩
      · cases e
    · rw [List.mem_singleton.mp hp]; exact ⟨S, ns, rfl, rfl⟩
    · exact ⟨[S], rfl⟩
  refine hs (hideAll g [S]) oS _ _ s m ok S0 Q E ?_
  rw [he]
  intro v mloc h' tk news' S1 p r
  have r' : v = .bool true := r
  subst r'
  obtain ⟨a0, o0, e0, ps, rfl, _, _⟩ := S1.R.at_ 0 _ h0
  obtain ⟨a1, o1, e1, ps', rfl, _, _⟩ := S1.R.at_ 1 _ h1
  obtain ⟨aS, _, eS, _⟩ := S1.Fz.1 (2, oS) (.head _)
  have p0 := idx_pre p (show (Ads [(247, tabObj #[]), (242, tabObj #[]), (S, oS)])[0]? = some 247 from rfl)
  have p1 := idx_pre p (show (Ads [(247, tabObj #[]), (242, tabObj #[]), (S, oS)])[1]? = some 242 from rfl)
  have p2 := idx_pre p (show (Ads [(247, tabObj #[]), (242, tabObj #[]), (S, oS)])[2]? = some S from rfl)
  rw [List.getElem?_map, e0] at p0
  rw [List.getElem?_map, e1] at p1
  rw [List.getElem?_map, eS] at p2
  obtain rfl : 247 = a0 := (Option.some.inj p0).symm
  obtain rfl : 242 = a1 := (Option.some.inj p1).symm
  obtain rfl : S = aS := (Option.some.inj p2).symm
  have g0 := S1.N _ (List.mem_append_left _ (List.mem_of_getElem? e0))
  have g1 := S1.N _ (List.mem_append_left _ (List.mem_of_getElem? e1))
  have gS := S1.N _ (List.mem_append_left _ (List.mem_of_getElem? eS))
  refine hQ h' tk mloc ps ps' ⟨S1.F.ns, fun b o e => ?_, F.above⟩ fun q hq => ?_
  · by_cases hb : b = S
    · subst hb; rw [hS] at e; cases e; exact gS.1
    · exact S1.F.keep b o (hide_get e hb)
  · simp only [List.mem_cons, List.not_mem_nil, or_false] at hq
    rcases hq with rfl | rfl
    · exact ⟨g0.1, g0.2.1, (N (247, tabObj #[]) (by simp)).2.2⟩
    · exact ⟨g1.1, g1.2.1, (N (242, tabObj #[]) (by simp)).2.2⟩
end Mine
end

end
open PySem PySem.W PySem.Calls PyProof.Rows
namespace Mine
theorem walks : PySem.Challenge.rw_nz0564_01.Holds := Mine.hd (by
  k_go0
  all_goals (
    refine' law_end ?F ?N ?X ?T ?B ?Ls ?hI ?hm ?hk ?hlen ?hs ?hQ
    case F => k_asm
    case N => k_asm
    case X => k_asm
    case T => k_asm
    case B => k_asm
    case Ls => k_asm
    case hI => k_asm
    case hm => exact rfl
    case hk => exact rfl
    case hlen => omega
    case hs =>
      intro g' oS
      have lv : Nat := 0
      exact (S_cons (X_assign (E_call (N_glob (globEnv rfl) (kfacts _).gf__law_box rfl) (kfacts _).kp__law_box (L_cons (E_loc rfl rfl) L_nil) (F207 (lv := 0 + 6))) rfl) (fun v_box_1 => (S_cons (X_assign (E_call (N_glob (globEnv rfl) (kfacts _).gf_Disk rfl) (kfacts _).kp_Disk (L_cons (E_bin E_int (E_call (N_glob (globEnv rfl) (kfacts _).gf__law_take rfl) (kfacts _).kp__law_take (L_cons (E_loc rfl rfl) (L_cons E_int L_nil)) (F202 (lv := 0 + 6)))) (L_cons E_int (L_cons (E_sub (E_ints (L_cons E_int (L_cons E_int L_nil))) (E_call (N_glob (globEnv rfl) (kfacts _).gf__law_take rfl) (kfacts _).kp__law_take (L_cons (E_loc rfl rfl) (L_cons E_int L_nil)) (F202 (lv := 0 + 6)))) (L_cons E_int L_nil)))) (F53 (lv := 0 + 6))) rfl) (fun v_disk_2 => (S_cons (X_assign (E_call (N_glob (globEnv rfl) (kfacts _).gf_Disk rfl) (kfacts _).kp_Disk (L_cons (E_bin E_int (E_call (N_glob (globEnv rfl) (kfacts _).gf__law_take rfl) (kfacts _).kp__law_take (L_cons (E_loc rfl rfl) (L_cons E_int L_nil)) (F202 (lv := 0 + 6)))) (L_cons E_int (L_cons E_int (L_cons E_int L_nil)))) (F53 (lv := 0 + 6))) rfl) (fun v_wide_3 => (S_if (B_or (B_cmp (E_ints (L_cons (E_call (N_glob (globEnv rfl) (kfacts _).gf_map_slots rfl) (kfacts _).kp_map_slots (L_cons (E_loc rfl rfl) L_nil) (F85 (lv := 0 + 6))) (L_cons (E_call (N_glob (globEnv rfl) (kfacts _).gf_map_slots rfl) (kfacts _).kp_map_slots (L_cons (E_loc rfl rfl) L_nil) (F85 (lv := 0 + 6))) L_nil))) (E_ints (L_cons E_int (L_cons E_int L_nil))) rfl) (B_cmp (E_call (N_glob (globEnv rfl) (kfacts _).gf_records_of_extent rfl) (kfacts _).kp_records_of_extent (L_cons (E_loc rfl rfl) L_nil) (F99 (lv := 0 + 5))) (E_bin (E_bin E_int E_int) (E_attrN 53 (E_loc rfl rfl) (kfacts _).at_53_record)) rfl)) (S_ret E_bool) S_nil (S_if (B_or (B_cmp (E_call (N_glob (globEnv rfl) (kfacts _).gf_records_of_extent rfl) (kfacts _).kp_records_of_extent (L_cons (E_loc rfl rfl) L_nil) (F99 (lv := 0 + 5))) E_int rfl) (B_cmp (E_call (N_glob (globEnv rfl) (kfacts _).gf_records_of_extent rfl) (kfacts _).kp_records_of_extent (L_cons (E_call (N_glob (globEnv rfl) (kfacts _).gf_Disk rfl) (kfacts _).kp_Disk (L_cons E_int (L_cons E_int (L_cons E_int (L_cons E_int L_nil)))) (F53 (lv := 0 + 6))) L_nil) (F99 (lv := 0 + 5))) E_int rfl)) (S_ret E_bool) S_nil (S_forTup (L_cons (E_loc rfl rfl) (L_cons (E_loc rfl rfl) L_nil)) rfl (fun own frz v_one_4 => (S_if (B_not (B_val (E_call (N_glob (globEnv rfl) (kfacts _).gf__law_entries_right rfl) (kfacts _).kp__law_entries_right (L_cons (E_loc rfl rfl) (L_cons (E_loc rfl rfl) L_nil)) (F240 (lv := 0 + 2))))) (S_ret E_bool) S_nil (S_nil (rset_weak rfl)))) (S_ret (E_and (E_call (N_glob (globEnv rfl) (kfacts _).gf__law_records_right rfl) (kfacts _).kp__law_records_right (L_cons (E_loc rfl rfl) (L_cons (E_loc rfl rfl) L_nil)) (F245 (lv := 0) rfl rfl)) (E_call (N_glob (globEnv rfl) (kfacts _).gf__law_closed_right rfl) (kfacts _).kp__law_closed_right (L_cons (E_loc rfl rfl) (L_cons (E_loc rfl rfl) L_nil)) (F252 (lv := 0) rfl rfl)))))))))))))
    case hQ =>
      intro h' tk m' ps ps' F9 N9
      dsimp only
      first | (k_end; wrow_close; done) | (k_steps; done)))
end Mine
theorem PySem.Challenge.cw_nz0564_01_holds : PySem.Challenge.rw_nz0564_01.Holds :=
  Mine.walks
