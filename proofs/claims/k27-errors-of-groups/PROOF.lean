import PyProof.Rows.All
import Wide.All
import OpenK.AllK
import Wide.FinOn
import PySem.Challenge.RW_leafwide_k27_errors_of_groups
import HandS.TupSets
import HandS.Zip
import HandS.ExcIs
import HandS.ExcValue
import HandS.IsInst
import HandS.ForMost
import HandS.Deep
import HandS.SetFor
import PyProof.P3In
import HandS.DictComp
import HandS.Words
import HandS.WordsDict
import KE.KeyNested
import KE.KDictKeyed
import KE.GoesMore
import KE.GoesEnum
import KE.SortData
import HandS.SortInts
import HandS.TupLen
import HandS.WrittenGet
import HandS.HeadHook3
import HandS.Exc
import HandS.ExcOwn
import HandS.WordsExc
import HandS.TryMany
import HandS.Flow
import HandS.Style
import HandS.Wide
import HandS.WideBits
import HandS.RevRange
import HandS.Conv
import HandS.RaiseMore
import HandS.TupAny
import HandS.TupMul
import HandS.Defaults
import HandS.CallSlots
import HandS.Lambda
import HandS.HeadHook1
import HandS.HeadHook2
import HandS.HeadHook4
import HandS.Rev
import HandS.Text
import HandS.NoneIn
import KE.KUnpackStar
import PyProof.StrBlock2
import PyProof.Rows.StrMul
import PyProof.ReprRoads
import PyProof.Transfer
import KE.KDictSum
import KE.KDictCopyH
import HandS.More
import HandS.Iter
import HandS.Sort
import HandS.Star
import KE.KDictDisplayH
import HandS.Head0
import HandS.Head1
import HandS.Head2
import HandS.HeadEnd
import HandS.EndBits
import KE.KIntText
import KE.IntBitsLaws
import PyProof.Rows.StrIntSpec
set_option Elab.async false
set_option linter.all false
set_option maxRecDepth 100000
set_option maxHeartbeats 0
/-! Ev, part Zs: set(xs), xs a list or a tuple of tuples of ints; how many it has. -/
namespace EvZs
open PySem PySem.Spec PyProof.Rows L2
theorem tup_no_set : isSubtype (.type "tuple") (.type "set") = pure false := by rw [isSubtype_type]; kernel_rfl
theorem tup_no_frz : isSubtype (.type "tuple") (.type "frozenset") = pure false := by rw [isSubtype_type]; kernel_rfl
abbrev newSet (w : World) : Obj := { cls := .type "set", dict := none, data := .set #[] 0 (.fresh 0 0 (!w.params.followText "set-order")) }
section
variable {P : Program} {w : World} {A : Around} {E : Value → Shared → Prop} {s : Shared}
/-- the loop that fills the new set, from a tuple -/
theorem fillT {l : Addr} {items : Array Value} (ks : List (Addr × List Int)) {R : Result → Shared → Prop} (hh : A.handled = none) (hl : s.heap.IsTuple l items) (hit : items.toList = ks.map fun p => Value.ref p.1)
    (hk : ∀ p ∈ ks, IsT P w s.heap p.2 p.1) (hfew : ks.length < 64) (hu : A.in1.units < cLine)
    (h : ∀ (h' : Heap) (tk : Nat) L es ep t, SetTR P w h' s.heap.objs.size L es ep t → Got ks ks.length L → (∀ b o, s.heap.get? b = some o → h'.get? b = some o) → R (.ok (.ret .none)) { s with heap := h', toks := tk }) :
    codeAny (model P w) A (.builtin "set.update.loop" ⟨[.ref s.heap.objs.size, .ref (s.heap.push (newSet w)).objs.size], []⟩) R
      { s with heap := (s.heap.push (newSet w)).push { cls := .type "tuple_iterator", data := .fields #[.ref l, .int 0 0] } } := by
  have hisz : items.size = ks.length := by
    rw [← Array.length_toList, hit, List.length_map]
  obtain ⟨ol, hol, hrest⟩ := id hl
  have hlS : l < s.heap.objs.size := Heap.lt_size hol
  have hS : (s.heap.push (newSet w)).get? s.heap.objs.size = some (newSet w) := Heap.get?_push_size _ rfl
  have hl1 : (s.heap.push (newSet w)).IsTuple l items := hl.push _
  have hneI : l ≠ (s.heap.push (newSet w)).objs.size := by
    rw [Heap.size_push]; exact Nat.ne_of_lt (Nat.lt_succ_of_lt hlS)
  have hSf : s.heap.objs.size ∉ [(s.heap.push (newSet w)).objs.size, l] := by
    rw [Heap.size_push]
    simp only [List.mem_cons, List.not_mem_nil, or_false, not_or]
    exact ⟨Nat.ne_of_lt (Nat.lt_succ_self _), Nat.ne_of_gt hlS⟩
  have hval : ∀ (i : Nat) (v : Value), items[i]? = some v → ∃ p, ks[i]? = some p ∧ v = .ref p.1 := fun i v hv => by
    have q : items.toList[i]? = some v := by rw [Array.getElem?_toList]; exact hv
    rw [hit, List.getElem?_map] at q
    cases hq : ks[i]? with
    | none => rw [hq] at q; cases q
    | some p => rw [hq] at q; exact ⟨p, rfl, (Option.some.inj q).symm⟩
  have none_of : ∀ b, s.heap.objs.size ≤ b → s.heap.get? b = none := fun b hb => by
    cases q : s.heap.get? b with
    | none => rfl
    | some o => exact absurd (Nat.lt_of_lt_of_le (Heap.lt_size q) hb) (Nat.lt_irrefl _)
  refine set_update_tups ((Walks.tuple (by simpa using hh) _ l hneI items).toS) s.heap.objs.size
    hSf ks hisz hfew hval s.heap hk (none_of _ (Nat.le_refl _)) (fun b hb => none_of b (by
      rw [List.mem_singleton.mp hb, Heap.size_push]
      exact Nat.le_succ _)) hu (items.size - 0) 0 _ (by omega) (Nat.zero_le _)
    ⟨⟨_, Heap.get?_push_size _ rfl, rfl, rfl⟩, (hl1.push _)⟩ (fun b o e => Heap.get?_push_of_some _ (Heap.get?_push_of_some _ e)) ?_ ?_
  · exact ⟨[], #[], 0, _, setTR_fresh (Heap.get?_push_of_some _ hS), Got.zero ks⟩
  · intro s' L es ep t hm hS' g' hkp
    obtain ⟨h', g2, d', tk', os'⟩ := s'
    have eg : g2 = s.gens := hm.gens
    have ed : d' = s.drawn := hm.drawn
    have eo : os' = s.os := hm.os
    subst eg; subst ed; subst eo
    rw [hisz] at g'
    exact h h' tk' L es ep t hS' g' hkp
/-- set(xs), xs a tuple -/
theorem setT {l : Addr} {items : Array Value} (ks : List (Addr × List Int)) {Q : Value → Shared → Prop} (hh : A.handled = none) (hl : s.heap.IsTuple l items) (hit : items.toList = ks.map fun p => Value.ref p.1)
    (hk : ∀ p ∈ ks, IsT P w s.heap p.2 p.1) (hfew : ks.length < 64) (hu : A.units + 64 < cLine)
    (h : ∀ (h' : Heap) (tk : Nat) L es ep t, SetTR P w h' s.heap.objs.size L es ep t → Got ks ks.length L → (∀ b o, s.heap.get? b = some o → h'.get? b = some o) → Q (.ref s.heap.objs.size) { s with heap := h', toks := tk }) :
    wpAny (model P w) A (call (.type "set") [.ref l]) Q E s := by
  obtain ⟨c, tl, hmro⟩ := F.called_set.mro
  have hmade := F.called_set.made
  have hsub := F.called_set.sub
  refine wpAny_call (codeAny_of_tree ?_)
  show wpAny _ _ (callAny (.type "set") _) _ _ _
  refine wpAny_pure ⟨Code.quiet_builtin _ (by decide +kernel), codeAny_builtin F.entry_type_call ?_⟩
  rw [Around.under_plain (weight_type_call_type "set" [.ref l] []) rfl]
  have h1 := F.called_set.notType
  have h2 := F.called_set.canCreate
  have hct := F.typeCall_set_1 (.ref l)
  repeat (any_goals (first | assumption | wp_step))
  refine codeAny_mono (code_set_led1 (.ref l) (E := E) (Q₁ := fun obj s₁ => obj = .ref s.heap.objs.size ∧ s₁ = { s with heap := s.heap.push (newSet w) }) ⟨rfl, rfl⟩) fun r s₁ hr => ?_
  cases r with
  | error e => exact hr
  | ok fl =>
    cases fl with
    | ret obj =>
      obtain ⟨rfl, rfl⟩ := hr
      have hS : (s.heap.push (newSet w)).get? s.heap.objs.size = some (newSet w) := Heap.get?_push_size _ rfl
      have hT : Shared.TypeIs { s with heap := s.heap.push (newSet w) } (.ref s.heap.objs.size) "set" := ⟨_, hS, rfl⟩
      have hli := F.called_set.init.lookup
      have hbi := F.called_set.init.bind (.ref s.heap.objs.size)
      repeat (any_goals (first | assumption | wp_step))
      refine codeAny_mono (codeAny_call_builtin (R := wants (fun r s₂ => r = .none ∧ ∃ h' tk L es ep t, s₂ = { s with heap := h', toks := tk } ∧ SetTR P w h' s.heap.objs.size L es ep t ∧ Got ks ks.length L ∧
          (∀ b o, s.heap.get? b = some o → h'.get? b = some o)) E) F.called_set.init.plain F.entry_set_init (check_set_init_1 hT ?_)) fun r₂ s₂ hr₂ => ?_
      · obtain ⟨ol, hol, hcl, nl, hdl⟩ := id hl
        obtain ⟨ocls, odict, odata, oslots⟩ := ol
        simp only at hcl hdl
        subst hcl; subst hdl
        have hol' : (s.heap.push (newSet w)).get? l = some { cls := .type "tuple", dict := odict, data := .seq items nl, slots := oslots } := Heap.get?_push_of_some _ hol
        have hsls := tup_no_set
        have hslf := tup_no_frz
        have hne : (Value.type "tuple" == Value.type "dict") = false := by decide
        have hl1 : (s.heap.push (newSet w)).IsTuple l items := ⟨_, hol', rfl, nl, rfl⟩
        unfold Builtin.«set.__init__» noKeywords Builtin.Frozenset.updateFrom
        generalize hPI : pyIter = PI
        wp_walk
        subst hPI
        refine wpAny_pyIter_tuple hl1 ?_
        refine wpAny_bind (wpAny_runValue ?_)
        refine fillT ks (by simp [hh]) hl hit hk hfew ?_ fun h' tk L es ep t a1 a2 a3 => ?_
        · first
            | (show A.units + 3 < cLine; omega)
            | (show A.units + 4 < cLine; omega)
            | (show A.units + 2 < cLine; omega)
            | (show A.units + 5 < cLine; omega)
        · show wpAny _ _ _ _ _ _
          refine wpAny_pure ?_
          show wpAny _ _ (ret Value.none) _ _ _
          exact wpAny_pure ⟨rfl, h', tk, L, es, ep, t, rfl, a1, a2, a3⟩
      · cases r₂ with
        | error e => exact hr₂
        | ok fl₂ =>
          cases fl₂ with
          | ret r =>
            obtain ⟨rfl, h', tk, L, es, ep, t, rfl, hS', g', hk'⟩ := hr₂
            repeat (any_goals (first | assumption | wp_step))
            exact h _ _ _ _ _ _ hS' g' hk'
          | _ => exact hr₂.elim
    | _ => exact hr.elim
end
end EvZs
/-! Ev, part Zt: how many a set of ints' tuples has. -/
namespace EvZs
open PySem PySem.Spec PyProof.Rows L2
section
variable {P : Program} {w : World}
/-- a set whose members are so many -/
def SetN (a : Addr) (n : Nat) : HO := .ext fun h => ∃ (o : Obj) (es : Array (Int × Value)) (ep : Nat) (t : SetTable), h.get? a = some o ∧ o.ExactSet ∧ o.data = .set es ep t ∧ t.fits es.size = true ∧ es.size = n ∧ n < 64
theorem setN_ok {H : Hp} {s : Shared} {a : Addr} {L : List (Addr × List Int)} {es : Array (Int × Value)} {ep : Nat} {t : SetTable} (R : SetTR P w s.heap a L es ep t) : ObjOk P w H s.heap a (SetN a L.length) := by
  obtain ⟨o, ho, hex, hd⟩ := R.ob
  have hz : es.size = L.length := by
    have := congrArg List.length R.rows
    rw [Array.length_toList] at this
    rw [this]
    unfold rowsOf
    exact List.length_map ..
  refine ⟨⟨o, es, ep, t, ho, hex, hd, R.fits, hz, R.few⟩, ⟨o, ho⟩, fun h1 h2 p k => ?_⟩
  obtain ⟨o', es', ep', t', ho', r'⟩ := p
  exact ⟨o', es', ep', t', k o' ho', r'⟩
end
/-- how many unlike ones -/
def dN : List (List Int) → Nat
  | [] => 0
  | k :: r => if r.contains k then dN r else dN r + 1
theorem len_dN : ∀ {ks l : List (List Int)}, l.Nodup → (∀ x, x ∈ l ↔ x ∈ ks) → l.length = dN ks
  | [], l, _, h => by
    cases l with
    | nil => rfl
    | cons a r => exact absurd ((h a).mp List.mem_cons_self) (by simp)
  | k :: r, l, nd, h => by
    unfold dN
    by_cases hc : k ∈ r
    · rw [if_pos (by simpa using hc)]
      refine len_dN nd fun x => ?_
      rw [h x, List.mem_cons]
      exact ⟨fun z => z.elim (fun e => e ▸ hc) _root_.id, .inr⟩
    · rw [if_neg (by simpa using hc)]
      have hm : k ∈ l := (h k).mpr List.mem_cons_self
      have := len_dN (ks := r) (nd.erase k) fun x => by
        rw [nd.mem_erase_iff, h x, List.mem_cons]
        constructor
        · rintro ⟨h1, h2 | h2⟩
          · exact absurd h2 h1
          · exact h2
        · intro hx
          exact ⟨fun e => hc (e ▸ hx), .inr hx⟩
      rw [← this, List.length_erase_of_mem hm]
      have : 0 < l.length := List.length_pos_of_mem hm
      omega
section
variable {X : Cx}
/-- set(xs) of a list or a tuple, of ints' tuples -/
theorem cr_setN (hc : X.calm = true) (hu : X.A.units + 100 < cLine) : CallR X (.type "set") (fun xs H Q => ∃ (l : Addr) (ks : List (Addr × List Int)), xs = [V.ref l] ∧ (SqL X.K H l (ks.map fun p => V.ref p.1) ∨ SqT X.K H l (ks.map fun p => V.ref p.1)) ∧ (∀ p ∈ ks, SqT X.K H p.1 (p.2.map V.int)) ∧ ks.length < 64 ∧
    ∀ a, H a = none → Q (.ref a) (upd H a (SetN a (dN (ks.map (·.2)))))) := by
  intro pins s σ H xs us Q I r h
  obtain ⟨l, ks, rfl, hl, hk, hf, q⟩ := h
  rw [Vals.ref1 r]
  have hn : H s.heap.objs.size = none := I.hok.fresh (Nat.le_refl _)
  have fin : ∀ (h' : Heap) (tk : Nat) L es ep t, SetTR X.prog X.w h' s.heap.objs.size L es ep t → Got ks ks.length L → (∀ b o, s.heap.get? b = some o → h'.get? b = some o) → EP X pins σ Q (.ref s.heap.objs.size) { s with heap := h', toks := tk } := by
    intro h' tk L es ep t R g k
    have e : L.length = dN (ks.map (·.2)) := by
      rw [← List.length_map (f := (·.2))]
      refine len_dN R.nd fun x => ⟨fun hx => ?_, fun hx => ?_⟩
      · obtain ⟨p, hp, e⟩ := List.mem_map.mp hx
        exact List.mem_map.mpr ⟨p, List.mem_of_mem_take (g.sub p hp), e⟩
      · obtain ⟨p, hp, e⟩ := List.mem_map.mp hx
        rw [← e]
        exact g.all p (by rw [List.take_length]; exact hp)
    have ok := fun H' => setN_ok (s := { s with heap := h' }) (H := H') R
    rw [e] at ok
    exact ⟨.ref s.heap.objs.size, upd H s.heap.objs.size _, I.laid (t' := tk) k (Nat.le_refl _) (ok _), rfl, q _ hn⟩
  rcases hl with hl | hl
  · obtain ⟨its, rv, pl, hz⟩ := I.list hl
    exact call_set_tups (P := X.prog) (w := X.w) ks (I.ok.hd hc) pl.isList (by simpa using refs_of_vals rv) (fun p hp => I.isT (hk p hp)) hf (by omega) fin
  · obtain ⟨its, rv, pl, hz⟩ := I.tuple hl
    exact setT (P := X.prog) (w := X.w) ks (I.ok.hd hc) pl (by simpa using refs_of_vals rv) (fun p hp => I.isT (hk p hp)) hf (by omega) fin
/-- len of it -/
theorem cr_lenN : CallR X (.builtin "len") (fun xs H Q => ∃ (a : Addr) (n : Nat), xs = [V.ref a] ∧ H a = some (SetN a n) ∧ Q (.int n) H) := by
  intro pins s σ H xs us Q I r h
  obtain ⟨a, n, rfl, hn, q⟩ := h
  rw [Vals.ref1 r]
  obtain ⟨o, es, ep, t, ho, hex, hd, hf, e1, e2⟩ := (I.hok a _ hn).1
  exact call_len_set ho hex hd hf (by omega) ⟨.int n, H, I.tok _, ⟨_, by rw [e1]⟩, q⟩
end
end EvZs
/-! Ev, part Zu: an error that is kept, and isinstance of it. -/
namespace EvZe
open PySem PySem.Spec PyProof.Rows L2
/-- at a an error of the class at D -/
def ErrO (D : Addr) (a : Addr) : HO := .ext fun h => ∃ (oe : Obj) (vs : Array Value), h.get? a = some oe ∧ Zc (.ref D) none oe ∧ oe.data = .fields vs
theorem errO_ok {P : Program} {w : World} {H : Hp} {h : Heap} {a D : Addr} {oe : Obj} {vs : Array Value} (e : h.get? a = some oe) (z : Zc (.ref D) none oe) (d : oe.data = .fields vs) : ObjOk P w H h a (ErrO D a) :=
  ⟨⟨oe, vs, e, z, d⟩, ⟨oe, e⟩, fun _ _ ⟨o, v, q, r⟩ k => ⟨o, v, k o q, r⟩⟩
section
variable {X : Cx} {pins : List (Addr × Obj)} {σ : L2.St} {H : Hp} {s : Shared}
theorem errO_at {D a : Addr} (I : Inv X pins σ H s) (h : H a = some (ErrO D a)) : ∃ oe, PySem.W.InstAt s.heap a oe D none := by
  obtain ⟨oe, vs, e, z, d⟩ := (I.hok a _ h).1
  refine ⟨oe, ?_⟩
  obtain ⟨oc, od, oda, osl⟩ := oe
  obtain ⟨h1, h2⟩ := z
  dsimp only at h1 h2 d
  subst h1 h2 d
  exact ⟨e, rfl, rfl, trivial⟩
theorem kitE {D a : Addr} {oe : Obj} (C : ExcC X.K D) : PySem.W.KitX X.K (.ref a) (.ref D) (fun h => PySem.W.InstAt h a oe D none) :=
  PySem.W.handS_kitx_exc C.hg C.hk C.hs C.hd C.ha C.hn C.ht C.hm
/-- isinstance(caught, C) -/
theorem call_isErr : CallR X (.builtin "isinstance") (fun xs H Q => ∃ (a D : Addr) (c : V) (u : Value) (b : Bool), xs = [.ref a, c] ∧ H a = some (ErrO D a) ∧ ExcC X.K D ∧ ClsV c u ∧ PySem.W.kitOne X.K (.ref D) u = some b ∧ Q (.bl b) H) := by
  intro pins s σ H xs us Q I r h
  obtain ⟨a, D, c, u, b, rfl, ha, C, k, e, q⟩ := h
  obtain ⟨u1, u2, rfl, r1, r2⟩ := vals2 r
  cases (show u1 = Value.ref a from r1)
  have e2 := k.eq r2
  subst e2
  obtain ⟨oe, J⟩ := errO_at I ha
  exact PySem.W.kia_one (kitE C) I.kIn J e (fun z => nomatch z) fun tk => ⟨.bl b, H, I.tok tk, rfl, q⟩
/-- isinstance(caught, (C, ..)) -/
theorem call_isErrT : CallR X (.builtin "isinstance") (fun xs H Q => ∃ (a D tp : Addr) (cs : List V) (us : List Value) (b : Bool), xs = [.ref a, .ref tp] ∧ H a = some (ErrO D a) ∧ ExcC X.K D ∧ H tp = some (.tup cs) ∧ Paired ClsV cs us ∧ PySem.W.kitAny X.K (.ref D) us = some b ∧ Q (.bl b) H) := by
  intro pins s σ H xs us Q I r h
  obtain ⟨a, D, tp, cs, ws, b, rfl, ha, C, hT, k, e, q⟩ := h
  obtain ⟨u1, u2, rfl, r1, r2⟩ := vals2 r
  cases (show u1 = Value.ref a from r1)
  cases (show u2 = Value.ref tp from r2)
  obtain ⟨oe, J⟩ := errO_at I ha
  obtain ⟨_, its, rv, o, h1, h2, n, h3⟩ := (show ObjOk X.prog X.w H s.heap tp (.tup cs) from I.hok tp _ hT)
  have e3 := ClsV.all k rv
  subst e3
  obtain ⟨oc, od, dt, sl⟩ := o
  simp only at h2 h3
  subst h2 h3
  exact PySem.W.kia_tup (kitE C) I.kIn J h1 e (fun z => nomatch z) fun tk => ⟨.bl b, H, I.tok tk, rfl, q⟩
end
end EvZe
/-! Ev, part Zv: l.count(x) of items of any data. -/
namespace EvZv
open PySem PySem.Spec PyProof.Rows L2
section
variable {X : Cx}
def rCountD (K : PySem.W.Frag) : V → List V → Hp → VK → Prop := fun x xs H Q => ∃ (a : Addr) (y : V) (d : PyData) (ds : List PyData), x = V.ref a ∧ xs = [y] ∧ Dp K H (V.ref a) (.list ds) ∧ Dp K H y d ∧
  SeqAt.shaped (.list ds) = true ∧ SeqAt.shaped d = true ∧ Q (.int (ds.countP fun z => PyData.eqv z d : Nat)) H
theorem mt_countD (hu : X.A.units + 65 < cLine) : MtR X "list.count" (rCountD X.K) := by
  intro pins s σ H x xs v us Q I rx rxs h
  obtain ⟨a, y, d, ds, rfl, rfl, hl, hy, sl, sd, q⟩ := h
  cases rx
  cases rxs with
  | cons ry rt =>
    rename_i uy ut
    cases rt
    obtain ⟨bs, r1⟩ := Dp.reads I d y uy hy ry
    have hxs : PyData.canLayAll0 ds = true := SeqAt.canLay_of_shaped sl
    have hroom : X.A.units + 1 + min (PyData.depthAll ds) d.depth < cLine := room_in_shaped sd hu
    cases hl with
    | lst hs ha =>
      obtain ⟨its, rv, ⟨⟨cls, dd, data, sls⟩, n, ho, hc, hdn, hdt⟩, hlen⟩ := I.list hs
      simp only at hc hdt
      subst hc hdt
      obtain ⟨as, h4⟩ := Dp.readsAll I ds _ its ha rv
      have hmap : its.map (SeqAt.readOf s.heap) = ds := SeqAt.readsAll_map ds its as hxs h4
      refine call_meets PySem.F.slot_list_count ⟨_, ho, rfl⟩ PySem.F.entry_list_count (PySem.F.args_list_count_2 _ _)
        (SeqAt.list_countAt a its.toArray n dd sls uy (fun u => PyData.eqv (SeqAt.readOf s.heap u) d)) ⟨ho, SeqAt.items_eqAt (vs := its.toArray) (show ReadsAll s.heap its.toArray.toList ds as from h4) r1 hxs (SeqAt.canLay_of_shaped sd) hroom, ?_⟩
      have ec : its.toArray.toList.countP (fun u => PyData.eqv (SeqAt.readOf s.heap u) d) = ds.countP fun z => PyData.eqv z d := by
        rw [← hmap, List.countP_map]
        rfl
      refine ⟨.int (ds.countP fun z => PyData.eqv z d : Nat), H, I.tok _, ⟨s.toks, ?_⟩, q⟩
      show Value.int ((its.toArray.toList.countP (fun u => PyData.eqv (SeqAt.readOf s.heap u) d) : Nat) : Int) s.toks = _
      rw [ec]
/-- x in a tuple: items of any data -/
def rInT (K : PySem.W.Frag) : R2 := fun x y H Q => ∃ d ds, Dp K H x d ∧ Dp K H y (.tuple ds) ∧ SeqAt.shaped d = true ∧ SeqAt.shaped (.tuple ds) = true ∧ Q (.bl (ds.any fun z => PyData.eqv z d)) H
def rNotInT (K : PySem.W.Frag) : R2 := fun x y H Q => ∃ d ds, Dp K H x d ∧ Dp K H y (.tuple ds) ∧ SeqAt.shaped d = true ∧ SeqAt.shaped (.tuple ds) = true ∧ Q (.bl (!(ds.any fun z => PyData.eqv z d))) H
theorem op_inT (hu : X.A.units + 65 < cLine) : OpR X (compareOp .In) (rInT X.K) := by
  intro pins s σ H x y v u Q I rx ry h
  obtain ⟨d, ds, hd, he, sd, se, q⟩ := h
  obtain ⟨as, r1⟩ := Dp.reads I d x v hd rx
  obtain ⟨bs, r2⟩ := Dp.reads I (.tuple ds) y u he ry
  exact SeqAt.in_tuple_reads r2 r1 (SeqAt.canLay_of_shaped se) (SeqAt.canLay_of_shaped sd) (room_in_shaped sd hu) ⟨.bl _, H, I, rfl, q⟩
theorem op_notInT (hu : X.A.units + 65 < cLine) : OpR X (compareOp .NotIn) (rNotInT X.K) := by
  intro pins s σ H x y v u Q I rx ry h
  obtain ⟨d, ds, hd, he, sd, se, q⟩ := h
  obtain ⟨as, r1⟩ := Dp.reads I d x v hd rx
  obtain ⟨bs, r2⟩ := Dp.reads I (.tuple ds) y u he ry
  exact SeqAt.notIn_tuple_reads r2 r1 (SeqAt.canLay_of_shaped se) (SeqAt.canLay_of_shaped sd) (room_in_shaped sd hu) ⟨.bl _, H, I, rfl, q⟩
end
end EvZv
/-! Ev, part Nd: dicts whose keys are nested tuples of whole numbers. -/
namespace EvNd
open PySem PySem.Spec PyProof.Rows L2
mutual
/-- without texts: the hash does not ask the world -/
def free : NestedKey → Bool
  | .none => true
  | .num _ => true
  | .text _ => false
  | .tup ks => frees ks
def frees : List NestedKey → Bool
  | [] => true
  | k :: ks => free k && frees ks
end
mutual
theorem hash_free (w w' : World) : ∀ k : NestedKey, free k = true → k.hash w = k.hash w'
  | .none, _ => rfl
  | .num _, _ => rfl
  | .text _, h => by cases h
  | .tup ks, h => by
    have h' : frees ks = true := h
    rw [NestedKey.hash, NestedKey.hash, hashes_free w w' ks h']
theorem hashes_free (w w' : World) : ∀ ks : List NestedKey, frees ks = true → NestedKey.hashes w ks = NestedKey.hashes w' ks
  | [], _ => rfl
  | k :: ks, h => by
    have h' : (free k && frees ks) = true := h
    rw [Bool.and_eq_true] at h'
    rw [NestedKey.hashes, NestedKey.hashes, hash_free w w' k h'.1, hashes_free w w' ks h'.2]
end
mutual
/-- the value v is the key k -/
inductive NV (K : PySem.W.Frag) (H : Hp) : NestedKey → V → Prop
  | none : NV K H .none .non
  | int (i : Int) : NV K H (.num i) (.int i)
  | tup {b : Addr} {vs : List V} {ks : List NestedKey} : SqT K H b vs → NVs K H ks vs → NV K H (.tup ks) (.ref b)
inductive NVs (K : PySem.W.Frag) (H : Hp) : List NestedKey → List V → Prop
  | nil : NVs K H [] []
  | cons {k : NestedKey} {v : V} {ks : List NestedKey} {vs : List V} : NV K H k v → NVs K H ks vs → NVs K H (k :: ks) (v :: vs)
end
section
variable {X : Cx} {pins : List (Addr × Obj)} {σ : L2.St} {H : Hp} {s : Shared}
mutual
theorem NV.is (I : Inv X pins σ H s) : ∀ {k : NestedKey} {v : V} {u : Value}, NV X.K H k v → RelV v u → NestedIs s.heap k u
  | _, _, _, .none, r => by cases (show _ = Value.none from r); exact .none
  | _, _, _, .int i, r => by obtain ⟨t, e⟩ := (show ∃ t, _ = Value.int i t from r); subst e; exact .int i t
  | _, _, _, .tup (b := b) h hs, r => by
    cases (show _ = Value.ref b from r)
    obtain ⟨its, rv, ⟨o, h1, h2, n, h3⟩, hz⟩ := I.tuple h
    exact .tup h1 h2 h3 (by simpa using NVs.is I hs rv)
theorem NVs.is (I : Inv X pins σ H s) : ∀ {ks : List NestedKey} {vs : List V} {us : List Value}, NVs X.K H ks vs → Vals vs us → NestedAll s.heap ks us
  | _, _, _, .nil, r => by cases r; exact .nil
  | _, _, _, .cons h hs, r => by
    cases r with
    | cons r1 r2 => exact .cons (NV.is I h r1) (NVs.is I hs r2)
end
end
mutual
theorem NV.free {K : PySem.W.Frag} {H : Hp} : ∀ {k : NestedKey} {v : V}, NV K H k v → free k = true
  | _, _, .none => rfl
  | _, _, .int _ => rfl
  | _, _, .tup _ hs => NVs.free hs
theorem NVs.free {K : PySem.W.Frag} {H : Hp} : ∀ {ks : List NestedKey} {vs : List V}, NVs K H ks vs → frees ks = true
  | _, _, .nil => rfl
  | _, _, .cons h hs => by show (EvNd.free _ && frees _) = true; rw [NV.free h, NVs.free hs]; rfl
end
mutual
theorem NV.mono {K : PySem.W.Frag} {H H' : Hp} (m : ∀ a vs, SqT K H a vs → SqT K H' a vs) : ∀ {k : NestedKey} {v : V}, NV K H k v → NV K H' k v
  | _, _, .none => .none
  | _, _, .int i => .int i
  | _, _, .tup h hs => .tup (m _ _ h) (NVs.mono m hs)
theorem NVs.mono {K : PySem.W.Frag} {H H' : Hp} (m : ∀ a vs, SqT K H a vs → SqT K H' a vs) : ∀ {ks : List NestedKey} {vs : List V}, NVs K H ks vs → NVs K H' ks vs
  | _, _, .nil => .nil
  | _, _, .cons h hs => .cons (NV.mono m h) (NVs.mono m hs)
end
abbrev NKv := List (NestedKey × Addr × V)
/-- the entries as the heap has them -/
abbrev NP : NKv → List (NestedKey × Addr × Value) → Prop := Paired fun p q => p.1 = q.1 ∧ p.2.1 = q.2.1 ∧ RelV p.2.2 q.2.2
def ndE (w : World) (x : NestedKey × Addr × Value) : DictEntry := ⟨x.1.hash w, .ref x.2.1, x.2.2⟩
/-- the dict that stands at a -/
def NDat (a : Addr) (kvs : NKv) (h : Heap) : Prop := (a == sysModules) = false ∧ kvs.length ≤ sizeLine ∧ ∃ (o : Obj) (es : Array DictEntry) (ep : Nat) (xs : List (NestedKey × Addr × Value)),
  h.get? a = some o ∧ o.ExactDict ∧ o.data = .dict es ep ∧ NP kvs xs ∧ (∀ w, es.toList = xs.map (ndE w)) ∧ (xs.map (·.1)).Nodup
def ND (a : Addr) (kvs : NKv) : HO := .ext (NDat a kvs)
def valN (kvs : NKv) (k : NestedKey) : Option V := (kvs.find? fun x => decide (x.1 = k)).map (·.2.2)
def putN (kvs : NKv) (k : NestedKey) (b : Addr) (v : V) : NKv :=
  if (kvs.any fun x => decide (x.1 = k)) = true then kvs.map (fun x => if x.1 = k then (x.1, x.2.1, v) else x) else kvs ++ [(k, b, v)]
theorem putN_len (kvs : NKv) (k : NestedKey) (b : Addr) (v : V) : (putN kvs k b v).length ≤ kvs.length + 1 := by
  unfold putN
  split
  · rw [List.length_map]; omega
  · rw [List.length_append, List.length_cons, List.length_nil]; omega
theorem NP.val {kvs : NKv} {xs : List (NestedKey × Addr × Value)} (r : NP kvs xs) (k : NestedKey) : RelO (valN kvs k) ((atKey xs k).map (·.2)) := by
  induction r with
  | nil => exact True.intro
  | @cons p q ps qs h t ih =>
    obtain ⟨h1, _, h2⟩ := h
    by_cases e : p.1 = k
    · have e' : q.1 = k := h1.symm.trans e
      have b : atKey (q :: qs) k = some q.2 := by simp [atKey, List.find?_cons, e']
      have c : valN (p :: ps) k = some p.2.2 := by simp [valN, List.find?_cons, e]
      rw [c, b]; exact h2
    · have e' : ¬ q.1 = k := fun z => e (h1.trans z)
      have b : atKey (q :: qs) k = atKey qs k := by simp [atKey, List.find?_cons, e']
      have c : valN (p :: ps) k = valN ps k := by simp [valN, List.find?_cons, e]
      rw [c, b]; exact ih
theorem NP.any {kvs : NKv} {xs : List (NestedKey × Addr × Value)} (r : NP kvs xs) (k : NestedKey) : (kvs.any fun x => decide (x.1 = k)) = (atKey xs k).isSome := by
  induction r with
  | nil => rfl
  | @cons p q ps qs h t ih =>
    rw [List.any_cons]
    by_cases e : p.1 = k
    · have e' : q.1 = k := h.1.symm.trans e
      simp [atKey, List.find?_cons, e', e]
    · have e' : ¬ q.1 = k := fun z => e (h.1.trans z)
      rw [decide_eq_false e, Bool.false_or, ih]
      simp [atKey, List.find?_cons, e']
theorem NP.put {kvs : NKv} {xs : List (NestedKey × Addr × Value)} (r : NP kvs xs) (k : NestedKey) {b : Addr} {y : V} {u : Value} (ry : RelV y u) : NP (putN kvs k b y) (storedH xs k b u) := by
  unfold putN storedH
  rw [r.any k]
  by_cases q : (atKey xs k).isSome = true
  · rw [if_pos q, if_pos q]
    clear q
    induction r with
    | nil => exact .nil
    | @cons p q ps qs h t ih =>
      rw [List.map_cons, List.map_cons]
      refine .cons ?_ ih
      obtain ⟨h1, h2, h3⟩ := h
      unfold putAt
      by_cases e : p.1 = k
      · rw [if_pos e, if_pos (h1.symm.trans e)]; exact ⟨h1, h2, ry⟩
      · rw [if_neg e, if_neg (fun z => e (h1.trans z))]; exact ⟨h1, h2, h3⟩
  · rw [if_neg q, if_neg q]; exact Paired.snoc r ⟨rfl, rfl, ry⟩
theorem NP.keys {kvs : NKv} {xs : List (NestedKey × Addr × Value)} (r : NP kvs xs) : ∀ x ∈ xs, ∃ p ∈ kvs, p.1 = x.1 ∧ p.2.1 = x.2.1 := by
  induction r with
  | nil => intro x hx; cases hx
  | @cons p q ps qs h t ih =>
    intro x hx
    rcases List.mem_cons.mp hx with e | hx
    · subst e; exact ⟨p, List.mem_cons_self, h.1, h.2.1⟩
    · obtain ⟨p', m, z⟩ := ih x hx
      exact ⟨p', List.mem_cons_of_mem _ m, z⟩
/-- a key that may be asked for -/
def Ky (K : PySem.W.Frag) (H : Hp) (k : NestedKey) (b : Addr) : Prop := NV K H k (.ref b) ∧ k.depth ≤ 8
/-- its keys stand -/
def Kys (K : PySem.W.Frag) (H : Hp) (kvs : NKv) : Prop := ∀ p ∈ kvs, Ky K H p.1 p.2.1
/-- what may be read as such a dict: it is one, or an empty one of the other kind -/
def NdR (H : Hp) (a : Addr) (kvs : NKv) : Prop := Rd H a (ND a kvs) ∨ (kvs = [] ∧ Rd H a (.dK []))
section
variable {X : Cx} {pins : List (Addr × Obj)} {σ : L2.St} {H : Hp} {s : Shared} {a : Addr} {kvs : NKv}
theorem ndat_of (I : Inv X pins σ H s) (h : NdR H a kvs) : NDat a kvs s.heap := by
  rcases h with h | ⟨rfl, h⟩
  · exact (show ObjOk X.prog X.w H s.heap a (ND a kvs) from h.ok I.hok).1
  · obtain ⟨z, hd, vs, rel, o, es, ep, h1, h2, h3, h4⟩ := dk_rd I.hok h
    cases rel
    refine ⟨hd, Nat.zero_le _, o, es, ep, [], h1, h2, h3, .nil, fun w => ?_, List.nodup_nil⟩
    have l := h4.2.1.length
    have : es.toList = [] := by
      cases e : es.toList with
      | nil => rfl
      | cons _ _ => rw [e] at l; simp at l
    rw [this]; rfl
/-- .. as the library has it -/
theorem ndict (I : Inv X pins σ H s) (h : NdR H a kvs) (hk : Kys X.K H kvs) : (a == sysModules) = false ∧ kvs.length ≤ sizeLine ∧ ∃ xs, NP kvs xs ∧ s.heap.DictOfH (nestedKind X.prog X.w) a xs := by
  obtain ⟨z1, z2, o, es, ep, xs, h1, h2, h3, h4, h5, h6⟩ := ndat_of I h
  refine ⟨z1, z2, xs, h4, o, es, ep, h1, h2, h3, h5 X.w, fun x hx => ?_, h6⟩
  obtain ⟨p, m, e1, e2⟩ := h4.keys x hx
  obtain ⟨n, dp⟩ := hk p m
  rw [e1] at n dp
  rw [e2] at n
  exact ⟨n.is I rfl, dp⟩
variable {k : NestedKey} {b : Addr} {v y : V} {u r : Value} {A : Around} {E : Value → Shared → Prop}
theorem nd_getItem {Q : Value → Shared → Prop} (hu : A.units + 65 < cLine) (I : Inv X pins σ H s) (h : NdR H a kvs) (hk : Kys X.K H kvs) (ky : Ky X.K H k b) (l : valN kvs k = some v) (q : ∀ w' s', Inv X pins σ H s' → RelV v w' → Q w' s') :
    wpAny (model X.prog X.w) A (getItem (.ref a) (.ref b)) Q E s := by
  obtain ⟨z1, z2, xs, h4, dd⟩ := ndict I h hk
  obtain ⟨w', hw, rw'⟩ := RelO.some_of (v := v) (o := (atKey xs k).map (·.2)) (by rw [← l]; exact h4.val k)
  obtain ⟨p, hp, hp2⟩ := Option.map_eq_some_iff.mp hw
  refine wpAny_getItem_heap (knd := nestedKind X.prog X.w) (show A.in1.units + 8 < cLine by show A.units + 1 + 8 < cLine; omega) ⟨ky.1.is I rfl, ky.2⟩ dd hp ?_
  rw [hp2]
  exact q w' _ (I.tok _) rw'
theorem nd_in {Q : Value → Shared → Prop} (hu : A.units + 65 < cLine) (I : Inv X pins σ H s) (h : NdR H a kvs) (hk : Kys X.K H kvs) (ky : Ky X.K H k b) (q : ∀ s', Inv X pins σ H s' → Q (.bool (valN kvs k).isSome) s') :
    wpAny (model X.prog X.w) A (compareOp .In (.ref b) (.ref a)) Q E s := by
  obtain ⟨z1, z2, xs, h4, dd⟩ := ndict I h hk
  refine wpAny_in_heap (knd := nestedKind X.prog X.w) (show A.in1.units + 8 < cLine by show A.units + 1 + 8 < cLine; omega) ⟨ky.1.is I rfl, ky.2⟩ z1 dd ?_
  have e := (h4.val k).isSome_eq
  rw [Option.isSome_map] at e
  rw [← e]
  exact q _ (I.tok _)
theorem nd_notIn {Q : Value → Shared → Prop} (hu : A.units + 65 < cLine) (I : Inv X pins σ H s) (h : NdR H a kvs) (hk : Kys X.K H kvs) (ky : Ky X.K H k b) (q : ∀ s', Inv X pins σ H s' → Q (.bool (!(valN kvs k).isSome)) s') :
    wpAny (model X.prog X.w) A (compareOp .NotIn (.ref b) (.ref a)) Q E s := by
  obtain ⟨z1, z2, xs, h4, dd⟩ := ndict I h hk
  refine wpAny_notIn_heap (knd := nestedKind X.prog X.w) (show A.in1.units + 8 < cLine by show A.units + 1 + 8 < cLine; omega) ⟨ky.1.is I rfl, ky.2⟩ z1 dd ?_
  have e := (h4.val k).isSome_eq
  rw [Option.isSome_map] at e
  rw [← e]
  exact q _ (I.tok _)
theorem nd_mut (h : H a = some (ND a kvs) ∨ (kvs = [] ∧ H a = some (.dK []))) : Mut (H a) ∧ NdR H a kvs := by
  rcases h with h | ⟨e, h⟩
  · exact ⟨by rw [h]; exact True.intro, .inl (.inl h)⟩
  · exact ⟨by rw [h]; exact True.intro, .inr ⟨e, .inl h⟩⟩
theorem nd_stored {h' : Heap} {xs : List (NestedKey × Addr × Value)} (z1 : (a == sysModules) = false) (hz : kvs.length < sizeLine) (I : Inv X pins σ H s) (hk : Kys X.K H kvs) (ky : Ky X.K H k b) (h4 : NP kvs xs) (rv : RelV v r) (dd : h'.DictOfH (nestedKind X.prog X.w) a (storedH xs k b r)) (H' : Hp) :
    ObjOk X.prog X.w H' h' a (ND a (putN kvs k b v)) := by
  obtain ⟨o, es, ep, h1, h2, h3, h5, his, h6⟩ := dd
  refine ⟨⟨z1, by have := putN_len kvs k b v; omega, o, es, ep, _, h1, h2, h3, h4.put k rv, fun w => ?_, h6⟩, ⟨o, h1⟩, fun g1 g2 ph k' => ?_⟩
  · rw [h5]
    refine List.map_congr_left fun x hx => ?_
    have fx : free x.1 = true := by
      have hm : ∀ x ∈ storedH xs k b r, free x.1 = true := by
        intro x hx
        have hold : ∀ x ∈ xs, free x.1 = true := fun x hx => by
          obtain ⟨p, m, e1, _⟩ := h4.keys x hx
          rw [← e1]; exact (hk p m).1.free
        unfold storedH at hx
        split at hx
        · obtain ⟨y, hy, e⟩ := List.mem_map.mp hx
          subst e
          unfold putAt
          split
          · exact hold y hy
          · exact hold y hy
        · rcases List.mem_append.mp hx with z | z
          · exact hold x z
          · rw [List.mem_singleton] at z
            subst z
            exact ky.1.free
      exact hm x hx
    show entryOfKey (nestedKind X.prog X.w) x = ndE w x
    unfold entryOfKey ndE
    show DictEntry.mk (x.1.hash X.w) _ _ = _
    rw [hash_free X.w w x.1 fx]
  · obtain ⟨y1, y2, o, es, ep, xs', e1, r⟩ := ph
    exact ⟨y1, y2, o, es, ep, xs', k' o e1, r⟩
theorem nd_setItem {Q : Unit → Shared → Prop} (hu : A.units + 65 < cLine) (I : Inv X pins σ H s) (h : H a = some (ND a kvs) ∨ (kvs = [] ∧ H a = some (.dK []))) (hk : Kys X.K H kvs) (ky : Ky X.K H k b) (hz : kvs.length < sizeLine) (rv : RelV v r)
    (q : ∀ s', Inv X pins σ (upd H a (ND a (putN kvs k b v))) s' → Q () s') : wpAny (model X.prog X.w) A (setItem (.ref a) (.ref b) r) Q E s := by
  obtain ⟨mu, hr⟩ := nd_mut h
  obtain ⟨z1, z2, xs, h4, dd⟩ := ndict I hr hk
  refine wpAny_setItem_heap (knd := nestedKind X.prog X.w) (hsz := by rw [← Paired.length h4]; exact z2) (show A.in1.units + 8 < cLine by show A.units + 1 + 8 < cLine; omega) ⟨ky.1.is I rfl, ky.2⟩ dd fun h' dd' hs => q _ ?_
  have new := nd_stored (v := v) (r := r) z1 hz I hk ky h4 rv dd' (upd H a (ND a (putN kvs k b v)))
  exact d_write I mu hs new.2.1 new
theorem nd_dictSet {Q : Unit → Shared → Prop} (hu : A.units + 65 < cLine) (I : Inv X pins σ H s) (h : H a = some (ND a kvs) ∨ (kvs = [] ∧ H a = some (.dK []))) (hk : Kys X.K H kvs) (ky : Ky X.K H k b) (hz : kvs.length < sizeLine) (rv : RelV v r)
    (q : ∀ s', Inv X pins σ (upd H a (ND a (putN kvs k b v))) s' → Q () s') : wpAny (model X.prog X.w) A (dictSet a (.ref b) r) Q E s := by
  obtain ⟨mu, hr⟩ := nd_mut h
  obtain ⟨z1, z2, xs, h4, dd⟩ := ndict I hr hk
  refine wpAny_dictSet_heap (knd := nestedKind X.prog X.w) (hsz := by rw [← Paired.length h4]; exact z2) (show A.units + 8 < cLine by omega) ⟨ky.1.is I rfl, ky.2⟩ dd fun h' dd' hs => q _ ?_
  have new := nd_stored (v := v) (r := r) z1 hz I hk ky h4 rv dd' (upd H a (ND a (putN kvs k b v)))
  exact d_write I mu hs new.2.1 new
/-- d.get(k, x) -/
theorem nd_get2 {x : V} {Q : Value → Shared → Prop} (hu : A.units + 65 < cLine) (I : Inv X pins σ H s) (h : NdR H a kvs) (hk : Kys X.K H kvs) (ky : Ky X.K H k b) (rx : RelV x r) (q : ∀ w' s', Inv X pins σ H s' → RelV ((valN kvs k).getD x) w' → Q w' s') :
    wpAny (model X.prog X.w) A (call (.builtin "dict.get") [.ref a, .ref b, r]) Q E s := by
  obtain ⟨z1, z2, xs, h4, dd⟩ := ndict I h hk
  refine getOr_keyed (knd := nestedKind X.prog X.w) (kvs := pairsH xs) (show A.in1.units + 8 < cLine by show A.units + 1 + 8 < cLine; omega) ⟨ky.1.is I rfl, ky.2⟩ z1 ⟨xs, dd, rfl⟩ ?_
  rw [valueAt_pairsH]
  exact q _ _ (I.tok _) (RelO.getD (h4.val k) rx)
/-- d.get(k) -/
theorem nd_get1 {Q : Value → Shared → Prop} (hu : A.units + 65 < cLine) (I : Inv X pins σ H s) (h : NdR H a kvs) (hk : Kys X.K H kvs) (ky : Ky X.K H k b) (q : ∀ w' s', Inv X pins σ H s' → RelV ((valN kvs k).getD .non) w' → Q w' s') :
    wpAny (model X.prog X.w) A (call (.builtin "dict.get") [.ref a, .ref b]) Q E s := by
  obtain ⟨z1, z2, xs, h4, dd⟩ := ndict I h hk
  refine get_keyed (knd := nestedKind X.prog X.w) (kvs := pairsH xs) (show A.in1.units + 8 < cLine by show A.units + 1 + 8 < cLine; omega) ⟨ky.1.is I rfl, ky.2⟩ z1 ⟨xs, dd, rfl⟩ ?_
  rw [valueAt_pairsH]
  exact q _ _ (I.tok _) (RelO.getD (h4.val k) (show RelV .non .none from rfl))
/-- len(d) -/
theorem nd_len {Q : Value → Shared → Prop} (I : Inv X pins σ H s) (h : NdR H a kvs) (hk : Kys X.K H kvs) (q : ∀ t s', Inv X pins σ H s' → Q (.int kvs.length t) s') : wpAny (model X.prog X.w) A (call (.builtin "len") [.ref a]) Q E s := by
  obtain ⟨z1, z2, xs, h4, dd⟩ := ndict I h hk
  have e : kvs.length = (pairsH xs).length := by rw [pairsH_length]; exact Paired.length h4
  refine PyProof.Rows.call_len_slot (n := (pairsH xs).length) dd.typeIs PySem.F.slot_dict_len (fun Q' hq => len_keyed z1 ⟨xs, dd, rfl⟩ hq) (by omega) (by rw [← e]; rw [sizeLine_eq] at z2; omega) ?_
  rw [← e]
  exact q _ _ (I.tok _)
end
end EvNd
/-! Ev, part Zc: dict comprehensions whose keys are tuples (turned from those with flat keys). -/
namespace EvZc
open PySem PySem.Spec PyProof.Rows L2
/-- a store into a dict: a flat key, or a nested one -/
inductive DP (K : PySem.W.Frag) (H : Hp) (a : Addr) (y v : V) (H' : Hp) : Prop
  | flat (kvs : List (Key × V)) (k : Key) : H a = some (.dK kvs) → y = kV k → kvs.length < sizeLine → H' = upd H a (.dK (putK kvs k v)) → DP K H a y v H'
  | nest (kvs : EvNd.NKv) (k : NestedKey) (b : Addr) : (H a = some (EvNd.ND a kvs) ∨ (kvs = [] ∧ H a = some (.dK []))) → EvNd.Kys K H kvs → y = .ref b → EvNd.Ky K H k b → kvs.length < sizeLine → H' = upd H a (EvNd.ND a (EvNd.putN kvs k b v)) → DP K H a y v H'
section
variable {X : Cx} {pins : List (Addr × Obj)} {σ : L2.St} {H H' : Hp} {s : Shared} {E : Value → Shared → Prop} {D : Addr} {y v : V} {u r : Value} {Q : Unit → Shared → Prop}
theorem DP.set (hu : X.A.units + 65 < cLine) (I : Inv X pins σ H s) (g : DP X.K H D y v H') (ry : RelV y u) (rv : RelV v r) (h : ∀ s', Inv X pins σ H' s' → Q () s') : wpAny (model X.prog X.w) X.A (dictSet D u r) Q E s := by
  cases g with
  | flat kvs k h1 h2 h3 h4 => subst h2 h4; exact d_dictSet I h1 h3 ry rv h
  | nest kvs k b h1 h2 h3 h4 h5 h6 =>
    subst h3 h6
    cases (show u = Value.ref b from ry)
    exact EvNd.nd_dictSet hu I h1 h2 h4 h5 rv h
theorem DP.put {A : Around} (hu : A.units + 65 < cLine) (I : Inv X pins σ H s) (g : DP X.K H D y v H') (ry : RelV y u) (rv : RelV v r) (h : ∀ s', Inv X pins σ H' s' → Q () s') : wpAny (model X.prog X.w) A (setItem (.ref D) u r) Q E s := by
  cases g with
  | flat kvs k h1 h2 h3 h4 => exact d_setItem (by omega) I (.inl ⟨kvs, k, h1, h2, h3, h4⟩) ry rv h
  | nest kvs k b h1 h2 h3 h4 h5 h6 =>
    subst h3 h6
    cases (show u = Value.ref b from ry)
    exact EvNd.nd_setItem hu I h1 h2 h4 h5 rv h
end
def tDct (K : PySem.W.Frag) (wi : TI) (g : TG) (tt : TT) (tk tv : TE) (vs : List Nat) : TE := fun σ H Q => wi σ H fun J H1 => ∀ D, H1 D = none → ∃ W : Nat → Nat → Hp → Prop, (∃ m, W 0 m (upd H1 D (.dK []))) ∧ ∀ i m H, W i m H →
  (J.stop i H ∧ Q (.ref D) H) ∨ (J.go i H ∧ ∃ Nx : Hp → Prop, (∀ H', Nx H' → ∃ m', m' < m ∧ W (i + 1) m' H') ∧ ∀ x H', J.yld i H x H' → g x (wipe σ vs) H' fun σ2 H2 => wipe σ2 vs = wipe σ vs ∧ tt σ2 H2 fun b H3 =>
    if b = true then tk σ2 H3 fun y H4 => tv σ2 H4 fun z H5 => ∃ H6, DP K H5 D y z H6 ∧ Nx H6 else Nx H3)
section
variable {X : Cx}
theorem dct_core {pins : List (Addr × Obj)} {s : Shared} {σ : L2.St} {H : Hp} {Q : VK} {kx vx tg iter : Expr} {ifs : List Expr} {scope : Scope} {own : List (Str × Nat)} {pos pos' : Pos} {wi : TI} {g : TG} {tt : TT} {tk tv : TE} {use : Option (Value → Sem Unit)} {Qf : Value → Shared → Prop}
    (hu : X.A.units + 65 < cLine) (hc : X.calm = true) (hN : X.N.Nodup) (I : Inv X pins σ H s) (hi : PI X tg iter wi) (ok : BlkOk X.N X.env.scope scope own)
    (hg : ∀ (s : Shared) (H : Hp) (C : Addr) (cl : List (Str × Addr)) (fp : List Addr), PG (X.blk s H scope (compEnvC scope cl C X.env) fp) tg g) (ht : ∀ (s : Shared) (H : Hp) (C : Addr) (cl : List (Str × Addr)) (fp : List Addr), PTs (X.blk s H scope (compEnvC scope cl C X.env) fp) ifs tt)
    (hk : ∀ (s : Shared) (H : Hp) (C : Addr) (cl : List (Str × Addr)) (fp : List Addr), PE (X.blk s H scope (compEnvC scope cl C X.env) fp) kx tk)
    (he : ∀ (s : Shared) (H : Hp) (C : Addr) (cl : List (Str × Addr)) (fp : List Addr), PE (X.blk s H scope (compEnvC scope cl C X.env) fp) vx tv) (hs : ∀ x, foldedSetIterable iter X.env x = pure x)
    (h : tDct X.K wi g tt tk tv (own.map (·.2)) σ H Q)
    (hRR : ∀ D C s' m H', Inv X pins σ H' s' → Q (.ref D) H' → s'.heap.Ns C m → FpOk X pins H' C → compPost (model X.prog X.w) X.A X.xe use Qf (.ref D) C (.ok .next) s') :
    wpAny (model X.prog X.w) X.A (comprehension (.DictComp kx vx [⟨tg, iter, ifs, 0⟩] scope pos) scope X.env pos' newDict false (eval iter X.env) use) Qf X.xe s := by
  have frees : ∀ y ∈ scope.names, y.2 = .free → ∃ c, X.env.cells.lookup y.1 = some c := fun y hy e => by
    rcases ok.free y hy e with k | k
    · exact I.ok.has _ (.inl k)
    · exact I.ok.has _ (.inr k)
  refine wpAny_comprehension_free (use := use) rfl hs (closure_ok frees) ok.kind (fun y hy e => by rw [ok.uniq y hy, e])
    (thn (hi.run pins s σ H _ I h) fun xv s1 hx => thn hx fun itv u2 h2 => ?_)
  obtain ⟨it, fp, tn, J, H2, e, I2, T, ti2, fr2, q⟩ := h2
  subst e
  refine wpAny_newObj_type (newEnv_comp ?_)
  generalize hD : u2.heap.objs.size = D
  have freshD : H2 D = none := I2.hok.fresh (Nat.le_of_eq hD)
  obtain ⟨W, ⟨mA, wA⟩, tr⟩ := q D freshD
  -- the new list
  generalize eu3 : ({ u2 with heap := u2.heap.push { cls := .type "dict", data := .dict #[] } } : Shared) = u3
  have J3 : Inv X pins σ (upd H2 D (.dK [])) u3 := by
    rw [← eu3]
    refine I2.laid (t' := u2.toks) (fun b o e => Heap.get?_push_of_some _ e) (Nat.le_of_eq hD) ?_
    rw [← hD]
    exact dk_empty u2.heap I2.big
  have e3 : u3.heap = u2.heap.push { cls := .type "dict", data := .dict #[] } := by rw [← eu3]
  have szs : ∀ b ∈ fp, b < u2.heap.objs.size := fun b hb => by
    obtain ⟨o, e, _⟩ := T.obj _ _ ti2 b hb
    exact Heap.lt_size e
  have fr3 : ∀ b ∈ fp, FpOk X pins (upd H2 D (.dK [])) b ∧ b < u3.heap.objs.size := fun b hb => by
    have hlt := szs b hb
    refine ⟨⟨?_, (fr2 b hb).2⟩, by rw [e3, Heap.size_push]; exact Nat.lt_succ_of_lt hlt⟩
    rw [upd_ne (by rw [← hD]; exact Nat.ne_of_lt hlt)]
    exact (fr2 b hb).1
  have ti3 : tn 0 u3.heap := T.keep _ _ _ ti2 fun b _ o e => by rw [e3]; exact Heap.get?_push_of_some _ e
  have J4 := block_start J3 ok hN fr3
  have rg := hg u3 (upd H2 D (.dK [])) u3.heap.objs.size (cellsFrom (u3.heap.objs.size + 1) scope.names (cloFrom X.env.cells scope.names [])) fp
  have rt := ht u3 (upd H2 D (.dK [])) u3.heap.objs.size (cellsFrom (u3.heap.objs.size + 1) scope.names (cloFrom X.env.cells scope.names [])) fp
  have rk := hk u3 (upd H2 D (.dK [])) u3.heap.objs.size (cellsFrom (u3.heap.objs.size + 1) scope.names (cloFrom X.env.cells scope.names [])) fp
  have pe := he u3 (upd H2 D (.dK [])) u3.heap.objs.size (cellsFrom (u3.heap.objs.size + 1) scope.names (cloFrom X.env.cells scope.names [])) fp
  show codeAny _ _ (.compStart (.DictComp kx vx [⟨tg, iter, ifs, 0⟩] scope pos) 0 (.ref it) (.ref D) (compEnvC scope (cellsFrom (u3.heap.objs.size + 1) scope.names (cloFrom X.env.cells scope.names [])) u3.heap.objs.size X.env)) (compPost (model X.prog X.w) X.A X.xe use Qf (.ref D) u3.heap.objs.size) { u3 with heap := pushCells (u3.heap.push { cls := .type "dict", data := .dict #[] }) scope.names }
  have frN : ∀ b ∈ fp, (upd H2 D (.dK [])) b = none := fun b hb => (fr3 b hb).1.1
  generalize eC : compEnvC scope (cellsFrom (u3.heap.objs.size + 1) scope.names (cloFrom X.env.cells scope.names [])) u3.heap.objs.size X.env = ce at J4 rg rt rk pe ⊢
  have locE : ce.locals = u3.heap.objs.size := by subst eC; rfl
  generalize eH3 : upd H2 D (.dK []) = H3 at J3 J4 rg rt rk pe wA frN fr3
  generalize eu4 : ({ u3 with heap := pushCells (u3.heap.push { cls := .type "dict", data := .dict #[] }) scope.names } : Shared) = u4 at J4 ⊢
  have ti4 : tn 0 u4.heap := T.keep _ _ _ ti3 fun b _ o e => by rw [← eu4]; exact pushCells_keeps _ _ _ _ (Heap.get?_push_of_some _ e)
  have stay : ∀ {σ' : L2.St} {H' : Hp} {s' : Shared}, Inv (X.blk u3 H3 scope ce fp) [] σ' H' s' → (∀ b ∈ fp, H' b = none) → ∀ b ∈ fp, FpOk (X.blk u3 H3 scope ce fp) [] H' b := fun {σ' H' s'} I' hn b hb =>
    ⟨hn b hb, (I'.ok.exf b hb).1, I'.ok.exfs b hb, .inl hb, fun x c e => (I'.ok.exf b hb).2 x c e, fun p hp => absurd (show p ∈ ([] : List (Addr × Obj)) ++ [] from hp) (by simp)⟩
  have lp : codeAny (model X.prog X.w) X.A (.compLoop (.DictComp kx vx [⟨tg, iter, ifs, 0⟩] scope pos) 0 (.ref it) (.ref D) ce) (compPost (model X.prog X.w) X.A X.xe use Qf (.ref D) u3.heap.objs.size) u4 := by
    refine compLoop_anyD (fun n s' => ∃ i H', Inv (X.blk u3 H3 scope ce fp) [] (wipe σ (own.map (·.2))) H' s' ∧ tn i s'.heap ∧ (∀ b ∈ fp, H' b = none) ∧ W i n H') ?_ mA ⟨0, H3, J4, ti4, frN, wA⟩
    rintro n u5 ⟨i, H5, J5, ti5, n5, wB⟩
    rcases tr i n H5 wB with ⟨stop, qq⟩ | ⟨go, Nx, hNx, stp⟩
    · have td := T.done (X.blk u3 H3 scope ce fp) rfl rfl rfl hc i [] u5 _ H5 (fun _ _ => False) J5 (stay J5 n5) ti5 stop
      refine thnF td fun r u6 ⟨hr, J6⟩ => ?_
      subst hr
      -- back in the def's context
      have J7 : Inv X pins σ H5 u6 := J3.call' (ch := fp) J6.os J6.base J6.hok J6.bare fun b hb => ⟨(fr3 b hb).1.2.2.2.1, (fr3 b hb).1.2.1, (fr3 b hb).1.2.2.2.2.1, (fr3 b hb).1.2.2.2.2.2⟩
      have nC : H5 u3.heap.objs.size = none := by
        have z : H5 ce.locals = none := J6.free
        rw [locE] at z
        exact z
      obtain ⟨m, hn, _⟩ := J6.loc
      have hn : u6.heap.Ns ce.locals m := hn
      rw [locE] at hn
      exact hRR D u3.heap.objs.size u6 m H5 J7 qq hn (J3.fpOk (Nat.le_refl _) nC)
    · have ti := T.item (X.blk u3 H3 scope ce fp) rfl rfl rfl hc i [] u5 _ H5 (fun _ _ => False) J5 (stay J5 n5) ti5 go
      refine thnF ti fun r u6 ⟨u, hr, e6⟩ => ?_
      subst hr
      refine thnF e6 fun _ u7 ⟨xt, H7, J7, r7, y7, ti7, n7⟩ => ?_
      have J7' := J7.pinned (stay J7 n7) (T.obj _ _ ti7)
      refine thnF (rg.run _ u7 _ H7 xt u _ J7' r7 (stp xt H7 y7)) fun _ u8 ⟨σ8, H8, J8, hw8, q8⟩ => ?_
      refine thnF (rt.run _ u8 σ8 H8 _ J8 q8) fun b u9 ⟨H9, J9, q9⟩ => ?_
      -- the turn's end
      have endT : ∀ {s' : Shared} {H' : Hp}, Inv (X.blk u3 H3 scope ce fp) ([] ++ pinsAt fp u7.heap) σ8 H' s' → Nx H' → ∃ m, m < n ∧ ∃ i H', Inv (X.blk u3 H3 scope ce fp) [] (wipe σ (own.map (·.2))) H' s' ∧ tn i s'.heap ∧ (∀ b ∈ fp, H' b = none) ∧ W i m H' := fun {s' H'} I' nx => by
        obtain ⟨m', hm, w'⟩ := hNx H' nx
        have pin' : ∀ b ∈ fp, ∀ o, u7.heap.get? b = some o → s'.heap.get? b = some o ∧ H' b = none := fun b hb o e =>
          let z := I'.pin (b, o) (List.mem_append_right _ (List.mem_append_right _ (mem_pinsAt hb e)))
          ⟨z.1, z.2.1⟩
        have hl : (wipe σ (own.map (·.2))).length = σ8.length := by rw [← hw8, wipe_length]
        refine ⟨m', hm, i + 1, H', (I'.unpinned (pins := [])).weak hl (fun j v e => ?_), T.keep _ _ _ ti7 fun b hb o e => (pin' b hb o e).1, fun b hb => ?_, w'⟩
        · rw [← hw8] at e
          exact (wipe_some e).1
        · obtain ⟨o, e, _⟩ := T.obj _ _ ti7 b hb
          exact (pin' b hb o e).2
      cases b with
      | false =>
        simp only [Bool.false_eq_true, if_false] at q9 ⊢
        exact endT J9 q9
      | true =>
        simp only [if_true] at q9 ⊢
        refine thnF (rk.run _ u9 σ8 H9 _ J9 q9) fun z u10 ⟨yk, H10, J10, r10, q10⟩ => ?_
        refine thnF (pe.run _ u10 σ8 H10 _ J10 q10) fun z2 u11 ⟨yv, H11, J11, r11, H12, g11, nx⟩ => ?_
        exact DP.set (X := X.blk u3 H3 scope ce fp) hu J11 g11 r10 r11 fun u12 J12 => endT J12 nx
  exact codeAny_compStart_dict lp (T.self X.A 0 _ _ _ ti4 lp)
/-- as a value -/
theorem pe_dct {kx vx tg iter : Expr} {ifs : List Expr} {scope : Scope} {own : List (Str × Nat)} {pos : Pos} {wi : TI} {g : TG} {tt : TT} {tk tv : TE} (hu : X.A.units + 65 < cLine) (hc : X.calm = true) (hN : X.N.Nodup) (hi : PI X tg iter wi) (ok : BlkOk X.N X.env.scope scope own)
    (hg : ∀ (s : Shared) (H : Hp) (C : Addr) (cl : List (Str × Addr)) (fp : List Addr), PG (X.blk s H scope (compEnvC scope cl C X.env) fp) tg g) (ht : ∀ (s : Shared) (H : Hp) (C : Addr) (cl : List (Str × Addr)) (fp : List Addr), PTs (X.blk s H scope (compEnvC scope cl C X.env) fp) ifs tt)
    (hk : ∀ (s : Shared) (H : Hp) (C : Addr) (cl : List (Str × Addr)) (fp : List Addr), PE (X.blk s H scope (compEnvC scope cl C X.env) fp) kx tk)
    (he : ∀ (s : Shared) (H : Hp) (C : Addr) (cl : List (Str × Addr)) (fp : List Addr), PE (X.blk s H scope (compEnvC scope cl C X.env) fp) vx tv) (hs : ∀ x, foldedSetIterable iter X.env x = pure x := by intro _; rfl) :
    PE X (.DictComp kx vx [⟨tg, iter, ifs, 0⟩] scope pos) (tDct X.K wi g tt tk tv (own.map (·.2))) := by
  refine ⟨fun pins s σ H Q I h => ?_⟩
  rw [arm_eval_DictComp]
  refine dct_core hu hc hN I hi ok hg ht hk he hs h fun D C s' m H' I' q hn f => ⟨m, hn, fun h'' sb => ?_⟩
  obtain ⟨f0, f1, fr2, fr3, f4, f5⟩ := f
  exact ⟨.ref D, H', I'.turned (t' := s'.toks) (fun b o hb e => (sb.2 b hb).trans e) f0 f1 fr3 f4 f5, rfl, q⟩end
end EvZc
/-! Ev, part Zn: enumerate over a tuple. -/
namespace EvZn
open PySem PySem.Spec PyProof.Rows L2
theorem made {v : Value} {o : Obj} {H : Heap → Prop} (B : Begins v o H) :
    Meets (Builtin.«enumerate.__new__» ⟨[.type "enumerate", v], []⟩) (fun _ R s => H s.heap ∧
      R (.ok (.ret (.ref (s.heap.push o).objs.size))) { s with heap := (s.heap.push o).push { cls := .type "enumerate", data := .fields #[.none, .bool false, .ref s.heap.objs.size, rawInt 0, .none, .none] } }) :=
  .of_wp fun prog w A R s h => by
    obtain ⟨hp, g, d, tk, os⟩ := s; obtain ⟨h1, h⟩ := h
    have hsub := sub_enumerate
    have q1 : ∀ {A' : Around} {E : Value → Shared → Prop} {Q : Value → Shared → Prop}, Q (.ref hp.objs.size) ⟨hp.push o, g, d, tk, os⟩ → wpAny (model prog w) A' (pyIter v) Q E ⟨hp, g, d, tk, os⟩ :=
      fun q => B.iter prog w _ _ ⟨hp, g, d, tk, os⟩ _ h1 q
    wp_walk using q1
    refine wpAny_stack_any fun st => wpAny_pure ?_
    split
    · rename_i c _ _ _ _ _
      cases (c == Value.type "enumerate")
      · wp_walk using q1
        exact ⟨_, rfl, h⟩
      · wp_walk using q1
        exact ⟨_, rfl, h⟩
    · wp_walk using q1
      exact ⟨_, rfl, h⟩
section
variable {prog : Program} {w : World} {A : Around} {E : Value → Shared → Prop} {s : Shared}
theorem begun {v : Value} {o : Obj} {H : Heap → Prop} {Q : Value → Shared → Prop} (B : Begins v o H) (h1 : H s.heap)
    (h : ∀ h', IsEnum h' (s.heap.objs.size + 1) s.heap.objs.size 0 .none → h'.get? s.heap.objs.size = some o → h'.objs.size = s.heap.objs.size + 2 →
      (∀ b o, s.heap.get? b = some o → h'.get? b = some o) → Q (.ref (s.heap.objs.size + 1)) { s with heap := h' }) :
    wpAny (model prog w) A (call (.type "enumerate") [v]) Q E s := by
  refine callType_new F.called_enumerate (by decide) (F.typeCall_enumerate_1 _) (F.newCall_enumerate_1 _) (fun obj => F.args_object_init_2 obj _) F.entry_enumerate_new (made B) ⟨h1, ?_⟩
  have hz : (s.heap.push o).objs.size = s.heap.objs.size + 1 := Heap.size_push ..
  show _ ∧ _
  rw [hz]
  have he : IsEnum ((s.heap.push o).push { cls := .type "enumerate", data := .fields #[.none, .bool false, .ref s.heap.objs.size, rawInt 0, .none, .none] }) (s.heap.objs.size + 1) s.heap.objs.size 0 .none := by
    have := Heap.get?_push_size (s.heap.push o) (o := { cls := .type "enumerate", data := .fields #[.none, .bool false, .ref s.heap.objs.size, rawInt 0, .none, .none] }) rfl
    rw [hz] at this; exact this
  refine ⟨⟨_, he, rfl⟩, h _ he (Heap.get?_push_of_some _ (Heap.get?_push_size _ B.free)) (by rw [Heap.size_push, hz]) fun b o x => Heap.get?_push_of_some _ (Heap.get?_push_of_some _ x)⟩
end
section
variable {prog : Program} {w : World} {A : Around} {E : Value → Shared → Prop} {s : Shared}
theorem endT {e it l : Addr} {i : Nat} {items : Array Value} {k : Int} {old : Value} {Q : Option Value → Shared → Prop} (hh : A.handled = none) (he : IsEnum s.heap e it k old) (hit : s.heap.IsTupleIter it l i) (hl : s.heap.IsTuple l items) (hx : items[i]? = none)
    (hQ : ∀ h', Heap.ExtBut it s.heap h' → Q none { s with heap := h' }) : wpAny (model prog w) A (pyNext (.ref e)) Q E s := by
  have hT : s.TypeIs (.ref e) "enumerate" := ⟨_, he, rfl⟩
  unfold pyNext
  refine wpAny_bind (wpAny_attempt (wpAny_callSpecial?_slot (name := Str.ofString "__next__") hT F.slot_enumerate_next
    (wpAny_call_entry F.slot_enumerate_next hT F.entry_enumerate_next ?_ (F.args_enumerate_next_1 _))))
  show wpAny _ _ (field (.ref e) 2 >>= _) _ _ _
  refine wpAny_bind (wpAny_field he rfl (x := .ref it) rfl ?_)
  refine wpAny_bind (wpAny_nextOf_tuple_end (A := A.in1) (show A.in1.handled = none from hh) hit hl hx fun h' x he' hx' => ?_)
  obtain ⟨o, ho, hc⟩ := hx'
  refine wpAny_bind (wpAny_isInstance (T := "StopIteration") (b := true) ⟨o, ho, hc⟩ isSubtype_stop ?_)
  exact wpAny_pure (hQ _ he')
end
/-- a tuple's items with their places -/
def IteT (K : PySem.W.Frag) (a : Addr) : It :=
  ⟨fun i H => ∃ (xs : List V) (x : V), SqT K H a xs ∧ xs[i]? = some x, fun i H v H' => ∃ T x, v = .ref T ∧ H T = none ∧ H' = upd H T (.tup [.int (i : Nat), x]) ∧ ∀ xs, SqT K H a xs → xs[i]? = some x, fun i H => ∃ xs : List V, SqT K H a xs ∧ xs.length ≤ i⟩
theorem turn_enumT {P : Program} {w : World} {K : PySem.W.Frag} {elts : List Expr} {kk : Nat} {tpos : Pos} (a e it : Addr) :
    Turn P w K (.Tuple elts kk tpos) (IteT K a) [e, it] e (fun i h => (∃ old, IsEnum h e it ((i : Nat) : Int) old) ∧ h.IsTupleIter it a i ∧ e ≠ it) where
  mem := by simp
  obj := fun i h st b hb => by
    obtain ⟨⟨old, he⟩, ⟨o, ho, hc, hd⟩, _⟩ := st
    have e' : b = e ∨ b = it := by simpa using hb
    rcases e' with z | z
    · rw [z]; exact ⟨_, he, fun v q => nomatch q⟩
    · rw [z]; exact ⟨o, ho, fun v q => by rw [hd] at q; cases q⟩
  keep := fun i h h' st k => let ⟨⟨old, he⟩, hi, hne⟩ := st; ⟨⟨old, k e (by simp) _ he⟩, hi.at fun o q => k it (by simp) o q, hne⟩
  item := by
    intro X hP hw hK hc i pins s σ H E I hf st hg
    subst hP hw hK
    obtain ⟨⟨old, he⟩, hit, hne⟩ := st
    obtain ⟨xs, x, hq, hx⟩ := hg
    obtain ⟨its, rv, p, hz⟩ := I.tuple hq
    obtain ⟨u, hu, ru⟩ := rv.get hx
    have hel : e < s.heap.objs.size := Heap.lt_size he
    have hil : it < s.heap.objs.size := by obtain ⟨_, q, _⟩ := hit; exact Heap.lt_size q
    have hea : e ≠ a := fun z => by
      obtain ⟨o, ho, hcl, _⟩ := p
      subst z
      rw [he] at ho
      cases ho
      simp at hcl
    have hia : a ≠ it := fun z => by
      obtain ⟨o, ho, hcl, _⟩ := p
      obtain ⟨o2, ho2, hcl2, _⟩ := hit
      subst z
      rw [ho2] at ho
      cases ho
      rw [hcl2] at hcl
      simp at hcl
    have hi : i < its.toArray.size := by
      have := (List.getElem?_eq_some_iff.mp hu).1
      simpa using this
    refine wpAny_pyNext_enum_itemD (Draws.tuple (A := X.A.in1) (show X.A.in1.handled = none from I.ok.hd hc) it a hia its.toArray) he ⟨hit, p⟩ hi hne (by simp [hne, hea]) fun y h' tk hy ho hst hT hsz hk => ?_
    have ey : y = u := by
      have : its.toArray[i]? = some u := by simpa using hu
      rw [this] at hy; exact (Option.some.inj hy).symm
    subst ey
    refine ⟨_, rfl, wpAny_letOwnedTupleGo_enum (s := { s with heap := h', toks := tk + 1 }) ho fun h'' he' sb => ?_⟩
    have hT2 : h''.get? s.heap.objs.size = some { cls := .type "tuple", data := .seq #[.int i tk, y] } := (sb.2 _ (Nat.ne_of_gt hel)).trans hT
    have new : ObjOk X.prog X.w (upd H s.heap.objs.size (.tup [.int (i : Nat), x])) h'' s.heap.objs.size (.tup [.int (i : Nat), x]) :=
      ⟨by show 2 ≤ sizeLine; decide, [.int i tk, y], .cons ⟨_, rfl⟩ (.cons ru .nil), ⟨_, hT2, rfl, _, rfl⟩⟩
    have I1 : Inv X pins σ (upd H s.heap.objs.size (.tup [.int (i : Nat), x])) { s with heap := h'', toks := tk + 1 } :=
      I.turnedNew (ch := [e, it]) (fun b ob hb q => (sb.2 b (fun z => hb (by simp [z]))).trans (hk b ob (fun z => hb (by simp [z])) (fun z => hb (by simp [z])) q)) hf (Nat.le_refl _) new
    refine ⟨.ref s.heap.objs.size, _, I1, rfl, ⟨_, x, rfl, I.hok.fresh (Nat.le_refl _), rfl, fun ys hy => by rw [I.tuple_inj hy hq]; exact hx⟩, ⟨⟨y, ?_⟩, hst.1.at fun o q => (sb.2 it (Ne.symm hne)).trans q, hne⟩, fun b hb => ?_⟩
    · have e1 : ((i + 1 : Nat) : Int) = (i : Int) + 1 := by omega
      rw [e1]; exact he'
    · have hb' : b < s.heap.objs.size := by
        have e' : b = e ∨ b = it := by simpa using hb
        rcases e' with z | z
        · rw [z]; exact hel
        · rw [z]; exact hil
      rw [upd_ne (Nat.ne_of_lt hb')]
      exact (hf b hb).1
  done := by
    intro X hP hw hK hc i pins s σ H E I hf st hg
    subst hP hw hK
    obtain ⟨⟨old, he⟩, hit, hne⟩ := st
    obtain ⟨xs, hq, hx⟩ := hg
    obtain ⟨its, rv, p, hz⟩ := I.tuple hq
    obtain ⟨f0, f1, f2, f3, f4, f5⟩ := hf it (by simp)
    have hl := rv.length
    exact endT (I.ok.hd hc) he hit p (by simp; omega) fun h' eb => ⟨rfl, I.turned (t' := s.toks) (fun b o hb q => eb b o hb q) f0 f1 f3 f4 f5⟩
  self := fun A i s Q E st h => let ⟨⟨_, he⟩, _⟩ := st; wpAny_pyIter_enum he h
/-- enumerate of a list or a tuple -/
def iEnumA (K : PySem.W.Frag) (ta : TA) : TI := fun σ H R => ta σ H fun vs H1 => ∃ a xs, vs = [.ref a] ∧ ((SqL K H1 a xs ∧ R (Ite K a) H1) ∨ (SqT K H1 a xs ∧ R (IteT K a) H1))
theorem pi_enumA {X : Cx} {e : Expr} {ta : TA} {p pos tpos : Pos} {elts : List Expr} {kk : Nat} (hg : Gl X "enumerate") (hm : X.mg "enumerate" = none) (ha : PA X [e] ta) (hs : starEach [e] X.env = [(false, eval e X.env)] := by rfl) :
    PI X (.Tuple elts kk tpos) (.Call (.Name "enumerate" p) [e] [] pos) (iEnumA X.K ta) := by
  refine ⟨fun pins s σ H R I h => ?_⟩
  refine Call_ (ld_blt I hg hm boot_enumerate (PyProof.Rows.callWith_type1 (thn (ha.run pos pins s σ H _ I h) fun us s1 ⟨vs, H1, I1, r1, q1⟩ => ?_) hs rfl))
  obtain ⟨a, xs, ex, hq⟩ := q1
  subst ex
  cases r1 with
  | cons r rr =>
    cases rr
    cases r
    have fp : ∀ b ∈ [s1.heap.objs.size + 1, s1.heap.objs.size], s1.heap.objs.size ≤ b := fun b hb => by
      have e' : b = s1.heap.objs.size + 1 ∨ b = s1.heap.objs.size := by simpa using hb
      rcases e' with z | z
      · rw [z]; exact Nat.le_add_right _ _
      · rw [z]; exact Nat.le_refl _
    rcases hq with ⟨hq, q⟩ | ⟨hq, q⟩
    · obtain ⟨its, rv, p', hz⟩ := I1.list hq
      refine call_enumerate_list p'.isList fun h' he hit hsz hk => wpAny_pyIter_enum he ?_
      have I2 : Inv X pins σ H1 { s1 with heap := h' } := I1.kept (t' := s1.toks) hk
      exact ⟨s1.heap.objs.size + 1, [s1.heap.objs.size + 1, s1.heap.objs.size], _, _, H1, rfl, I2, turn_enum a (s1.heap.objs.size + 1) s1.heap.objs.size, ⟨⟨.none, he⟩, hit, Nat.succ_ne_self _⟩, fun b hb => I1.fpOk (fp b hb) (I1.hok.fresh (fp b hb)), q⟩
    · obtain ⟨its, rv, p', hz⟩ := I1.tuple hq
      refine begun (begins_tuple a its.toArray) p' fun h' he hit hsz hk => wpAny_pyIter_enum he ?_
      have I2 : Inv X pins σ H1 { s1 with heap := h' } := I1.kept (t' := s1.toks) hk
      exact ⟨s1.heap.objs.size + 1, [s1.heap.objs.size + 1, s1.heap.objs.size], _, _, H1, rfl, I2, turn_enumT a (s1.heap.objs.size + 1) s1.heap.objs.size, ⟨⟨.none, he⟩, ⟨_, hit, rfl, rfl⟩, Nat.succ_ne_self _⟩, fun b hb => I1.fpOk (fp b hb) (I1.hok.fresh (fp b hb)), q⟩
end EvZn
/-! Ev, part Zm: a tuple's items by steps. -/
namespace EvZm
open PySem PySem.Spec PyProof.Rows L2 HT
section
variable {prog : Program} {w : World} {A : Around} {E : Value → Shared → Prop} {s : Shared}
theorem applied {sl : Addr} {vl vu vs : Value} {lo hi : Option Int} {c : Int} {n : Nat} {Q : Int × Int × Nat → Shared → Prop} (hs : s.heap.IsSliceOf sl vl vu vs) (pl : IsPart vl lo) (pu : IsPart vu hi) (ps : IsPart vs (some c)) (h0 : c ≠ 0)
    (h : Q ((Builtin.Slice.sliceAdjust lo hi c (n : Int)).1, c, Builtin.Slice.slicePlaces (Builtin.Slice.sliceAdjust lo hi c (n : Int)).1 (Builtin.Slice.sliceAdjust lo hi c (n : Int)).2 c) s) : wpAny (model prog w) A (Builtin.Slice.sliceApplied (.ref sl) (pure (n : Int))) Q E s := by
  obtain ⟨os, hos, hcs, hds⟩ := id hs
  unfold Builtin.Slice.sliceApplied Builtin.Slice.sliceFields
  refine wpAny_bind (wpAny_bind (wpAny_field hos hds (x := vl) rfl (wpAny_bind (wpAny_field hos hds (x := vu) rfl (wpAny_bind (wpAny_field hos hds (x := vs) rfl (wpAny_pure ?_)))))))
  refine wpAny_bind (slicePart_ ps ?_)
  show wpAny _ _ (if (c == 0) = true then _ else _) _ _ s
  rw [if_neg (by simpa using h0)]
  refine wpAny_bind (slicePart_ pl (wpAny_bind (slicePart_ pu (wpAny_bind (wpAny_pure ?_)))))
  exact wpAny_pure h
/-- the items of a row by steps -/
def pickT {α : Type} (xs : List α) (lo hi : Option Int) (c : Int) : List α :=
  (List.range (Builtin.Slice.slicePlaces (Builtin.Slice.sliceAdjust lo hi c (xs.length : Int)).1 (Builtin.Slice.sliceAdjust lo hi c (xs.length : Int)).2 c)).filterMap fun (m : Nat) => xs[((Builtin.Slice.sliceAdjust lo hi c (xs.length : Int)).1 + (m : Int) * c).toNat]?
theorem step_ {t sl : Addr} {items : Array Value} {vl vu vs : Value} {lo hi : Option Int} {c : Int} {Q : Value → Shared → Prop} (ht : IsTup s.heap t items) (hs : s.heap.IsSliceOf sl vl vu vs) (pl : IsPart vl lo) (pu : IsPart vu hi) (ps : IsPart vs (some c)) (h0 : c ≠ 0) (h1 : c ≠ 1)
    (h : Q (.ref s.heap.objs.size) { s with heap := s.heap.push { cls := .type "tuple", data := .seq (pickT items.toList lo hi c).toArray } })
    (hsz : (pickT items.toList lo hi c).length ≤ sizeLine) : wpAny (model prog w) A (getItem (.ref t) (.ref sl)) Q E s := by
  have htake : sizeOk (.seq (pickT items.toList lo hi c).toArray) := by
    show (pickT items.toList lo hi c).toArray.size ≤ sizeLine
    rw [List.size_toArray]; exact hsz
  obtain ⟨os, hos, hcs, hds⟩ := id hs
  have hTs : s.TypeIs (.ref sl) "slice" := ⟨os, hos, hcs⟩
  unfold getItem
  try with_reducible refine wpAny_holding ?_
  first | refine wpAny_bind (wpAny_pure ?_) | skip
  refine wpAny_bind (wpAny_sequenceKey ht.typeIs (by decide) ?_)
  refine wpAny_bind (wpAny_callSpecial?_slot (name := Str.ofString "__getitem__") ht.typeIs PyProof.Rows.slot_tuple_getitem
    (wpAny_call_entry PyProof.Rows.slot_tuple_getitem ht.typeIs entry_tuple_getitem ?_ (args_tuple_getitem _ _)))
  show wpAny _ _ (Builtin.Tuple.tupleItemsOf (.ref t) >>= _) _ _ s
  refine wpAny_bind (tupleItemsOf_ ht ?_)
  refine wpAny_bind (wpAny_typeOf hTs ?_)
  rw [if_pos (by decide)]
  refine wpAny_bind (applied hs pl pu ps h0 ?_)
  have en : (items.size : Int) = (items.toList.length : Int) := by rw [Array.length_toList]
  have hno : ¬ (((Builtin.Slice.sliceAdjust lo hi c (items.size : Int)).1 == 0 && c == 1 && (Builtin.Slice.slicePlaces (Builtin.Slice.sliceAdjust lo hi c (items.size : Int)).1 (Builtin.Slice.sliceAdjust lo hi c (items.size : Int)).2 c) == items.size) = true) := by
    intro q
    rw [Bool.and_eq_true, Bool.and_eq_true] at q
    exact h1 (eq_of_beq q.1.2)
  show wpAny _ _ (if ((Builtin.Slice.sliceAdjust lo hi c (items.size : Int)).1 == 0 && c == 1 && (Builtin.Slice.slicePlaces (Builtin.Slice.sliceAdjust lo hi c (items.size : Int)).1 (Builtin.Slice.sliceAdjust lo hi c (items.size : Int)).2 c) == items.size) = true then _ else _) _ _ s
  rw [if_neg hno]
  have ep : ((List.range (Builtin.Slice.slicePlaces (Builtin.Slice.sliceAdjust lo hi c (items.size : Int)).1 (Builtin.Slice.sliceAdjust lo hi c (items.size : Int)).2 c)).filterMap fun (m : Nat) => items[((Builtin.Slice.sliceAdjust lo hi c (items.size : Int)).1 + (m : Int) * c).toNat]?).toArray = (pickT items.toList lo hi c).toArray := by
    unfold pickT
    rw [Array.length_toList]
    congr 2
    funext m
    simp
  rw [ep]
  first
    | exact wpAny_bind (m := Builtin.Tuple.tupleExact _) (wpAny_newObj_type (wpAny_pure ⟨_, rfl, wpAny_pure h⟩) htake)
    | exact wpAny_bind (m := Builtin.Tuple.tupleExact _) (wpAny_newObj_type (wpAny_bind (wpAny_pure (wpAny_pure ⟨_, rfl, wpAny_pure h⟩))) htake)
    | exact wpAny_bind (wpAny_bind (m := Builtin.Tuple.tupleExact _) (wpAny_newObj_type (wpAny_pure (wpAny_pure ⟨_, rfl, wpAny_pure h⟩)) htake))
    | exact wpAny_bind (wpAny_bind (m := Builtin.Tuple.tupleExact _) (wpAny_newObj_type (wpAny_pure ⟨_, rfl, wpAny_pure h⟩) htake))
end
end EvZm
/-! Ev, part A: a small language of our own (IE, IS), data D, its evaluation. -/
namespace Ev
open PySem PySem.Spec PyProof.Rows L2
/-- data: values as the evaluation has them; lists that are changed are cells (ref), all others plain data -/
inductive D where
  | non | bl (b : Bool) | int (i : Int) | str (x : Str)
  | tup (xs : List D) | lst (xs : List D) | frz (xs : List D)
  | ref (l : Nat) | gl (k : Nat) | ty (n : String) | dct | mk (t : Bool) | sz (n : Nat) | exn (k : Nat) (as : List ((Nat ⊕ String) × Bool)) | dic (t : Bool) (es : List D) | rg (lo hi : Int)
mutual
def D.calm : D → Bool
  | .ref _ => false
  | .tup xs => D.calms xs
  | .lst xs => D.calms xs
  | .frz xs => D.calms xs
  | .non => true
  | .bl _ => true
  | .int _ => true
  | .str _ => true
  | .gl _ => true
  | .ty _ => true
  | .dct => true
  | .mk _ => true
  | .sz _ => false
  | .exn _ _ => false
  | .dic _ es => D.calms es
  | .rg _ _ => true
def D.calms : List D → Bool
  | [] => true
  | x :: xs => x.calm && D.calms xs
end
abbrev Store := List (List D)
abbrev Env' := List (Option D)
structure Ex where
  cls : Nat
  fs : List (Str × D)
inductive R (α : Type) where
  | ok (a : α) (S : Store)
  | exc (e : Ex) (S : Store)
  | bad
@[inline] def R.bind {α β : Type} (r : R α) (f : α → Store → R β) : R β :=
  match r with
  | .ok a S => f a S
  | .exc e S => .exc e S
  | .bad => .bad
inductive SR where
  | nx (e : Env') (S : Store)
  | rt (d : D) (S : Store)
  | bk (e : Env') (S : Store)
  | ct (e : Env') (S : Store)
  | exc (x : Ex) (e : Env') (S : Store)
  | bad
/-! ### operations on data -/
def ofO {α : Type} (o : Option α) (S : Store) : R α :=
  match o with
  | some a => .ok a S
  | none => .bad
mutual
/-- without cells -/
def D.py : D → Option PyData
  | .non => some .none
  | .bl b => some (.bool b)
  | .int i => some (.int i)
  | .str x => some (.str x)
  | .tup xs => (D.pys xs).map .tuple
  | .lst xs => (D.pys xs).map .list
  | .frz xs => (D.pys xs).map .list
  | .ref _ => none
  | .gl _ => none
  | .ty _ => none
  | .dct => none
  | .mk _ => none
  | .sz _ => none
  | .exn _ _ => none
  | .dic _ _ => none
  | .rg _ _ => none
def D.pys : List D → Option (List PyData)
  | [] => some []
  | x :: xs => match x.py, D.pys xs with
    | some p, some ps => some (p :: ps)
    | _, _ => none
end
/-- a list cell's items: dict cells begin with a mark -/
def lsO : List D → Option (List D)
  | .mk _ :: _ => none
  | ds => some ds
def cel (S : Store) (l : Nat) : Option (List D) := (S[l]?).bind lsO
/-- a cell by its list -/
def pyS (S : Store) : D → Option PyData
  | .ref l => match cel S l with
    | some ds => (D.pys ds).map .list
    | none => none
  | d => d.py
def truth (S : Store) : D → Option Bool
  | .non => some false
  | .bl b => some b
  | .int i => some (i != 0)
  | .str x => if x.length ≤ sizeLine then some ((x.length : Int) != 0) else none
  | .tup xs => some (!xs.isEmpty)
  | .lst xs => some (!xs.isEmpty)
  | .frz xs => some (!xs.isEmpty)
  | .ref l => (cel S l).map fun xs => !xs.isEmpty
  | .gl _ => none
  | .ty _ => none
  | .dct => none
  | .mk _ => none
  | .sz _ => none
  | .exn _ _ => none
  | .dic _ _ => none
  | .rg _ _ => none
def mulOk (i j : Int) : Bool := decide (i.natAbs.log2 + j.natAbs.log2 < 1000000)
def divOk (j : Int) : Bool := decide (0 < j) && decide (j.natAbs.log2 < 9000)
def powOk (i j : Int) : Bool := decide (0 ≤ j) && decide ((Builtin.Int.intBits i : Int) * j ≤ 134217728)
def shlOk (i j : Int) : Bool := decide (0 ≤ j) && decide ((Builtin.Int.intBits i : Int) + j ≤ 134217728)
def iop : Operator → Int → Int → Option Int
  | .Add, a, b => some (a + b)
  | .Sub, a, b => some (a - b)
  | .Mult, a, b => if mulOk a b then some (a * b) else none
  | .FloorDiv, a, b => if divOk b then some (a / b) else none
  | .Mod, a, b => if 0 < b then some (a % b) else none
  | .Pow, a, b => if powOk a b then some (a ^ b.toNat) else none
  | .LShift, a, b => if shlOk a b then some (a * 2 ^ b.toNat) else none
  | .RShift, a, b => if 0 ≤ b then some (a / 2 ^ b.toNat) else none
  | .BitOr, a, b => some (Builtin.bitOr a b)
  | .BitAnd, a, b => some (Builtin.bitAnd a b)
  | .BitXor, a, b => some (Builtin.bitXor a b)
  | _, _, _ => none
def small (n : Nat) : Bool := decide (n ≤ sizeLine)
/-- a list's items, plain or in a cell -/
def itemsL (S : Store) : D → Option (List D)
  | .lst xs => some xs
  | .frz xs => some xs
  | .ref l => cel S l
  | _ => none
/-- .. one of our own -/
def itemsT (S : Store) : D → Option (List D)
  | .lst xs => some xs
  | .ref l => cel S l
  | _ => none
/-- .. or a tuple's -/
def itemsS (S : Store) : D → Option (List D)
  | .tup xs => some xs
  | .lst xs => some xs
  | .frz xs => some xs
  | .ref l => cel S l
  | _ => none
/-- a plain list's or tuple's -/
def itemsP : D → Option (List D)
  | .tup xs => some xs
  | .lst xs => some xs
  | .frz xs => some xs
  | _ => none
def binop (op : Operator) (x y : D) (S : Store) : Option D :=
  match x, y with
  | .int a, .int b => (iop op a b).map .int
  | .int a, .bl b => match op with
    | .Add => some (.int (a + b2i b))
    | _ => none
  | .tup a, .tup b => match op with
    | .Add => if small (a.length + b.length) then some (.tup (a ++ b)) else none
    | _ => none
  | .str a, .str b => match op with
    | .Add => if small (a.length + b.length) then some (.str (a ++ b)) else none
    | _ => none
  | .str a, .int k => match op with
    | .Mult => if decide (a.length ≤ 1000) && (decide (0 ≤ k) && decide (k ≤ 1000)) then some (.str (PySem.Txt.mul a k)) else none
    | _ => none
  | .tup a, .int k => match op with
    | .Mult => if !a.isEmpty && (decide (2 ≤ k) && (decide (k ≤ 1000) && decide (a.length ≤ 1000))) then some (.tup (List.replicate k.toNat a).flatten) else none
    | _ => none
  | .lst a, y => match op with
    | .Add => match itemsT S y with
      | some b => if small (a.length + b.length) then some (.lst (a ++ b)) else none
      | _ => none
    | .Mult => match y with
      | .int k => if decide (0 ≤ k) && (decide (k ≤ 1000) && decide (a.length ≤ 1000)) then some (.lst (List.replicate k.toNat a).flatten) else none
      | _ => none
    | _ => none
  | .ref l, y => match op with
    | .Add => match cel S l, itemsT S y with
      | some a, some b => if small (a.length + b.length) then some (.lst (a ++ b)) else none
      | _, _ => none
    | _ => none
  | _, _ => none
def eqD (S : Store) (x y : D) : Option Bool :=
  match pyS S x, pyS S y with
  | some p, some q => if SeqAt.shaped p && SeqAt.shaped q then some (PyData.eqv p q) else none
  | _, _ => none
def intsOf : List D → Option (List Int)
  | [] => some []
  | .int i :: r => (intsOf r).map (i :: ·)
  | _ => none
def ltD (op : CmpOp) (x y : D) : Option Bool :=
  match x, y with
  | .int a, .int b => match op with
    | .Lt => some (decide (a < b))
    | .LtE => some (decide (a ≤ b))
    | .Gt => some (decide (b < a))
    | .GtE => some (decide (b ≤ a))
    | _ => none
  | .tup a, .tup b => match op with
    | .Lt => match intsOf a, intsOf b with
      | some ns, some ms => some (HT.lexLt ns ms)
      | _, _ => none
    | _ => none
  | _, _ => none
def isD (x y : D) : Option Bool :=
  match y with
  | .non => some (match x with | .non => true | _ => false)
  | .bl b => match x with
    | .bl a => some (decide (a = b))
    | _ => none
  | _ => none
/-! dicts: entries are pairs of a key and a value, in order -/
mutual
def kq : D → D → Bool
  | .int i, .int j => decide (i = j)
  | .str x, .str y => decide (x = y)
  | .tup xs, .tup ys => kqs xs ys
  | .non, .non => true
  | _, _ => false
def kqs : List D → List D → Bool
  | [], [] => true
  | x :: xs, y :: ys => kq x y && kqs xs ys
  | _, _ => false
end
def dget (k : D) : List D → Option D
  | [] => none
  | .tup [k', d] :: r => if kq k' k then some d else dget k r
  | _ :: _ => none
def dhas (k : D) : List D → Bool
  | [] => false
  | .tup [k', _] :: r => kq k' k || dhas k r
  | _ :: _ => false
def drep (k d : D) : List D → List D
  | [] => []
  | .tup [k', d'] :: r => (if kq k' k then .tup [k', d] else .tup [k', d']) :: drep k d r
  | r => r
def dput (es : List D) (k d : D) : List D := if dhas k es then drep k d es else es ++ [.tup [k, d]]
def dmk : List D → List D → List D → List D
  | k :: ks, d :: ds, acc => dmk ks ds (dput acc k d)
  | _, _, acc => acc
/-- a number or a text -/
def kFlat : D → Bool
  | .int _ => true
  | .str _ => true
  | _ => false
mutual
/-- a key of nested tuples of numbers -/
def nkO : D → Option NestedKey
  | .non => some .none
  | .int i => some (.num i)
  | .tup xs => (nkOs xs).map .tup
  | _ => none
def nkOs : List D → Option (List NestedKey)
  | [] => some []
  | x :: xs => match nkO x, nkOs xs with
    | some k, some ks => some (k :: ks)
    | _, _ => none
end
def isTupD : D → Bool
  | .tup _ => true
  | _ => false
def kNest (d : D) : Bool := isTupD d && (match nkO d with
  | some k => decide (k.depth ≤ 8)
  | none => false)
/-- a dict's entries, and whether its keys are tuples -/
def dents (S : Store) : D → Option (Bool × List D)
  | .ref l => match S[l]? with
    | some (.mk t :: es) => some (t, es)
    | _ => none
  | .dic t es => some (t, es)
  | _ => none
def kyOk (t : Bool) (es : List D) (k : D) : Bool := if t then kNest k else (kFlat k || (es.isEmpty && kNest k))
/-- what a dict has at a key -/
def dgetK (S : Store) (x k : D) : Option (Option D) := (dents S x).bind fun p => if kyOk p.1 p.2 k then some (dget k p.2) else none
def dkey : D → D
  | .tup (k :: _) => k
  | _ => .non
/-- a pair with a flat key -/
def isPrF : D → Bool
  | .tup [k, _] => kFlat k
  | _ => false
def dval : D → D
  | .tup (_ :: v :: _) => v
  | _ => .non
/-- entries of pairs, later ones win -/
def dAdd (acc : List D) (p : D) : List D :=
  match p with
  | .tup [k, v] => dput acc k v
  | _ => acc
def dOf (ps acc : List D) : List D := ps.foldl dAdd acc
def dixD (S : Store) (x i : D) : Option D := (dgetK S x i).bind id
def inD (S : Store) (x y : D) : Option Bool :=
  match dents S y with
  | some _ => (dgetK S y x).map (·.isSome)
  | none => match pyS S x, pyS S y with
    | some p, some (.list qs) => if SeqAt.shaped p && SeqAt.shaped (.list qs) then some (qs.any fun z => PyData.eqv z p) else none
    | some p, some (.tuple qs) => if SeqAt.shaped p && SeqAt.shaped (.tuple qs) then some (qs.any fun z => PyData.eqv z p) else none
    | _, _ => none
def cmpop (op : CmpOp) (x y : D) (S : Store) : Option D :=
  match op with
  | .Eq => (eqD S x y).map .bl
  | .NotEq => (eqD S x y).map fun b => .bl (!b)
  | .Is => (isD x y).map .bl
  | .IsNot => (isD x y).map fun b => .bl (!b)
  | .In => (inD S x y).map .bl
  | .NotIn => (inD S x y).map fun b => .bl (!b)
  | .Lt => (ltD .Lt x y).map .bl
  | .LtE => (ltD .LtE x y).map .bl
  | .Gt => (ltD .Gt x y).map .bl
  | .GtE => (ltD .GtE x y).map .bl
def ixD (S : Store) (x i : D) : Option D :=
  match i with
  | .int k => match itemsS S x with
    | some xs => atI xs k
    | none => dixD S x i
  | i => dixD S x i
def cutD (xs : List D) (lo hi : Option Int) : List D := (xs.drop (HT.sIx xs.length 0 lo)).take (HT.sIx xs.length xs.length hi - HT.sIx xs.length 0 lo)
def slD (S : Store) (x : D) (lo hi : Option Int) : Option D :=
  match x with
  | .tup xs => some (.tup (cutD xs lo hi))
  | .lst xs => some (.lst (cutD xs lo hi))
  | .frz xs => some (.lst (cutD xs lo hi))
  | .ref l => (cel S l).map fun xs => .lst (cutD xs lo hi)
  | _ => none
/-- the items of a list from a place to a place, step by step -/
def pickD {α : Type} (xs : List α) (lo hi : Option Int) (c : Int) : List α :=
  (PySem.sliceRange (PySem.sliceBounds lo hi (some c) xs.length).1 (PySem.sliceBounds lo hi (some c) xs.length).2.1 (PySem.sliceBounds lo hi (some c) xs.length).2.2).filterMap fun i => xs[i]?
def sl3D (S : Store) (x : D) (lo hi : Option Int) (c : Int) : Option D := if decide (c ≠ 0) then (match x with
  | .tup xs => if decide (c ≠ 1) && small (EvZm.pickT xs lo hi c).length then some (.tup (EvZm.pickT xs lo hi c)) else none
  | x => (itemsL S x).map fun xs => .lst (pickD xs lo hi c)) else none
/-! ### built-ins by name -/
inductive BI where
  | len | abs | max2 | min2 | int | repr | sum | all | any | tuple | list | isI | set | max1 | min1 | sortI | bool1 | divmod
  deriving DecidableEq
def boolsOf : List D → Option (List Bool)
  | [] => some []
  | .bl b :: r => (boolsOf r).map (b :: ·)
  | _ => none
/-- the name of a value's type -/
def tyOf (S : Store) (x : D) : Option String :=
  match x with
  | .non => some "NoneType"
  | .bl _ => some "bool"
  | .int _ => some "int"
  | .str _ => some "str"
  | .tup _ => some "tuple"
  | .lst _ => some "list"
  | .frz _ => some "list"
  | .ref l => match S[l]? with
    | some (.mk t :: _) => if t then none else some "dict"
    | some _ => some "list"
    | none => none
  | .dct => some "dict"
  | _ => none
/-- is a kept error of a class, of one of some classes -/
def isCl : D → Bool
  | .gl _ => true
  | .ty _ => true
  | _ => false
def isEs (as : List ((Nat ⊕ String) × Bool)) : List D → Option Bool
  | [] => some false
  | d :: r => match (match d with
      | .gl j => as.lookup (.inl j)
      | .ty n => as.lookup (.inr n)
      | _ => none : Option Bool) with
    | some true => if r.all isCl then some true else none
    | some false => isEs as r
    | none => none
def isE (as : List ((Nat ⊕ String) × Bool)) : D → Option Bool
  | .gl j => as.lookup (.inl j)
  | .ty n => as.lookup (.inr n)
  | .tup cs => isEs as cs
  | _ => none
def isi (S : Store) (x c : D) : Option Bool :=
  match x with
  | .exn _ as => isE as c
  | x => match c, tyOf S x with
    | .ty n, some m => kitB m n
    | _, _ => none
def showD (S : Store) (x : D) : Option Str :=
  match pyS S x with
  | some p => if p.showable && (p.canLay0 && (decide (p.depth ≤ 64) && small p.shown.length)) then some p.shown else none
  | none => none
/-- rows of ints -/
def rowsT : List D → Option (List (List Int))
  | [] => some []
  | .tup ds :: r => match intsOf ds, rowsT r with
    | some k, some ks => some (k :: ks)
    | _, _ => none
  | _ => none
def mxI (n : Int) : List Int → Int
  | [] => n
  | m :: r => mxI (if m > n then m else n) r
def mnI (n : Int) : List Int → Int
  | [] => n
  | m :: r => mnI (if m < n then m else n) r
def mxO : List Int → Option Int
  | [] => none
  | n :: r => some (mxI n r)
def mnO : List Int → Option Int
  | [] => none
  | n :: r => some (mnI n r)
/-- rising -/
def inI (n : Int) : List Int → List Int
  | [] => [n]
  | m :: r => if n ≤ m then n :: m :: r else m :: inI n r
def insI : List Int → List Int
  | [] => []
  | n :: r => inI n (insI r)
def strsOf : List D → Option (List Str)
  | [] => some []
  | .str x :: r => (strsOf r).map (x :: ·)
  | _ => none
/-- texts, rising -/
def inC (n : Str) : List Str → List Str
  | [] => [n]
  | m :: r => if ltCps m.cps.toList n.cps.toList then m :: inC n r else n :: m :: r
def insC : List Str → List Str
  | [] => []
  | n :: r => inC n (insC r)
/-- data, rising: stable -/
def inP (n : PyData × D) : List (PyData × D) → List (PyData × D)
  | [] => [n]
  | m :: r => if PySem.W.dataLt m.1 n.1 then m :: inP n r else n :: m :: r
def insP : List (PyData × D) → List (PyData × D)
  | [] => []
  | n :: r => inP n (insP r)
def isTupP : PyData → Bool
  | .tuple (_ :: _) => true
  | _ => false
def alikeL (ps : List PyData) : Bool := ps.all fun d => ps.all fun e => PySem.W.alike d e
def sortP (xs : List D) : Option D := (D.pys xs).bind fun ps => if (ps.all isTupP && ((rowsT xs).isSome || alikeL ps)) && (decide (xs.length ≤ sizeLine) && ps.all fun p => decide (p.depth ≤ 8)) then some (.lst ((insP (ps.zip xs)).map (·.2))) else none
def sortO (xs : List D) : Option D :=
  match intsOf xs with
  | some ns => some (.lst ((insI ns).map .int))
  | none => match strsOf xs with
    | some zs => if decide (zs.length < 64) then some (.lst ((insC zs).map .str)) else none
    | none => sortP xs
def bcall (b : BI) (ds : List D) (S : Store) : Option D :=
  match b, ds with
  | .len, [x] => match x with
    | .str y => if small y.length then some (.int y.length) else none
    | .sz n => some (.int n)
    | x => match itemsS S x with
      | some xs => some (.int xs.length)
      | none => (dents S x).map fun p => .int p.2.length
  | .abs, [.int i] => some (.int (if i < 0 then -i else i))
  | .max2, [.int i, .int j] => some (.int (if j > i then j else i))
  | .min2, [.int i, .int j] => some (.int (if j < i then j else i))
  | .int, [.int i] => some (.int i)
  | .int, [.bl b] => some (.int (if b then 1 else 0))
  | .int, [.str a] => if decide (a.length ≤ 640) then (PySem.intText? a).map .int else none
  | .repr, [x] => (showD S x).map .str
  | .sum, [x] => (itemsL S x).bind fun xs => (intsOf xs).map fun ns => .int ns.sum
  | .all, [x] => (itemsL S x).bind fun xs => (boolsOf xs).map fun ns => .bl (ns.all id)
  | .any, [x] => (itemsL S x).bind fun xs => (boolsOf xs).map fun ns => .bl (ns.any id)
  | .tuple, [x] => (itemsS S x).map .tup
  | .list, [x] => (itemsS S x).map .lst
  | .isI, [x, c] => (isi S x c).map .bl
  | .set, [x] => (itemsS S x).bind fun xs => (rowsT xs).bind fun ks => if decide (ks.length < 64) then some (.sz (EvZs.dN ks)) else none
  | .max1, [x] => (itemsL S x).bind fun xs => (intsOf xs).bind fun ns => (mxO ns).map .int
  | .min1, [x] => (itemsL S x).bind fun xs => (intsOf xs).bind fun ns => (mnO ns).map .int
  | .sortI, [x] => match itemsL S x with
    | some xs => sortO xs
    | none => (dents S x).bind fun p => sortO (p.2.map dkey)
  | .bool1, [.int i] => some (.bl (i != 0))
  | .bool1, [.bl b] => some (.bl b)
  | .divmod, [.int a, .int b] => if divOk b then some (.tup [.int (a / b), .int (a % b)]) else none
  | _, _ => none
/-! ### methods -/
inductive ME where
  | append | bits | pop | popAt | extend | count | index
  deriving DecidableEq
def mcall (m : ME) (o : D) (ds : List D) (S : Store) : Option (D × Store) :=
  match m, o, ds with
  | .bits, .int i, [] => some (.int (Builtin.Int.intBits i : Nat), S)
  | .append, .ref l, [d] => match cel S l with
    | some xs => if d.calm && decide (xs.length < sizeLine) then some (.non, S.set l (xs ++ [d])) else none
    | none => none
  | .pop, .ref l, [] => match cel S l with
    | some xs => match xs[xs.length - 1]? with
      | some d => some (d, S.set l xs.dropLast)
      | none => none
    | none => none
  | .popAt, .ref l, [.int i] => match cel S l with
    | some xs => match seqIndex? i xs.length with
      | some k => match xs[k]? with
        | some d => if decide (-(2 ^ 63) ≤ i) && decide (i < 2 ^ 63) then some (d, S.set l (xs.eraseIdx k)) else none
        | none => none
      | none => none
    | none => none
  | .extend, .ref l, [y] => match cel S l, itemsT S y with
    | some xs, some ys => if D.calms ys && decide (xs.length + ys.length ≤ sizeLine) then some (.non, S.set l (xs ++ ys)) else none
    | _, _ => none
  | .count, o, [d] => match pyS S o, pyS S d with
    | some (.list ps), some p => if SeqAt.shaped (.list ps) && SeqAt.shaped p then some (.int (ps.countP fun z => PyData.eqv z p : Nat), S) else none
    | _, _ => none
  | .index, o, [d] => match pyS S o, pyS S d with
    | some (.list ps), some p => if SeqAt.shaped (.list ps) && SeqAt.shaped p then (ps.findIdx? fun z => PyData.eqv z p).map fun j => (.int (j : Nat), S) else none
    | _, _ => none
  | _, _, _ => none
def recvOk (m : ME) (o : D) (S : Store) : Bool :=
  match m, o with
  | .bits, .int _ => true
  | .bits, _ => false
  | .count, o => (itemsL S o).isSome
  | .index, o => (itemsL S o).isSome
  | _, .ref l => (cel S l).isSome
  | _, _ => false
/-! ### the language -/
inductive Src where
  | arg (j : Nat)
  | dfl (d : D)
mutual
inductive IE where
  | var (i : Nat)
  | cst (d : D)
  | bin (op : Operator) (a b : IE)
  | neg (a : IE)
  | notE (a : IE)
  | cmp (op : CmpOp) (a b : IE)
  | chain (op op' : CmpOp) (a b c : IE)
  | andE (a b : IE)
  | orE (a b : IE)
  | ite (c a b : IE)
  | tupE (es : IEs)
  | lstE (mu : Bool) (es : IEs)
  | ix (a i : IE)
  | sl (a : IE) (lo hi : IO)
  | sl3 (a : IE) (lo hi st : IO)
  | callF (k : Nat) (src : List Src) (es : IEs)
  | callB (b : BI) (es : IEs)
  | meth (m : ME) (o : IE) (es : IEs)
  | comp (mu : Bool) (own : List Nat) (tg : IG) (it : II) (ifs : IO) (elt : IE)
  | lamF (w : Option Str) (res : List (Nat × Str)) (e : IE)
  | lamK (res : List (Nat × Str)) (e : IE)
  | dctE
  | dsp (ks : List D) (es : IEs)
  | dcT (own : List Nat) (tg : IG) (it : II) (ifs : IO) (ke ve : IE)
  | tupS (st : List Bool) (es : IEs)
  | chkS (e : IE)
  | lrg (mu : Bool) (a : IE)
  | newL (e : IE)
  | callL (i : Nat) (tbl : List (Nat × List Src)) (es : IEs)
  | tget (kvs : List (Str × D)) (e : IE)
  | dsp1 (k v : IE)
  | dnew
  | dgt1 (o k : IE)
  | dgt2 (o k x : IE)
  | tgetI (kvs : List (Int × Int)) (e d : IE)
  | rngV (a b : IE)
  | lzip (a b : IE)
  | dprs (e : IE)
  | lstS (st : List Bool) (es : IEs)
inductive IEs where
  | nil
  | cons (e : IE) (r : IEs)
inductive IO where
  | none
  | some (e : IE)
inductive IG where
  | nm (i : Nat)
  | tup (ts : IGs)
inductive IGs where
  | nil
  | cons (g : IG) (r : IGs)
inductive II where
  | seq (e : IE)
  | rng (lo hi : IE)
  | rev (lo hi : IE)
  | zip (a b : IE)
  | enum (a : IE)
end
/-! ### targets -/
mutual
def bindG : IG → D → Env' → Option Env'
  | .nm i, d, env => some (env.set i (some d))
  | .tup ts, .tup ds, env => bindGs ts ds env
  | .tup ts, .lst ds, env => bindGs ts ds env
  | .tup _, _, _ => none
def bindGs : IGs → List D → Env' → Option Env'
  | .nil, [], env => some env
  | .cons g r, d :: ds, env => match bindG g d env with
    | some env' => bindGs r ds env'
    | none => none
  | _, _, _ => none
end
def wipeE (env : Env') : List Nat → Env'
  | [] => env
  | i :: r => (wipeE env r).set i none
inductive It' where
  | st (ds : List D)
  | dyn (l : Nat)
def rpOk (b : BI) (lf : Nat) : Bool :=
  match b with
  | .repr => lf % 2 == 0
  | _ => true
def appO (a : List D) (o : Option D) : List D :=
  match o with
  | some d => a ++ [d]
  | none => a
/-- a comprehension's keys are of one kind -/
def dcT (ps : List D) : Bool := !ps.isEmpty && ps.all fun p => kNest (dkey p)
def dcOk (ps : List D) : Bool := (ps.all fun p => kNest (dkey p)) || ps.all fun p => kFlat (dkey p)
def compL (h : D → Store → R (Option D)) : List D → List D → Store → R (List D)
  | [], acc, S => .ok acc S
  | d :: r, acc, S => (h d S).bind fun o S1 => if decide (acc.length < sizeLine) then compL h r (appO acc o) S1 else .bad
def compR (h : D → Store → R (Option D)) (l : Nat) : Nat → Nat → List D → Store → R (List D)
  | 0, _, _, _ => .bad
  | n + 1, i, acc, S => match cel S l with
    | none => .bad
    | some xs => match xs[i]? with
      | none => .ok acc S
      | some d => (h d S).bind fun o S1 => if decide (acc.length < sizeLine) then compR h l n (i + 1) (appO acc o) S1 else .bad
def compI (lf : Nat) (h : D → Store → R (Option D)) (it : It') (S : Store) : R (List D) :=
  match it with
  | .st ds => compL h ds [] S
  | .dyn l => compR h l lf 0 [] S
def okR (i j : Int) : Bool := decide (-(2 ^ 62) ≤ i) && (decide (i < 2 ^ 62) && (decide (-(2 ^ 62) ≤ j) && decide (j < 2 ^ 62)))
def upto (lo hi : Int) : List D := (List.range (hi - lo).toNat).map fun i => .int (lo + (i : Nat))
def isSt (d : D) (S : Store) : R It' :=
  match d with
  | .tup xs => .ok (.st xs) S
  | .lst xs => .ok (.st xs) S
  | .frz xs => .ok (.st xs) S
  | .ref l => if (cel S l).isSome then .ok (.dyn l) S else .bad
  | .str x => if small x.length then .ok (.st (x.cps.toList.map fun c => .str ⟨#[c]⟩)) S else .bad
  | .rg i j => if okR i j then .ok (.st (upto i j)) S else .bad
  | _ => .bad
def mkL (mu : Bool) (ds : List D) (S : Store) : R D :=
  if mu then (if D.calms ds then .ok (.ref S.length) (S ++ [ds]) else .bad) else .ok (.lst ds) S
def getSrc (vs : List D) : List Src → Option (List D)
  | [] => some []
  | .arg j :: r => match vs[j]?, getSrc vs r with
    | some d, some ds => some (d :: ds)
    | _, _ => none
  | .dfl d :: r => (getSrc vs r).map (d :: ·)
def downto (lo hi : Int) : List D := (List.range (hi - lo).toNat).map fun i => .int (lo + (((hi - lo).toNat : Nat) : Int) - 1 + (i : Nat) * (-1))
def zipD (a b : List D) : List D := (a.zip b).map fun p => .tup [p.1, p.2]
def enumD (n : Nat) : List D → List D
  | [] => []
  | d :: r => .tup [.int (n : Nat), d] :: enumD (n + 1) r
def bcallR (lf : Nat) (b : BI) (ds : List D) (S : Store) : Option D := if rpOk b lf then bcall b ds S else none
/-! ### a call sees the cells that are handed to it, and no others -/
def shrD : List D → Nat → Option (List D)
  | [], _ => some []
  | d :: r, n => match d with
    | .ref _ => (shrD r (n + 1)).map (.ref n :: ·)
    | d => if d.calm then (shrD r n).map (d :: ·) else none
def refsL : List D → List Nat
  | [] => []
  | d :: r => match d with
    | .ref l => l :: refsL r
    | _ => refsL r
def cellsL (S : Store) : List Nat → Option Store
  | [] => some []
  | l :: r => match S[l]?, cellsL S r with
    | some c, some cs => some (c :: cs)
    | _, _ => none
def putL : List Nat → Store → Store → Store
  | [], S, _ => S
  | l :: r, S, T => match T with
    | c :: cs => putL r (S.set l c) cs
    | [] => S
def noDup : List Nat → Bool
  | [] => true
  | l :: r => !r.contains l && noDup r
mutual
/-- a value with cells of its own, which become plain lists -/
def D.thaw (n : Nat) (S : Store) : D → Option D
  | .ref l => if n ≤ l then (match S[l]? with
    | some (.mk t :: es) => some (.dic t es)
    | some ds => (lsO ds).map .lst
    | none => none) else none
  | .tup xs => (D.thaws n S xs).map .tup
  | .lst xs => (D.thaws n S xs).map .lst
  | .frz xs => (D.thaws n S xs).map .frz
  | .non => some .non
  | .bl b => some (.bl b)
  | .int i => some (.int i)
  | .str x => some (.str x)
  | .gl k => some (.gl k)
  | .ty t => some (.ty t)
  | .dct => some .dct
  | .mk _ => none
  | .sz _ => none
  | .exn _ _ => none
  | .dic t es => if D.calms es then some (.dic t es) else none
  | .rg i j => some (.rg i j)
def D.thaws (n : Nat) (S : Store) : List D → Option (List D)
  | [] => some []
  | x :: r => match x.thaw n S, D.thaws n S r with
    | some y, some ys => some (y :: ys)
    | _, _ => none
end
def backD (ls : List Nat) (S S1 : Store) (d : D) : R D :=
  match d with
  | .ref j => (match ls[j]? with
    | some l => .ok (.ref l) (putL ls S S1)
    | none => match S1[j]? with
      | some c => .ok (.ref S.length) (putL ls S S1 ++ [c])
      | none => .bad)
  | d => if d.calm then .ok d (putL ls S S1) else (match d.thaw ls.length S1 with
    | some y => .ok y (putL ls S S1)
    | none => .bad)
def cutCall (f : List D → Store → R D) (ds : List D) (S : Store) : R D :=
  match shrD ds 0, cellsL S (refsL ds), noDup (refsL ds) with
  | some es, some S0, true => (match f es S0 with
    | .ok d S1 => backD (refsL ds) S S1 d
    | .exc x S1 => .exc x (putL (refsL ds) S S1)
    | .bad => .bad)
  | _, _, _ => .bad
/-- starred items are taken apart -/
def splD : List Bool → List D → Option (List D)
  | [], [] => some []
  | true :: bs, d :: ds => match itemsP d, splD bs ds with
    | some a, some r => some (a ++ r)
    | _, _ => none
  | false :: bs, d :: ds => (splD bs ds).map (d :: ·)
  | _, _ => none
structure Cf where
  lf : Nat
  call : Nat → List D → Store → R D
  lam : IE → Env' → Store → R D
def wrapD (w : Option Str) (d : D) : D :=
  match w with
  | some x => .tup [.str x, d]
  | none => d
mutual
def evE (c : Cf) : IE → Env' → Store → R D
  | .var i, env, S => match env[i]? with
    | some (some d) => .ok d S
    | _ => .bad
  | .cst d, _, S => .ok d S
  | .bin op a b, env, S => (evE c a env S).bind fun x S1 => (evE c b env S1).bind fun y S2 => ofO (binop op x y S2) S2
  | .neg a, env, S => (evE c a env S).bind fun x S1 => match x with
    | .int i => .ok (.int (-i)) S1
    | _ => .bad
  | .notE a, env, S => (evE c a env S).bind fun x S1 => match truth S1 x with
    | some b => .ok (.bl (!b)) S1
    | none => .bad
  | .cmp op a b, env, S => (evE c a env S).bind fun x S1 => (evE c b env S1).bind fun y S2 => ofO (cmpop op x y S2) S2
  | .chain op op' a b d, env, S => (evE c a env S).bind fun x S1 => (evE c b env S1).bind fun y S2 => match cmpop op x y S2 with
    | some (.bl true) => (evE c d env S2).bind fun w S4 => ofO (cmpop op' y w S4) S4
    | some (.bl false) => .ok (.bl false) S2
    | _ => .bad
  | .andE a b, env, S => (evE c a env S).bind fun x S1 => match truth S1 x with
    | some true => evE c b env S1
    | some false => .ok x S1
    | none => .bad
  | .orE a b, env, S => (evE c a env S).bind fun x S1 => match truth S1 x with
    | some true => .ok x S1
    | some false => evE c b env S1
    | none => .bad
  | .ite t a b, env, S => (evE c t env S).bind fun x S1 => match truth S1 x with
    | some true => evE c a env S1
    | some false => evE c b env S1
    | none => .bad
  | .tupE es, env, S => (evEs c es env S).bind fun ds S1 => if small ds.length then .ok (.tup ds) S1 else .bad
  | .lstE mu es, env, S => (evEs c es env S).bind fun ds S1 => if small ds.length then mkL mu ds S1 else .bad
  | .ix a i, env, S => (evE c a env S).bind fun x S1 => (evE c i env S1).bind fun y S2 => ofO (ixD S2 x y) S2
  | .sl a lo hi, env, S => (evE c a env S).bind fun x S1 => (evO c lo env S1).bind fun l S2 => (evO c hi env S2).bind fun h S3 => ofO (slD S3 x l h) S3
  | .sl3 a lo hi st, env, S => (evE c a env S).bind fun x S1 => (evO c lo env S1).bind fun l S2 => (evO c hi env S2).bind fun h S3 => (evO c st env S3).bind fun d S4 => match d with
    | some k => ofO (sl3D S4 x l h k) S4
    | none => .bad
  | .callF k src es, env, S => (evEs c es env S).bind fun vs S1 => match getSrc vs src with
    | some ds => cutCall (c.call k) ds S1
    | none => .bad
  | .callB b es, env, S => (evEs c es env S).bind fun ds S1 => ofO (bcallR c.lf b ds S1) S1
  | .meth m o es, env, S => (evE c o env S).bind fun x S1 => if recvOk m x S1 then (evEs c es env S1).bind fun ds S2 => match mcall m x ds S2 with
    | some (d, S3) => .ok d S3
    | none => .bad
    else .bad
  | .comp mu own tg it ifs elt, env, S => (evI c it env S).bind fun J S1 =>
    match compI c.lf (fun d S2 => match bindG tg d (wipeE env own) with
      | none => .bad
      | some env2 => (evC c ifs env2 S2).bind fun b S3 => if b then (evE c elt env2 S3).bind fun y S4 => .ok (some y) S4 else .ok none S3) J S1 with
    | .ok ds S5 => mkL mu ds S5
    | .exc _ _ => .bad
    | .bad => .bad
  | .lamK res e, env, S => if c.lf % 2 == 0 then (match c.lam e env S with
    | .ok d S1 => if d.calm then .ok d S1 else .bad
    | .exc x S1 => (match res.lookup x.cls with
      | some z => if x.fs.isEmpty then .ok (.lst [.str z]) S1 else .bad
      | none => .bad)
    | .bad => .bad) else .bad
  | .lamF w res e, env, S => if c.lf % 2 == 0 then (match c.lam e env S with
    | .ok d S1 => .ok (wrapD w d) S1
    | .exc x S1 => (match res.lookup x.cls with
      | some z => if x.fs.isEmpty then .ok (.str z) S1 else .bad
      | none => .bad)
    | .bad => .bad) else .bad
  | .dctE, _, S => .ok .dct S
  | .dsp ks es, env, S => (evEs c es env S).bind fun ds S1 => if D.calms ds then .ok (.ref S1.length) (S1 ++ [.mk false :: dmk ks ds []]) else .bad
  | .dcT own tg it ifs ke ve, env, S => (evI c it env S).bind fun J S1 =>
    match compI c.lf (fun d S2 => match bindG tg d (wipeE env own) with
      | none => .bad
      | some env2 => (evC c ifs env2 S2).bind fun b S3 => if b then (evE c ke env2 S3).bind fun k S4 => (evE c ve env2 S4).bind fun v S5 => if (kNest k || kFlat k) && v.calm then .ok (some (.tup [k, v])) S5 else .bad else .ok none S3) J S1 with
    | .ok ps S5 => if dcOk ps then .ok (.ref S5.length) (S5 ++ [.mk (dcT ps) :: dOf ps []]) else .bad
    | .exc _ _ => .bad
    | .bad => .bad
  | .lrg mu a, env, S => (evE c a env S).bind fun x S1 => match x with
    | .int n => if decide (0 ≤ n) && decide (n < 1000000) then mkL mu (upto 0 n) S1 else .bad
    | _ => .bad
  | .chkS e, env, S => (evE c e env S).bind fun d S1 => if (itemsP d).isSome then .ok d S1 else .bad
  | .tupS st es, env, S => (evEs c es env S).bind fun ds S1 => match splD st ds with
    | some xs => if small xs.length then .ok (.tup xs) S1 else .bad
    | none => .bad
  | .newL e, env, S => (evE c e env S).bind fun x S1 => match itemsS S1 x with
    | some ds => mkL true ds S1
    | none => .bad
  | .callL i tbl es, env, S => match env[i]? with
    | some (some (.gl k)) => match tbl.lookup k with
      | some src => (evEs c es env S).bind fun vs S1 => match getSrc vs src with
        | some ds => cutCall (c.call k) ds S1
        | none => .bad
      | none => .bad
    | _ => .bad
  | .tget kvs e, env, S => (evE c e env S).bind fun d S1 => match d with
    | .str z => ofO (kvs.lookup z) S1
    | _ => .bad
  | .dsp1 ke ve, env, S => (evE c ke env S).bind fun k S1 => (evE c ve env S1).bind fun v S2 => if kNest k && v.calm then .ok (.ref S2.length) (S2 ++ [[.mk true, .tup [k, v]]]) else .bad
  | .dgt1 oe ke, env, S => (evE c oe env S).bind fun d S1 => if (dents S1 d).isSome then (evE c ke env S1).bind fun y S2 => match dgetK S2 d y with
    | some v => .ok (v.getD .non) S2
    | none => .bad
    else .bad
  | .dgt2 oe ke xe, env, S => (evE c oe env S).bind fun d S1 => if (dents S1 d).isSome then (evE c ke env S1).bind fun y S2 => (evE c xe env S2).bind fun z S3 => match dgetK S3 d y with
    | some v => .ok (v.getD z) S3
    | none => .bad
    else .bad
  | .dnew, _, S => .ok (.ref S.length) (S ++ [[.mk false]])
  | .rngV a b, env, S => (evE c a env S).bind fun x S1 => (evE c b env S1).bind fun y S2 => match x, y with
    | .int i, .int j => if okR i j then .ok (.rg i j) S2 else .bad
    | _, _ => .bad
  | .lzip a b, env, S => (evE c a env S).bind fun x S1 => (evE c b env S1).bind fun y S2 => match itemsT S2 x, itemsT S2 y with
    | some xs, some ys => if small (xs.length + ys.length) then mkL true (xs ++ ys) S2 else .bad
    | _, _ => .bad
  | .dprs e, env, S => (evE c e env S).bind fun _ _ => .bad
  | .lstS st es, env, S => (evEs c es env S).bind fun ds S1 => match splD st ds with
    | some xs => if small xs.length then .ok (.lst xs) S1 else .bad
    | none => .bad
  | .tgetI kvs e f, env, S => (evE c e env S).bind fun d S1 => (evE c f env S1).bind fun x S2 => match d with
    | .int i => .ok (((kvs.lookup i).map D.int).getD x) S2
    | _ => .bad
def evEs (c : Cf) : IEs → Env' → Store → R (List D)
  | .nil, _, S => .ok [] S
  | .cons e r, env, S => (evE c e env S).bind fun d S1 => (evEs c r env S1).bind fun ds S2 => .ok (d :: ds) S2
def evO (c : Cf) : IO → Env' → Store → R (Option Int)
  | .none, _, S => .ok none S
  | .some e, env, S => (evE c e env S).bind fun d S1 => match d with
    | .int i => .ok (some i) S1
    | _ => .bad
def evC (c : Cf) : IO → Env' → Store → R Bool
  | .none, _, S => .ok true S
  | .some e, env, S => (evE c e env S).bind fun d S1 => ofO (truth S1 d) S1
def evI (c : Cf) : II → Env' → Store → R It'
  | .seq e, env, S => (evE c e env S).bind fun d S1 => isSt d S1
  | .rng a b, env, S => (evE c a env S).bind fun x S1 => (evE c b env S1).bind fun y S2 => match x, y with
    | .int i, .int j => if okR i j then .ok (.st (upto i j)) S2 else .bad
    | _, _ => .bad
  | .rev a b, env, S => (evE c a env S).bind fun x S1 => (evE c b env S1).bind fun y S2 => match x, y with
    | .int i, .int j => if okR i j then .ok (.st (downto i j)) S2 else .bad
    | _, _ => .bad
  | .zip a b, env, S => (evE c a env S).bind fun x S1 => (evE c b env S1).bind fun y S2 => match itemsP x, itemsP y with
    | some xs, some ys => .ok (.st (zipD xs ys)) S2
    | _, _ => .bad
  | .enum a, env, S => (evE c a env S).bind fun x S1 => match itemsP x with
    | some xs => .ok (.st (enumD 0 xs)) S1
    | none => .bad
end
/-! ### statements -/
mutual
inductive IS where
  | asg (g : IG) (e : IE)
  | par (is : List Nat) (es : IEs)
  | star (gs : IGs) (n : Nat) (e : IE)
  | aug (i : Nat) (op : Operator) (e : IE)
  | setIx (o i e : IE)
  | expr (e : IE)
  | ret (e : IE)
  | retN
  | raise (k : Nat) (es : IEs)
  | ifS (t : IE) (a b : ISs)
  | whil (t : IE) (b : ISs)
  | forS (g : IG) (it : II) (b : ISs)
  | pass
  | brk
  | cont
  | tryS (b : ISs) (hs : IHs)
  | tryK (b : ISs) (ks : List (Nat × List ((Nat ⊕ String) × Bool))) (ie ic : Nat)
  | bad
inductive ISs where
  | nil
  | cons (s : IS) (r : ISs)
inductive IHs where
  | nil
  | cons (k : Nat) (v : Option Nat) (b : ISs) (r : IHs)
end
@[inline] def SR.then (r : SR) (f : Env' → Store → SR) : SR :=
  match r with
  | .nx e S => f e S
  | r => r
/-- an expression's value into a statement -/
@[inline] def R.go {α : Type} (r : R α) (env : Env') (f : α → Store → SR) : SR :=
  match r with
  | .ok a S => f a S
  | .exc x S => .exc x env S
  | .bad => .bad
def setAll (env : Env') : List Nat → List D → Option Env'
  | [], [] => some env
  | i :: is, d :: ds => setAll (env.set i (some d)) is ds
  | _, _ => none
def forL (h : D → Env' → Store → SR) : List D → Env' → Store → SR
  | [], env, S => .nx env S
  | d :: r, env, S => match h d env S with
    | .nx e1 S1 => forL h r e1 S1
    | .ct e1 S1 => forL h r e1 S1
    | .bk e1 S1 => .nx e1 S1
    | .rt v S1 => .rt v S1
    | .exc x e1 S1 => .exc x e1 S1
    | .bad => .bad
def forR (h : D → Env' → Store → SR) (l : Nat) : Nat → Nat → Env' → Store → SR
  | 0, _, _, _ => .bad
  | n + 1, i, env, S => match cel S l with
    | none => .bad
    | some xs => match xs[i]? with
      | none => .nx env S
      | some d => match h d env S with
        | .nx e1 S1 => forR h l n (i + 1) e1 S1
        | .ct e1 S1 => forR h l n (i + 1) e1 S1
        | .bk e1 S1 => .nx e1 S1
        | .rt v S1 => .rt v S1
        | .exc x e1 S1 => .exc x e1 S1
        | .bad => .bad
def whileN (t : Env' → Store → R D) (b : Env' → Store → SR) : Nat → Env' → Store → SR
  | 0, _, _ => .bad
  | n + 1, env, S => (t env S).go env fun d S1 => match truth S1 d with
    | none => .bad
    | some false => .nx env S1
    | some true => match b env S1 with
      | .nx e1 S2 => whileN t b n e1 S2
      | .ct e1 S2 => whileN t b n e1 S2
      | .bk e1 S2 => .nx e1 S2
      | .rt v S2 => .rt v S2
      | .exc x e1 S2 => .exc x e1 S2
      | .bad => .bad
/-- augmented assignment of plain values: the same as the plain operation, but for lists -/
def augop (op : Operator) (x y : D) : Option D :=
  match x, y with
  | .int a, .int b => match op with
    | .Add => some (.int (a + b))
    | .Sub => some (.int (a - b))
    | .Mult => if mulOk a b then some (.int (a * b)) else none
    | .FloorDiv => if divOk b then some (.int (a / b)) else none
    | _ => none
  | _, _ => none
/-- d[y] = v -/
def setD (l : Nat) (y v : D) (env : Env') (S : Store) : SR :=
  match S[l]? with
  | some (.mk t :: es) => if kyOk t es y && (v.calm && decide (es.length < sizeLine)) then .nx env (S.set l (.mk (kNest y) :: dput es y v)) else .bad
  | _ => .bad
/-- a list's cell is taken apart -/
def unp (S : Store) : IG → D → D
  | .tup _, .ref l => match cel S l with
    | some xs => .lst xs
    | none => .ref l
  | _, d => d
mutual
def evS (c : Cf) : IS → Env' → Store → SR
  | .asg g e, env, S => (evE c e env S).go env fun d S1 => match bindG g (unp S1 g d) env with
    | some env' => .nx env' S1
    | none => .bad
  | .par is es, env, S => (evEs c es env S).go env fun ds S1 => match setAll env is ds with
    | some env' => .nx env' S1
    | none => .bad
  | .star gs n e, env, S => (evE c e env S).go env fun d S1 => match d with
    | .tup ds => if n ≤ ds.length then (match bindGs gs (ds.take n ++ [.lst (ds.drop n)]) env with
      | some env' => .nx env' S1
      | none => .bad) else .bad
    | _ => .bad
  | .aug i op e, env, S => match env[i]? with
    | some (some x) => (evE c e env S).go env fun y S1 => match augop op x y with
      | some z => .nx (env.set i (some z)) S1
      | none => .bad
    | _ => .bad
  | .setIx o i e, env, S => (evE c e env S).go env fun v S1 => (evE c o env S1).go env fun x S2 => (evE c i env S2).go env fun y S3 => match x, y with
    | .ref l, .int k => match cel S3 l with
      | some xs => match ixN xs.length k with
        | some j => if v.calm then .nx env (S3.set l (xs.set j v)) else .bad
        | none => .bad
      | none => setD l (.int k) v env S3
    | .ref l, y => setD l y v env S3
    | _, _ => .bad
  | .expr e, env, S => (evE c e env S).go env fun _ S1 => .nx env S1
  | .ret e, env, S => (evE c e env S).go env fun d S1 => .rt d S1
  | .retN, _, S => .rt .non S
  | .raise k es, env, S => (evEs c es env S).go env fun ds S1 => match ds with
    | [] => .exc ⟨k, []⟩ env S1
    | _ => .bad
  | .ifS t a b, env, S => (evE c t env S).go env fun d S1 => match truth S1 d with
    | some true => evSs c a env S1
    | some false => evSs c b env S1
    | none => .bad
  | .whil t b, env, S => whileN (evE c t) (evSs c b) c.lf env S
  | .forS g it b, env, S => (evI c it env S).go env fun J S1 =>
    match J with
    | .st ds => forL (fun d e1 S2 => match bindG g d e1 with
      | some e2 => evSs c b e2 S2
      | none => .bad) ds env S1
    | .dyn l => forR (fun d e1 S2 => match bindG g d e1 with
      | some e2 => evSs c b e2 S2
      | none => .bad) l c.lf 0 env S1
  | .pass, env, S => .nx env S
  | .brk, env, S => .bk env S
  | .cont, env, S => .ct env S
  | .tryS b hs, env, S => match evSs c b env S with
    | .exc x e1 S1 => evHs c hs x e1 S1
    | r => r
  | .tryK b ks ie ic, env, S => match evSs c b env S with
    | .exc x e1 S1 => match x.fs, ks.lookup x.cls with
      | [], some as => .nx (((e1.set ie (some (.exn x.cls as))).set ic (some (.exn x.cls as))).set ie none) S1
      | _, _ => .bad
    | r => r
  | .bad, _, _ => .bad
def evSs (c : Cf) : ISs → Env' → Store → SR
  | .nil, env, S => .nx env S
  | .cons s r, env, S => (evS c s env S).then fun e1 S1 => evSs c r e1 S1
def evHs (c : Cf) : IHs → Ex → Env' → Store → SR
  | .nil, x, env, S => .exc x env S
  | .cons _ _ _ _, _, _, _ => .bad
end
structure Fn where
  np : Nat
  ns : Nat
  body : ISs
def finR (n : Nat) (r : SR) : R D :=
  match r with
  | .nx _ S => .ok .non (S.take n)
  | .rt d S => if d.calm then .ok d (S.take n) else .ok d S
  | .exc x _ S => .exc x (S.take n)
  | _ => .bad
def evF (T : List Fn) : Nat → Nat → Nat → List D → Store → R D
  | _, 0, _, _, _ => .bad
  | lf, lv + 1, k, args, S => match T[k]? with
    | some f => if decide (args.length = f.np) then finR S.length (evSs ⟨lf, evF T lf lv, match lv with
      | n + 2 => evE ⟨lf + 1, evF T (lf + 1) n, fun _ _ _ => .bad⟩
      | _ => fun _ _ _ => .bad⟩ f.body (args.map some ++ List.replicate (f.ns - args.length) none) S) else .bad
    | none => .bad
/-- what a def's lambdas are evaluated by -/
def lamAt (T : List Fn) (lf lv : Nat) : IE → Env' → Store → R D := match lv with
  | n + 2 => evE ⟨lf + 1, evF T (lf + 1) n, fun _ _ _ => .bad⟩
  | _ => fun _ _ _ => .bad
/-- the context of a def's body -/
def cfAt (T : List Fn) (lf lv : Nat) : Cf := ⟨lf, evF T lf lv, lamAt T lf lv⟩
/-- .. of a lambda's -/
def cfLo (T : List Fn) (lf lv : Nat) : Cf := ⟨lf, evF T lf lv, fun _ _ _ => .bad⟩
def keyD : Key → D
  | .inl i => .int i
  | .inr x => .str x
def tkeyD (ks : List Key) : D := .tup (ks.map keyD)
theorem evF_succ {T : List Fn} {lf lv k : Nat} {args : List D} {S : Store} : evF T lf (lv + 1) k args S = match T[k]? with
    | some f => if decide (args.length = f.np) then finR S.length (evSs (cfAt T lf lv) f.body (args.map some ++ List.replicate (f.ns - args.length) none) S) else .bad
    | none => .bad := by
  match lv with
  | 0 => rw [evF]; rfl; intro n h; cases h
  | 1 => rw [evF]; rfl; intro n h; cases h
  | n + 2 => rw [evF]; rfl
end Ev
/-! Ev, part B: how data lie in the abstract heap. -/
namespace Ev
open PySem PySem.Spec PyProof.Rows L2
/-- the addresses of the cells, in order; addresses that are kept back (lists that are being made) -/
structure Wd where
  lo : List Addr
  hi : List Addr
/-- where our objects lie: the k-th def or class; the tables of code objects -/
structure Gx where
  f : Nat → Addr
  tb : List (Addr × Str)
  /-- no tuple of the text's own lies among the values -/
  own : Bool := false
instance : CoeFun Gx (fun _ => Nat → Addr) := ⟨Gx.f⟩
/-- no table -/
def NT (o : HO) : Prop := ∀ ps, o ≠ .tbl ps
theorem NT.lst {vs : List V} : NT (.lst vs) := fun ps h => by cases h
theorem NT.tup {vs : List V} : NT (.tup vs) := fun ps h => by cases h
theorem NT.frz {ob : Obj} {v : HO} : NT (.frz ob v) := fun ps h => by cases h
def Wd.off (w : Wd) (a : Addr) : Prop := a ∉ w.lo ∧ a ∉ w.hi
def KTup (K : PySem.W.Frag) (a : Addr) (vs : List V) : Prop :=
  ∃ (o : Obj) (its : Array Value) (n : Nat), K.lookup a = some o ∧ o.cls = .type "tuple" ∧ o.data = .seq its n ∧ its.size ≤ sizeLine ∧ Vals vs its.toList
def KLst (K : PySem.W.Frag) (a : Addr) (vs : List V) : Prop :=
  ∃ (o : Obj) (its : Array Value) (n : Nat), K.lookup a = some o ∧ o.cls = .type "list" ∧ o.dict = none ∧ o.data = .seq its n ∧ its.size ≤ sizeLine ∧ Vals vs its.toList
def TupAt (K : PySem.W.Frag) (w : Wd) (H : Hp) (a : Addr) (vs : List V) : Prop := (H a = some (.tup vs) ∧ w.off a) ∨ KTup K a vs
def LstAt (w : Wd) (H : Hp) (a : Addr) (vs : List V) : Prop := H a = some (.lst vs) ∧ w.off a
def FrzAt (K : PySem.W.Frag) (w : Wd) (H : Hp) (a : Addr) (vs : List V) : Prop := (∃ o, H a = some (.frz o (.lst vs)) ∧ w.off a) ∨ KLst K a vs
theorem TupAt.sq {K : PySem.W.Frag} {w : Wd} {H : Hp} {a : Addr} {vs : List V} (h : TupAt K w H a vs) : SqT K H a vs := by
  rcases h with h | h
  · exact .inl (.inl h.1)
  · exact .inr h
theorem LstAt.sq {K : PySem.W.Frag} {w : Wd} {H : Hp} {a : Addr} {vs : List V} (h : LstAt w H a vs) : SqL K H a vs := .inl (.inl h.1)
theorem FrzAt.sq {K : PySem.W.Frag} {w : Wd} {H : Hp} {a : Addr} {vs : List V} (h : FrzAt K w H a vs) : SqL K H a vs := by
  rcases h with ⟨o, h⟩ | h
  · exact .inl (.inr ⟨o, h.1⟩)
  · exact .inr h
/-- what a kept error of our class k answers to isinstance -/
def ctV (G : Gx) : Nat ⊕ String → Value
  | .inl j => .ref (G j)
  | .inr n => .type n
def ErrF (K : PySem.W.Frag) (G : Gx) (k : Nat) (as : List ((Nat ⊕ String) × Bool)) : Prop := L2.ExcC K (G k) ∧ ∀ t b, as.lookup t = some b → PySem.W.kitOne K (.ref (G k)) (ctV G t) = some b
mutual
inductive Rep (K : PySem.W.Frag) (G : Gx) (w : Wd) (H : Hp) : D → V → Prop
  | non : Rep K G w H .non .non
  | bl (b : Bool) : Rep K G w H (.bl b) (.bl b)
  | int (i : Int) : Rep K G w H (.int i) (.int i)
  | str (x : Str) : Rep K G w H (.str x) (.str x)
  | tup {a : Addr} {vs : List V} {ds : List D} : TupAt K w H a vs → Reps K G w H ds vs → (G.own = true → H a = some (.tup vs) ∧ w.off a) → Rep K G w H (.tup ds) (.ref a)
  | lst {a : Addr} {vs : List V} {ds : List D} : LstAt w H a vs → Reps K G w H ds vs → Rep K G w H (.lst ds) (.ref a)
  | frz {a : Addr} {vs : List V} {ds : List D} : FrzAt K w H a vs → Reps K G w H ds vs → Rep K G w H (.frz ds) (.ref a)
  | ref {a : Addr} {l : Nat} : w.lo[l]? = some a → Rep K G w H (.ref l) (.ref a)
  | gl (k : Nat) : Rep K G w H (.gl k) (.ref (G k))
  | ty (n : String) : Rep K G w H (.ty n) (.ty n)
  | dct {a : Addr} {kvs : List (Key × V)} : H a = some (.dK kvs) → w.off a → Rep K G w H .dct (.ref a)
  | exn {a : Addr} {k : Nat} {as : List ((Nat ⊕ String) × Bool)} : H a = some (EvZe.ErrO (G k) a) → w.off a → ErrF K G k as → Rep K G w H (.exn k as) (.ref a)
  | sz {a : Addr} {n : Nat} : H a = some (EvZs.SetN a n) → w.off a → Rep K G w H (.sz n) (.ref a)
  | dic {a : Addr} {kvs : List (Key × V)} {es : List D} : Rd H a (.dK kvs) → w.off a → Ent K G w H es kvs → Rep K G w H (.dic false es) (.ref a)
  | dit {a : Addr} {kvs : EvNd.NKv} {es : List D} : Rd H a (EvNd.ND a kvs) → w.off a → EntN K G w H es kvs → Rep K G w H (.dic true es) (.ref a)
  | rg {a : Addr} {i j : Int} : H a = some (.rng i j) → w.off a → Rep K G w H (.rg i j) (.ref a)
inductive Reps (K : PySem.W.Frag) (G : Gx) (w : Wd) (H : Hp) : List D → List V → Prop
  | nil : Reps K G w H [] []
  | cons {d : D} {v : V} {ds : List D} {vs : List V} : Rep K G w H d v → Reps K G w H ds vs → Reps K G w H (d :: ds) (v :: vs)
/-- a dict's entries, their keys numbers and texts -/
inductive Ent (K : PySem.W.Frag) (G : Gx) (w : Wd) (H : Hp) : List D → List (Key × V) → Prop
  | nil : Ent K G w H [] []
  | cons {k : Key} {d : D} {v : V} {es : List D} {kvs : List (Key × V)} : Rep K G w H d v → Ent K G w H es kvs → Ent K G w H (.tup [keyD k, d] :: es) ((k, v) :: kvs)
/-- .. nested tuples -/
inductive EntN (K : PySem.W.Frag) (G : Gx) (w : Wd) (H : Hp) : List D → EvNd.NKv → Prop
  | nil : EntN K G w H [] []
  | cons {k : NestedKey} {b : Addr} {kd d : D} {v : V} {es : List D} {kvs : EvNd.NKv} : Rep K G w H kd (.ref b) → nkO kd = some k → kNest kd = true → Rep K G w H d v → EntN K G w H es kvs → EntN K G w H (.tup [kd, d] :: es) ((k, b, v) :: kvs)
end
structure Ext (w : Wd) (H : Hp) (w' : Wd) (H' : Hp) : Prop where
  pre : ∀ (l : Nat) (a : Addr), w.lo[l]? = some a → w'.lo[l]? = some a
  kept : ∀ (a : Addr) (o : HO), H a = some o → NT o → a ∉ w.lo → H' a = some o ∧ a ∉ w'.lo ∧ (a ∈ w'.hi ↔ a ∈ w.hi)
theorem Ext.refl (w : Wd) (H : Hp) : Ext w H w H := ⟨fun _ _ h => h, fun _ _ h _ h2 => ⟨h, h2, Iff.rfl⟩⟩
theorem Ext.trans {w w1 w2 : Wd} {H H1 H2 : Hp} (a : Ext w H w1 H1) (b : Ext w1 H1 w2 H2) : Ext w H w2 H2 :=
  ⟨fun l x h => b.pre l x (a.pre l x h), fun x o h n h2 =>
    let p := a.kept x o h n h2
    let q := b.kept x o p.1 n p.2.1
    ⟨q.1, q.2.1, q.2.2.trans p.2.2⟩⟩
/-- what is not kept back, no cell -/
structure Mov (w : Wd) (H : Hp) (w' : Wd) (H' : Hp) : Prop where
  pre : ∀ (l : Nat) (a : Addr), w.lo[l]? = some a → w'.lo[l]? = some a
  off : ∀ (a : Addr) (o : HO), H a = some o → NT o → w.off a → H' a = some o ∧ w'.off a
theorem Ext.mov {w w' : Wd} {H H' : Hp} (e : Ext w H w' H') : Mov w H w' H' :=
  ⟨e.pre, fun a o h n f => let p := e.kept a o h n f.1; ⟨p.1, p.2.1, fun m => f.2 (p.2.2.mp m)⟩⟩
section
variable {K : PySem.W.Frag} {G : Gx} {w w' : Wd} {H H' : Hp}
theorem TupAt.mov {a : Addr} {vs : List V} (e : Mov w H w' H') (h : TupAt K w H a vs) : TupAt K w' H' a vs := by
  rcases h with h | h
  · exact .inl (e.off _ _ h.1 .tup h.2)
  · exact .inr h
theorem LstAt.mov {a : Addr} {vs : List V} (e : Mov w H w' H') (h : LstAt w H a vs) : LstAt w' H' a vs := e.off _ _ h.1 .lst h.2
theorem FrzAt.mov {a : Addr} {vs : List V} (e : Mov w H w' H') (h : FrzAt K w H a vs) : FrzAt K w' H' a vs := by
  rcases h with ⟨o, h⟩ | h
  · exact .inl ⟨o, e.off _ _ h.1 .frz h.2⟩
  · exact .inr h
theorem rd_mov {u : HO} {a : Addr} (e : Mov w H w' H') (n : NT u) (h : Rd H a u) (f : w.off a) : Rd H' a u ∧ w'.off a := by
  rcases h with h | ⟨o, h⟩
  · obtain ⟨h1, h2⟩ := e.off _ _ h n f; exact ⟨.inl h1, h2⟩
  · obtain ⟨h1, h2⟩ := e.off _ _ h (fun ps z => by cases z) f; exact ⟨.inr ⟨o, h1⟩, h2⟩
mutual
theorem Rep.mov (e : Mov w H w' H') : ∀ {d : D} {v : V}, Rep K G w H d v → Rep K G w' H' d v
  | _, _, .non => .non
  | _, _, .bl b => .bl b
  | _, _, .int i => .int i
  | _, _, .str x => .str x
  | _, _, .tup h r o => .tup (h.mov e) (Reps.mov e r) (fun q => e.off _ _ (o q).1 .tup (o q).2)
  | _, _, .lst h r => .lst (h.mov e) (Reps.mov e r)
  | _, _, .frz h r => .frz (h.mov e) (Reps.mov e r)
  | _, _, .ref h => .ref (e.pre _ _ h)
  | _, _, .gl k => .gl k
  | _, _, .ty n => .ty n
  | _, _, .dct h f => let p := e.off _ _ h (fun ps z => by cases z) f; .dct p.1 p.2
  | _, _, .exn h f q => let p := e.off _ _ h (fun ps z => by cases z) f; .exn p.1 p.2 q
  | _, _, .sz h f => let p := e.off _ _ h (fun ps z => by cases z) f; .sz p.1 p.2
  | _, _, .dic h f r => let p := rd_mov e (fun ps z => by cases z) h f; .dic p.1 p.2 (Ent.mov e r)
  | _, _, .dit h f r => let p := rd_mov e (fun ps z => by cases z) h f; .dit p.1 p.2 (EntN.mov e r)
  | _, _, .rg h f => let p := e.off _ _ h (fun ps z => by cases z) f; .rg p.1 p.2
theorem Reps.mov (e : Mov w H w' H') : ∀ {ds : List D} {vs : List V}, Reps K G w H ds vs → Reps K G w' H' ds vs
  | _, _, .nil => .nil
  | _, _, .cons r rs => .cons (Rep.mov e r) (Reps.mov e rs)
theorem Ent.mov (e : Mov w H w' H') : ∀ {es : List D} {kvs : List (Key × V)}, Ent K G w H es kvs → Ent K G w' H' es kvs
  | _, _, .nil => .nil
  | _, _, .cons r rs => .cons (Rep.mov e r) (Ent.mov e rs)
theorem EntN.mov (e : Mov w H w' H') : ∀ {es : List D} {kvs : EvNd.NKv}, EntN K G w H es kvs → EntN K G w' H' es kvs
  | _, _, .nil => .nil
  | _, _, .cons r1 h1 h2 r rs => .cons (Rep.mov e r1) h1 h2 (Rep.mov e r) (EntN.mov e rs)
end
theorem Rep.ext (e : Ext w H w' H') {d : D} {v : V} (r : Rep K G w H d v) : Rep K G w' H' d v := r.mov e.mov
theorem Reps.ext (e : Ext w H w' H') {d : List D} {v : List V} (r : Reps K G w H d v) : Reps K G w' H' d v := r.mov e.mov
theorem Reps.length : ∀ {ds : List D} {vs : List V}, Reps K G w H ds vs → ds.length = vs.length
  | _, _, .nil => rfl
  | _, _, .cons _ rs => congrArg Nat.succ rs.length
theorem Reps.get : ∀ {ds : List D} {vs : List V} {i : Nat} {d : D}, Reps K G w H ds vs → ds[i]? = some d → ∃ v, vs[i]? = some v ∧ Rep K G w H d v
  | _, _, _, _, .nil, h => by simp at h
  | _, _, 0, _, .cons r _, h => by simp at h; subst h; exact ⟨_, rfl, r⟩
  | _, _, i + 1, d, .cons _ rs, h => by
    obtain ⟨v, h1, h2⟩ := rs.get (i := i) (d := d) (by simpa using h)
    exact ⟨v, by simpa using h1, h2⟩
theorem Reps.get_none {ds : List D} {vs : List V} {i : Nat} (r : Reps K G w H ds vs) (h : ds[i]? = none) : vs[i]? = none := by
  rw [List.getElem?_eq_none_iff] at h ⊢
  rw [← r.length]; exact h
theorem Reps.append : ∀ {ds es : List D} {vs us : List V}, Reps K G w H ds vs → Reps K G w H es us → Reps K G w H (ds ++ es) (vs ++ us)
  | _, _, _, _, .nil, s => s
  | _, _, _, _, .cons r rs, s => .cons r (rs.append s)
theorem Reps.set {d : D} {v : V} (q : Rep K G w H d v) : ∀ {ds : List D} {vs : List V} (i : Nat), Reps K G w H ds vs → Reps K G w H (ds.set i d) (vs.set i v)
  | _, _, _, .nil => .nil
  | _, _, 0, .cons _ rs => .cons q rs
  | _, _, i + 1, .cons r rs => .cons r (rs.set q i)
theorem Reps.drop : ∀ {ds : List D} {vs : List V} (n : Nat), Reps K G w H ds vs → Reps K G w H (ds.drop n) (vs.drop n)
  | _, _, 0, r => r
  | _, _, _ + 1, .nil => .nil
  | _, _, n + 1, .cons _ rs => rs.drop n
theorem Reps.take : ∀ {ds : List D} {vs : List V} (n : Nat), Reps K G w H ds vs → Reps K G w H (ds.take n) (vs.take n)
  | _, _, 0, _ => .nil
  | _, _, _ + 1, .nil => .nil
  | _, _, n + 1, .cons r rs => .cons r (rs.take n)
theorem Reps.dropLast {ds : List D} {vs : List V} (r : Reps K G w H ds vs) : Reps K G w H ds.dropLast vs.dropLast := by
  rw [List.dropLast_eq_take, List.dropLast_eq_take, r.length]; exact r.take _
theorem Reps.eraseIdx : ∀ {ds : List D} {vs : List V} (i : Nat), Reps K G w H ds vs → Reps K G w H (ds.eraseIdx i) (vs.eraseIdx i)
  | _, _, _, .nil => .nil
  | _, _, 0, .cons _ rs => rs
  | _, _, i + 1, .cons r rs => .cons r (rs.eraseIdx i)
theorem Reps.cut {ds : List D} {vs : List V} (lo hi : Option Int) (r : Reps K G w H ds vs) : Reps K G w H (cutD ds lo hi) (cutV vs lo hi) := by
  unfold cutD cutV
  rw [r.length]; exact (r.drop _).take _
theorem Reps.rep {ds : List D} {vs : List V} (r : Reps K G w H ds vs) : ∀ k : Nat, Reps K G w H (List.replicate k ds).flatten (List.replicate k vs).flatten
  | 0 => .nil
  | k + 1 => by
    rw [List.replicate_succ, List.replicate_succ, List.flatten_cons, List.flatten_cons]
    exact r.append (r.rep k)
end
/-- objects that cells are -/
def CellO (o : HO) : Prop := (∃ vs, o = .lst vs) ∨ (∃ kvs, o = .dK kvs) ∨ ∃ a kvs, o = EvNd.ND a kvs
theorem CellO.nt {o : HO} (h : CellO o) : NT o := fun ps e => by
  rcases h with ⟨_, rfl⟩ | ⟨_, rfl⟩ | ⟨_, _, rfl⟩ <;> cases e
theorem CellO.lst {vs : List V} : CellO (.lst vs) := .inl ⟨vs, rfl⟩
theorem CellO.dK {kvs : List (Key × V)} : CellO (.dK kvs) := .inr (.inl ⟨kvs, rfl⟩)
theorem CellO.nD {a : Addr} {kvs : EvNd.NKv} : CellO (EvNd.ND a kvs) := .inr (.inr ⟨a, kvs, rfl⟩)
/-- a code object is no dict -/
theorem nd_code {c a : Addr} {q : Str} {kvs : EvNd.NKv} : LamX.CodeO c q ≠ EvNd.ND a kvs := fun e => by
  have e2 := HO.ext.inj e
  let ob : Obj := { cls := .none, data := .fields #[.none, .str q default] }
  let h : Heap := { objs := Array.replicate (c + 1) ob }
  have g : ∀ b o, h.get? b = some o → o = ob := fun b o z => by
    unfold Heap.get? at z
    by_cases hb : b < c + 1
    · have : h.objs[b]? = some ob := by
        show (Array.replicate (c + 1) ob)[b]? = some ob
        rw [Array.getElem?_replicate, if_pos hb]
      rw [this] at z
      exact (Option.some.inj z).symm
    · have : h.objs[b]? = none := by
        show (Array.replicate (c + 1) ob)[b]? = none
        rw [Array.getElem?_replicate, if_neg hb]
      rw [this] at z
      cases z
  have gc : h.get? c = some ob := by
    unfold Heap.get?
    have : h.objs[c]? = some ob := by
      show (Array.replicate (c + 1) ob)[c]? = some ob
      rw [Array.getElem?_replicate, if_pos (Nat.lt_succ_self c)]
    rw [this]
  have A := (congrFun e2 h).mp ⟨ob, _, _, gc, rfl, rfl⟩
  obtain ⟨_, _, o, es, ep, xs, h1, _, h3, _⟩ := A
  rw [g _ _ h1] at h3
  cases h3
theorem tabs_cell {T : List (Addr × Str)} {H : Hp} {a : Addr} {u : HO} {o : HO} (e : H a = some u) (hc : CellO u) (t : LamX.Tabs T H) : LamX.Tabs T (upd H a o) := fun p hp => by
  obtain ⟨ps, h1, h2, h3⟩ := t p hp
  have n1 : p.1 ≠ a := fun z => by
    rw [z, e] at h1
    cases h1
    exact hc.nt ps rfl
  refine ⟨ps, by rw [upd_ne n1]; exact h1, h2, fun pos cv hv => ?_⟩
  obtain ⟨c, e1, e2⟩ := h3 pos cv hv
  have n2 : c ≠ a := fun z => by
    rw [z, e] at e2
    rcases hc with ⟨_, rfl⟩ | ⟨_, rfl⟩ | ⟨_, _, rfl⟩
    · cases e2
    · cases e2
    · exact nd_code (Option.some.inj e2).symm
  exact ⟨c, e1, by rw [upd_ne n2]; exact e2⟩
/-- what lies at a cell's address -/
def CellR (K : PySem.W.Frag) (G : Gx) (w : Wd) (H : Hp) (ds : List D) (a : Addr) : Prop :=
  (∃ vs, H a = some (.lst vs) ∧ Reps K G w H ds vs) ∨ (∃ es kvs, ds = .mk false :: es ∧ H a = some (.dK kvs) ∧ Ent K G w H es kvs) ∨ (∃ es kvs, ds = .mk true :: es ∧ H a = some (EvNd.ND a kvs) ∧ EntN K G w H es kvs)
section
variable {K : PySem.W.Frag} {G : Gx} {w w' : Wd} {H H' : Hp}
theorem CellR.o {ds : List D} {a : Addr} (h : CellR K G w H ds a) : ∃ o, H a = some o ∧ CellO o := by
  rcases h with ⟨vs, h, _⟩ | ⟨_, kvs, _, h, _⟩ | ⟨_, kvs, _, h, _⟩
  · exact ⟨_, h, .lst⟩
  · exact ⟨_, h, .dK⟩
  · exact ⟨_, h, .nD⟩
theorem CellR.mov {ds : List D} {a : Addr} (h : CellR K G w H ds a) (k : ∀ o, H a = some o → CellO o → H' a = some o) (e : Mov w H w' H') : CellR K G w' H' ds a := by
  rcases h with ⟨vs, h, r⟩ | ⟨es, kvs, z, h, r⟩ | ⟨es, kvs, z, h, r⟩
  · exact .inl ⟨vs, k _ h .lst, r.mov e⟩
  · exact .inr (.inl ⟨es, kvs, z, k _ h .dK, r.mov e⟩)
  · exact .inr (.inr ⟨es, kvs, z, k _ h .nD, r.mov e⟩)
theorem Reps.ls : ∀ {ds : List D} {vs : List V}, Reps K G w H ds vs → lsO ds = some ds
  | _, _, .nil => rfl
  | d :: _, _, .cons r _ => by
    cases d <;> first
      | rfl
      | cases r
end
/-- the store lies in the heap -/
structure RepSt (K : PySem.W.Frag) (G : Gx) (w : Wd) (H : Hp) (S : Store) : Prop where
  len : w.lo.length = S.length
  nd : w.lo.Nodup
  cell : ∀ (l : Nat) (ds : List D), S[l]? = some ds → D.calms ds = true ∧ ∃ (a : Addr), w.lo[l]? = some a ∧ CellR K G w H ds a
  hid : ∀ a, a ∈ w.hi → (∃ o, H a = some o ∧ CellO o) ∧ a ∉ w.lo
  tabs : LamX.Tabs G.tb H
section
variable {K : PySem.W.Frag} {G : Gx} {w w' : Wd} {H H' : Hp} {S : Store}
theorem RepSt.at_ (r : RepSt K G w H S) {l : Nat} {a : Addr} (h : w.lo[l]? = some a) : ∃ ds, S[l]? = some ds ∧ CellR K G w H ds a := by
  have hl : l < S.length := by
    rw [← r.len]; exact (List.getElem?_eq_some_iff.mp h).1
  obtain ⟨_, b, h1, h2⟩ := r.cell l S[l] (List.getElem?_eq_getElem hl)
  rw [h] at h1; cases h1
  exact ⟨_, List.getElem?_eq_getElem hl, h2⟩
/-- a list cell, or none -/
theorem RepSt.at2 (r : RepSt K G w H S) {l : Nat} {a : Addr} (h : w.lo[l]? = some a) : (∃ ds vs, cel S l = some ds ∧ S[l]? = some ds ∧ H a = some (.lst vs) ∧ Reps K G w H ds vs) ∨ cel S l = none := by
  obtain ⟨ds, h1, h2⟩ := r.at_ h
  rcases h2 with ⟨vs, h3, h4⟩ | ⟨es, kvs, rfl, _, _⟩ | ⟨es, kvs, rfl, _, _⟩
  · refine .inl ⟨ds, vs, ?_, h1, h3, h4⟩
    unfold cel
    rw [h1]
    exact h4.ls
  · refine .inr ?_
    unfold cel
    rw [h1]
    rfl
  · refine .inr ?_
    unfold cel
    rw [h1]
    rfl
theorem RepSt.at3 (r : RepSt K G w H S) {l : Nat} {a : Addr} {ds : List D} (h : w.lo[l]? = some a) (hc : cel S l = some ds) : ∃ vs, S[l]? = some ds ∧ H a = some (.lst vs) ∧ Reps K G w H ds vs := by
  rcases r.at2 h with ⟨es, vs, e1, e2, e3, e4⟩ | e
  · rw [hc] at e1; cases e1; exact ⟨vs, e2, e3, e4⟩
  · rw [hc] at e; cases e
theorem RepSt.lo_some (r : RepSt K G w H S) {a : Addr} (h : a ∈ w.lo) : ∃ o, H a = some o ∧ CellO o := by
  obtain ⟨l, hl, e⟩ := List.mem_iff_getElem.mp h
  obtain ⟨_, _, h2⟩ := r.at_ (l := l) (a := a) (by rw [List.getElem?_eq_getElem hl, e])
  exact h2.o
theorem RepSt.fresh (r : RepSt K G w H S) {p : Addr} (h : H p = none) : w.off p := by
  refine ⟨fun m => ?_, fun m => ?_⟩
  · obtain ⟨vs, e, _⟩ := r.lo_some m
    rw [h] at e; cases e
  · obtain ⟨⟨o, e, _⟩, _⟩ := r.hid p m
    rw [h] at e; cases e
/-- a new object that is no cell -/
theorem Ext.laid {p : Addr} {o : HO} (h : H p = none) : Ext w H w (upd H p o) :=
  ⟨fun _ _ e => e, fun a u e _ f => ⟨by rw [upd_ne (ne_of_none e h)]; exact e, f, Iff.rfl⟩⟩
theorem RepSt.laid (r : RepSt K G w H S) {p : Addr} {o : HO} (h : H p = none) : RepSt K G w (upd H p o) S where
  len := r.len
  nd := r.nd
  cell := fun l ds e => by
    obtain ⟨c, a, h1, h2⟩ := r.cell l ds e
    exact ⟨c, a, h1, h2.mov (fun u e _ => by rw [upd_ne (ne_of_none e h)]; exact e) (Ext.laid h).mov⟩
  hid := fun a m => by
    obtain ⟨⟨u, e, hc⟩, f⟩ := r.hid a m
    exact ⟨⟨u, by rw [upd_ne (ne_of_none e h)]; exact e, hc⟩, f⟩
  tabs := r.tabs.ext fun b u e => by rw [upd_ne (ne_of_none e h)]; exact e
theorem tup_new (r : RepSt K G w H S) {p : Addr} {ds : List D} {vs : List V} (h : H p = none) (q : Reps K G w H ds vs) : Rep K G w (upd H p (.tup vs)) (.tup ds) (.ref p) :=
  .tup (.inl ⟨upd_same, r.fresh h⟩) (q.ext (Ext.laid h)) (fun _ => ⟨upd_same, r.fresh h⟩)
theorem lst_new (r : RepSt K G w H S) {p : Addr} {ds : List D} {vs : List V} (h : H p = none) (q : Reps K G w H ds vs) : Rep K G w (upd H p (.lst vs)) (.lst ds) (.ref p) :=
  .lst ⟨upd_same, r.fresh h⟩ (q.ext (Ext.laid h))
/-- a new cell -/
theorem ext_cell (r : RepSt K G w H S) {p : Addr} {o : HO} (h : H p = none) : Ext w H ⟨w.lo ++ [p], w.hi⟩ (upd H p o) where
  pre := fun l a e => by
    have hl : l < w.lo.length := (List.getElem?_eq_some_iff.mp e).1
    show (w.lo ++ [p])[l]? = some a
    rw [List.getElem?_append_left hl]; exact e
  kept := fun a o e _ f => ⟨by rw [upd_ne (ne_of_none e h)]; exact e, (by
    show a ∉ w.lo ++ [p]
    rw [List.mem_append, List.mem_singleton]
    rintro (z | z)
    · exact f z
    · subst z; rw [h] at e; cases e), Iff.rfl⟩
theorem RepSt.newC (r : RepSt K G w H S) {p : Addr} {ds : List D} {o : HO} (h : H p = none) (c : D.calms ds = true) (q : CellR K G ⟨w.lo ++ [p], w.hi⟩ (upd H p o) ds p) : RepSt K G ⟨w.lo ++ [p], w.hi⟩ (upd H p o) (S ++ [ds]) where
  len := by
    show (w.lo ++ [p]).length = _
    rw [List.length_append, List.length_append, r.len]; rfl
  nd := by
    show (w.lo ++ [p]).Nodup
    rw [List.nodup_append]
    refine ⟨r.nd, by simp, fun a ha b hb => ?_⟩
    rw [List.mem_singleton] at hb
    subst hb
    exact fun z => (r.fresh h).1 (z ▸ ha)
  cell := fun l es e => by
    by_cases hl : l < S.length
    · rw [List.getElem?_append_left hl] at e
      obtain ⟨c', a, h1, h2⟩ := r.cell l es e
      exact ⟨c', a, (ext_cell (o := o) r h).pre l a h1, h2.mov (fun u e _ => by rw [upd_ne (ne_of_none e h)]; exact e) (ext_cell r h).mov⟩
    · rw [List.getElem?_append_right (by omega)] at e
      have hz : l = S.length := by
        have := (List.getElem?_eq_some_iff.mp e).1
        simp at this; omega
      subst hz
      simp at e
      subst e
      refine ⟨c, p, ?_, q⟩
      show (w.lo ++ [p])[S.length]? = some p
      rw [← r.len, List.getElem?_append_right (Nat.le_refl _)]
      simp
  hid := fun a m => by
    obtain ⟨⟨u, e, hc⟩, f⟩ := r.hid a m
    refine ⟨⟨u, by rw [upd_ne (ne_of_none e h)]; exact e, hc⟩, ?_⟩
    show a ∉ w.lo ++ [p]
    rw [List.mem_append, List.mem_singleton]
    rintro (z | z)
    · exact f z
    · subst z; rw [h] at e; cases e
  tabs := r.tabs.ext fun b u e => by rw [upd_ne (ne_of_none e h)]; exact e
theorem RepSt.new (r : RepSt K G w H S) {p : Addr} {ds : List D} {vs : List V} (h : H p = none) (c : D.calms ds = true) (q : Reps K G w H ds vs) : RepSt K G ⟨w.lo ++ [p], w.hi⟩ (upd H p (.lst vs)) (S ++ [ds]) :=
  r.newC h c (.inl ⟨vs, upd_same, q.ext (ext_cell r h)⟩)
/-- a cell is changed -/
theorem ext_set {l : Nat} {a : Addr} {o : HO} (hl : w.lo[l]? = some a) : Ext w H w (upd H a o) where
  pre := fun _ _ e => e
  kept := fun b u e _ f => ⟨by
    have : b ≠ a := fun z => f (z ▸ List.mem_of_getElem? hl)
    rw [upd_ne this]; exact e, f, Iff.rfl⟩
theorem nodup_at {α : Type} {l : List α} (h : l.Nodup) {i j : Nat} {a : α} (hi : l[i]? = some a) (hj : l[j]? = some a) : i = j := by
  obtain ⟨h1, e1⟩ := List.getElem?_eq_some_iff.mp hi
  obtain ⟨h2, e2⟩ := List.getElem?_eq_some_iff.mp hj
  exact (List.getElem_inj h).mp (e1.trans e2.symm)
theorem RepSt.putC (r : RepSt K G w H S) {l : Nat} {a : Addr} {ds : List D} {o : HO} (hl : w.lo[l]? = some a) (c : D.calms ds = true) (q : CellR K G w (upd H a o) ds a) : RepSt K G w (upd H a o) (S.set l ds) where
  len := by rw [List.length_set]; exact r.len
  nd := r.nd
  cell := fun m es e => by
    by_cases z : m = l
    · subst z
      have hm : m < S.length := by rw [← r.len]; exact (List.getElem?_eq_some_iff.mp hl).1
      rw [List.getElem?_set_self hm] at e
      cases e
      exact ⟨c, a, hl, q⟩
    · rw [List.getElem?_set_ne (Ne.symm z)] at e
      obtain ⟨c', b, h1, h2⟩ := r.cell m es e
      have nb : b ≠ a := fun e2 => z (nodup_at r.nd h1 (e2 ▸ hl))
      exact ⟨c', b, h1, h2.mov (fun u e _ => by rw [upd_ne nb]; exact e) (ext_set hl).mov⟩
  hid := fun b m => by
    obtain ⟨⟨u, e, hc⟩, f⟩ := r.hid b m
    have nb : b ≠ a := fun z => f (z ▸ List.mem_of_getElem? hl)
    exact ⟨⟨u, by rw [upd_ne nb]; exact e, hc⟩, f⟩
  tabs := by
    obtain ⟨us, e, hc⟩ := r.lo_some (List.mem_of_getElem? hl)
    exact tabs_cell e hc r.tabs
theorem RepSt.put (r : RepSt K G w H S) {l : Nat} {a : Addr} {ds : List D} {vs : List V} (hl : w.lo[l]? = some a) (c : D.calms ds = true) (q : Reps K G w H ds vs) : RepSt K G w (upd H a (.lst vs)) (S.set l ds) :=
  r.putC hl c (.inl ⟨vs, upd_same, q.ext (ext_set hl)⟩)
/-! ### fewer cells -/
mutual
theorem Rep.calmer (h1 : ∀ a, w'.off a → w.off a) : ∀ {d : D} {v : V}, d.calm = true → Rep K G w' H d v → Rep K G w H d v
  | _, _, _, .non => .non
  | _, _, _, .bl b => .bl b
  | _, _, _, .int i => .int i
  | _, _, _, .str x => .str x
  | .tup ds, _, c, .tup h r o => .tup (h.elim (fun z => .inl ⟨z.1, h1 _ z.2⟩) .inr) (Reps.calmer h1 (by simpa [D.calm] using c) r) (fun q => ⟨(o q).1, h1 _ (o q).2⟩)
  | .lst ds, _, c, .lst h r => .lst ⟨h.1, h1 _ h.2⟩ (Reps.calmer h1 (by simpa [D.calm] using c) r)
  | .frz ds, _, c, .frz h r => .frz (h.elim (fun ⟨o, z⟩ => .inl ⟨o, z.1, h1 _ z.2⟩) .inr) (Reps.calmer h1 (by simpa [D.calm] using c) r)
  | _, _, c, .ref h => by simp [D.calm] at c
  | _, _, _, .gl k => .gl k
  | _, _, _, .ty n => .ty n
  | _, _, _, .dct h f => .dct h (h1 _ f)
  | _, _, c, .sz h f => by simp [D.calm] at c
  | _, _, c, .exn h f _ => by simp [D.calm] at c
  | .dic _ es, _, c, .dic h f r => .dic h (h1 _ f) (Ent.calmer h1 (by simpa [D.calm] using c) r)
  | .dic _ es, _, c, .dit h f r => .dit h (h1 _ f) (EntN.calmer h1 (by simpa [D.calm] using c) r)
  | _, _, _, .rg h f => .rg h (h1 _ f)
theorem Reps.calmer (h1 : ∀ a, w'.off a → w.off a) : ∀ {ds : List D} {vs : List V}, D.calms ds = true → Reps K G w' H ds vs → Reps K G w H ds vs
  | _, _, _, .nil => .nil
  | d :: ds, _, c, .cons r rs => by
    have c' : d.calm = true ∧ D.calms ds = true := by simpa [D.calms] using c
    exact .cons (Rep.calmer h1 c'.1 r) (Reps.calmer h1 c'.2 rs)
theorem Ent.calmer (h1 : ∀ a, w'.off a → w.off a) : ∀ {es : List D} {kvs : List (Key × V)}, D.calms es = true → Ent K G w' H es kvs → Ent K G w H es kvs
  | _, _, _, .nil => .nil
  | _, _, c, .cons r rs => by
    simp only [D.calms, D.calm, Bool.and_eq_true] at c
    exact .cons (Rep.calmer h1 c.1.2.1 r) (Ent.calmer h1 c.2 rs)
theorem EntN.calmer (h1 : ∀ a, w'.off a → w.off a) : ∀ {es : List D} {kvs : EvNd.NKv}, D.calms es = true → EntN K G w' H es kvs → EntN K G w H es kvs
  | _, _, _, .nil => .nil
  | _, _, c, .cons r1 h2 h3 r rs => by
    simp only [D.calms, D.calm, Bool.and_eq_true] at c
    exact .cons (Rep.calmer h1 c.1.1 r1) h2 h3 (Rep.calmer h1 c.1.2.1 r) (EntN.calmer h1 c.2 rs)
end
theorem CellR.calmer {ds : List D} {a : Addr} (h1 : ∀ a, w'.off a → w.off a) (c : D.calms ds = true) (h : CellR K G w' H ds a) : CellR K G w H ds a := by
  rcases h with ⟨vs, h, r⟩ | ⟨es, kvs, rfl, h, r⟩ | ⟨es, kvs, rfl, h, r⟩
  · exact .inl ⟨vs, h, r.calmer h1 c⟩
  · exact .inr (.inl ⟨es, kvs, rfl, h, r.calmer h1 (by simpa [D.calms, D.calm] using c)⟩)
  · exact .inr (.inr ⟨es, kvs, rfl, h, r.calmer h1 (by simpa [D.calms, D.calm] using c)⟩)
/-- behind a call: the callee's cells are forgotten -/
theorem Ext.back {w0 : Wd} {H0 : Hp} (e : Ext w0 H0 w H) : Ext w0 H0 w0 H :=
  ⟨fun _ _ h => h, fun a o h n f => ⟨(e.kept a o h n f).1, f, Iff.rfl⟩⟩
theorem off_back {w0 : Wd} {H0 : Hp} {S0 : Store} (e : Ext w0 H0 w H) (r0 : RepSt K G w0 H0 S0) : ∀ a, w.off a → w0.off a := fun a f => ⟨fun m => by
    obtain ⟨l, hl, q⟩ := List.mem_iff_getElem.mp m
    exact f.1 (List.mem_of_getElem? (e.pre l a (by rw [List.getElem?_eq_getElem hl, q]))), fun m => by
    obtain ⟨⟨o, h1, hc⟩, h2⟩ := r0.hid a m
    exact f.2 ((e.kept a _ h1 hc.nt h2).2.2.mpr m)⟩
theorem RepSt.back {w0 : Wd} {H0 : Hp} {S0 : Store} (e : Ext w0 H0 w H) (r0 : RepSt K G w0 H0 S0) (r : RepSt K G w H S) : RepSt K G w0 H (S.take S0.length) where
  len := by
    rw [List.length_take, r0.len]
    have : w0.lo.length ≤ w.lo.length := by
      by_cases z : w0.lo.length = 0
      · omega
      · have h1 : w0.lo[w0.lo.length - 1]? = some w0.lo[w0.lo.length - 1] := List.getElem?_eq_getElem (by omega)
        have := (List.getElem?_eq_some_iff.mp (e.pre _ _ h1)).1
        omega
    rw [← r.len, ← r0.len]; omega
  nd := r0.nd
  cell := fun l ds h => by
    rw [List.getElem?_take] at h
    split at h
    · rename_i hl
      obtain ⟨c, a, h1, h2⟩ := r.cell l ds h
      have hl' : l < w0.lo.length := by rw [r0.len]; exact hl
      have q := e.pre l _ (List.getElem?_eq_getElem hl')
      rw [h1] at q; cases q
      exact ⟨c, _, List.getElem?_eq_getElem hl', h2.calmer (off_back e r0) c⟩
    · cases h
  hid := fun a m => by
    obtain ⟨⟨o, h1, hc⟩, h2⟩ := r0.hid a m
    exact ⟨⟨o, (e.kept a _ h1 hc.nt h2).1, hc⟩, h2⟩
  tabs := r.tabs
end
/-! ### slots -/
structure RepEnv (K : PySem.W.Frag) (G : Gx) (w : Wd) (H : Hp) (env : Env') (σ : L2.St) : Prop where
  len : env.length = σ.length
  get : ∀ (i : Nat) (d : D), env[i]? = some (some d) → ∃ v, σ[i]? = some (some v) ∧ Rep K G w H d v
structure Rel (K : PySem.W.Frag) (G : Gx) (w : Wd) (σ : L2.St) (H : Hp) (env : Env') (S : Store) : Prop where
  st : RepSt K G w H S
  en : RepEnv K G w H env σ
section
variable {K : PySem.W.Frag} {G : Gx} {w w' : Wd} {H H' : Hp} {S S' : Store} {env : Env'} {σ : L2.St}
theorem RepEnv.ext (e : Ext w H w' H') (r : RepEnv K G w H env σ) : RepEnv K G w' H' env σ :=
  ⟨r.len, fun i d h => let ⟨v, h1, h2⟩ := r.get i d h; ⟨v, h1, h2.ext e⟩⟩
theorem Rel.ext (e : Ext w H w' H') (r : Rel K G w σ H env S) (s : RepSt K G w' H' S') : Rel K G w' σ H' env S' := ⟨s, r.en.ext e⟩
theorem RepEnv.set (r : RepEnv K G w H env σ) {i : Nat} {d : D} {v : V} (q : Rep K G w H d v) : RepEnv K G w H (env.set i (some d)) (σ.set i (some v)) where
  len := by rw [List.length_set, List.length_set]; exact r.len
  get := fun j e h => by
    by_cases z : j = i
    · subst z
      by_cases hj : j < env.length
      · rw [List.getElem?_set_self hj] at h
        cases h
        exact ⟨v, by rw [List.getElem?_set_self (by rw [← r.len]; exact hj)], q⟩
      · rw [List.getElem?_eq_none (by simpa using hj)] at h
        cases h
    · rw [List.getElem?_set_ne (Ne.symm z)] at h
      obtain ⟨u, h1, h2⟩ := r.get j e h
      exact ⟨u, by rw [List.getElem?_set_ne (Ne.symm z)]; exact h1, h2⟩
theorem RepEnv.unset (r : RepEnv K G w H env σ) (i : Nat) (o : Option V) : RepEnv K G w H (env.set i none) (σ.set i o) where
  len := by rw [List.length_set, List.length_set]; exact r.len
  get := fun j e h => by
    by_cases z : j = i
    · subst z
      by_cases hj : j < env.length
      · rw [List.getElem?_set_self hj] at h
        cases h
      · rw [List.getElem?_eq_none (by simpa using hj)] at h
        cases h
    · rw [List.getElem?_set_ne (Ne.symm z)] at h
      obtain ⟨u, h1, h2⟩ := r.get j e h
      exact ⟨u, by rw [List.getElem?_set_ne (Ne.symm z)]; exact h1, h2⟩
theorem RepEnv.wipe (r : RepEnv K G w H env σ) : ∀ vs : List Nat, RepEnv K G w H (wipeE env vs) (wipe σ vs)
  | [] => r
  | i :: vs => (r.wipe vs).unset i none
end
end Ev
/-! Ev, part Bd: dicts' entries. -/
namespace Ev
open PySem PySem.Spec PyProof.Rows L2
theorem kq_keyD : ∀ k j : Key, kq (keyD k) (keyD j) = decide (k = j)
  | .inl i, .inl j => by simp [keyD, kq]
  | .inr x, .inr y => by simp [keyD, kq]
  | .inl i, .inr y => by simp [keyD, kq]
  | .inr x, .inl j => by simp [keyD, kq]
theorem kFlat_key {d : D} (h : kFlat d = true) : ∃ k, d = keyD k := by
  cases d with
  | int i => exact ⟨.inl i, rfl⟩
  | str x => exact ⟨.inr x, rfl⟩
  | _ => cases h
mutual
theorem kq_nk : ∀ {x y : D} {k j : NestedKey}, nkO x = some k → nkO y = some j → kq x y = decide (k = j)
  | .non, y, k, j, hx, hy => by
    cases Option.some.inj (show some NestedKey.none = some k from hx)
    cases y with
    | non => cases Option.some.inj (show some NestedKey.none = some j from hy); simp [kq]
    | int i => cases Option.some.inj (show some (NestedKey.num i) = some j from hy); simp [kq]
    | tup ys =>
      obtain ⟨js, _, e⟩ := Option.map_eq_some_iff.mp (show (nkOs ys).map NestedKey.tup = some j from hy)
      subst e; simp [kq]
    | _ => cases hy
  | .int i, y, k, j, hx, hy => by
    cases Option.some.inj (show some (NestedKey.num i) = some k from hx)
    cases y with
    | non => cases Option.some.inj (show some NestedKey.none = some j from hy); simp [kq]
    | int i => cases Option.some.inj (show some (NestedKey.num i) = some j from hy); simp [kq]
    | tup ys =>
      obtain ⟨js, _, e⟩ := Option.map_eq_some_iff.mp (show (nkOs ys).map NestedKey.tup = some j from hy)
      subst e; simp [kq]
    | _ => cases hy
  | .tup xs, y, k, j, hx, hy => by
    obtain ⟨ks, ex, e⟩ := Option.map_eq_some_iff.mp (show (nkOs xs).map NestedKey.tup = some k from hx)
    subst e
    cases y with
    | non => cases Option.some.inj (show some NestedKey.none = some j from hy); simp [kq]
    | int i => cases Option.some.inj (show some (NestedKey.num i) = some j from hy); simp [kq]
    | tup ys =>
      obtain ⟨js, ey, e⟩ := Option.map_eq_some_iff.mp (show (nkOs ys).map NestedKey.tup = some j from hy)
      subst e
      show kqs xs ys = _
      rw [kqs_nk ex ey]
      by_cases z : ks = js <;> simp [z]
    | _ => cases hy
  | .bl _, _, _, _, hx, _ => by cases hx
  | .str _, _, _, _, hx, _ => by cases hx
  | .lst _, _, _, _, hx, _ => by cases hx
  | .frz _, _, _, _, hx, _ => by cases hx
  | .ref _, _, _, _, hx, _ => by cases hx
  | .gl _, _, _, _, hx, _ => by cases hx
  | .ty _, _, _, _, hx, _ => by cases hx
  | .dct, _, _, _, hx, _ => by cases hx
  | .mk _, _, _, _, hx, _ => by cases hx
  | .sz _, _, _, _, hx, _ => by cases hx
  | .exn _ _, _, _, _, hx, _ => by cases hx
  | .dic _ _, _, _, _, hx, _ => by cases hx
  | .rg _ _, _, _, _, hx, _ => by cases hx
theorem kqs_nk : ∀ {xs ys : List D} {ks js : List NestedKey}, nkOs xs = some ks → nkOs ys = some js → kqs xs ys = decide (ks = js)
  | [], [], ks, js, hx, hy => by
    cases Option.some.inj (show some [] = some ks from hx)
    cases Option.some.inj (show some [] = some js from hy)
    simp [kqs]
  | [], y :: ys, ks, js, hx, hy => by
    cases Option.some.inj (show some [] = some ks from hx)
    simp only [nkOs] at hy
    split at hy
    · cases hy; simp [kqs]
    · cases hy
  | x :: xs, [], ks, js, hx, hy => by
    cases Option.some.inj (show some [] = some js from hy)
    simp only [nkOs] at hx
    split at hx
    · cases hx; simp [kqs]
    · cases hx
  | x :: xs, y :: ys, ks, js, hx, hy => by
    simp only [nkOs] at hx hy
    split at hx
    · rename_i k ks' e1 e2
      split at hy
      · rename_i j js' e3 e4
        cases hx; cases hy
        rw [kqs, kq_nk e1 e3, kqs_nk e2 e4]
        by_cases h1 : k = j <;> by_cases h2 : ks' = js' <;> simp [h1, h2]
      · cases hy
    · cases hx
end
mutual
theorem calm_nk : ∀ {x : D} {k : NestedKey}, nkO x = some k → x.calm = true
  | .non, _, _ => rfl
  | .int _, _, _ => rfl
  | .tup xs, k, h => by
    obtain ⟨ks, ex, _⟩ := Option.map_eq_some_iff.mp (show (nkOs xs).map NestedKey.tup = some k from h)
    exact calms_nk ex
  | .bl _, _, hx => by cases hx
  | .str _, _, hx => by cases hx
  | .lst _, _, hx => by cases hx
  | .frz _, _, hx => by cases hx
  | .ref _, _, hx => by cases hx
  | .gl _, _, hx => by cases hx
  | .ty _, _, hx => by cases hx
  | .dct, _, hx => by cases hx
  | .mk _, _, hx => by cases hx
  | .sz _, _, hx => by cases hx
  | .exn _ _, _, hx => by cases hx
  | .dic _ _, _, hx => by cases hx
  | .rg _ _, _, hx => by cases hx
theorem calms_nk : ∀ {xs : List D} {ks : List NestedKey}, nkOs xs = some ks → D.calms xs = true
  | [], _, _ => rfl
  | x :: xs, ks, h => by
    simp only [nkOs] at h
    split at h
    · rename_i k ks' e1 e2
      show (x.calm && D.calms xs) = true
      rw [calm_nk e1, calms_nk e2]; rfl
    · cases h
end
theorem kNest_of {d : D} (h : kNest d = true) : ∃ k, nkO d = some k ∧ k.depth ≤ 8 ∧ ∃ xs, d = .tup xs := by
  unfold kNest at h
  rw [Bool.and_eq_true] at h
  cases d with
  | tup xs =>
    cases e : nkO (.tup xs) with
    | none => rw [e] at h; cases h.2
    | some k => rw [e] at h; exact ⟨k, rfl, of_decide_eq_true h.2, xs, rfl⟩
  | _ => cases h.1
section
variable {K : PySem.W.Frag} {G : Gx} {w : Wd} {H : Hp}
theorem Rep.keyD {k : Key} {v : V} (r : Rep K G w H (keyD k) v) : v = L2.kV k := by
  cases k with
  | inl i => cases r; rfl
  | inr x => cases r; rfl
theorem keyD_rep (k : Key) : Rep K G w H (keyD k) (L2.kV k) := by
  cases k with
  | inl i => exact .int i
  | inr x => exact .str x
mutual
theorem Rep.nv : ∀ {d : D} {v : V} {k : NestedKey}, Rep K G w H d v → nkO d = some k → EvNd.NV K H k v
  | _, _, _, .non, h => by cases Option.some.inj (show some NestedKey.none = some _ from h); exact .none
  | _, _, _, .int i, h => by cases Option.some.inj (show some (NestedKey.num i) = some _ from h); exact .int i
  | .tup ds, _, _, .tup h1 r _, h => by
    obtain ⟨ks, ex, e⟩ := Option.map_eq_some_iff.mp (show (nkOs ds).map NestedKey.tup = some _ from h)
    subst e
    exact .tup h1.sq (Reps.nv r ex)
  | _, _, _, .bl _, h => by cases h
  | _, _, _, .str _, h => by cases h
  | .lst _, _, _, .lst _ _, h => by cases h
  | .frz _, _, _, .frz _ _, h => by cases h
  | _, _, _, .ref _, h => by cases h
  | _, _, _, .gl _, h => by cases h
  | _, _, _, .ty _, h => by cases h
  | _, _, _, .dct _ _, h => by cases h
  | _, _, _, .sz _ _, h => by cases h
  | _, _, _, .exn _ _ _, h => by cases h
  | _, _, _, .dic _ _ _, h => by cases h
  | _, _, _, .dit _ _ _, h => by cases h
  | _, _, _, .rg _ _, h => by cases h
theorem Reps.nv : ∀ {ds : List D} {vs : List V} {ks : List NestedKey}, Reps K G w H ds vs → nkOs ds = some ks → EvNd.NVs K H ks vs
  | _, _, _, .nil, h => by cases Option.some.inj (show some [] = some _ from h); exact .nil
  | d :: ds, _, _, .cons r rs, h => by
    simp only [nkOs] at h
    split at h
    · rename_i k ks e1 e2
      cases h
      exact .cons (Rep.nv r e1) (Reps.nv rs e2)
    · cases h
end
/-- a key of nested tuples -/
theorem Rep.ky {d : D} {v : V} (r : Rep K G w H d v) (h : kNest d = true) : ∃ k b, nkO d = some k ∧ v = .ref b ∧ EvNd.Ky K H k b := by
  obtain ⟨k, e, dp, xs, rfl⟩ := kNest_of h
  cases r with
  | tup h1 h2 h3 => exact ⟨k, _, e, rfl, Rep.nv (.tup h1 h2 h3) e, dp⟩
/-! flat keys -/
theorem Ent.get {es : List D} {kvs : List (Key × V)} (k : Key) (h : Ent K G w H es kvs) : (dget (Ev.keyD k) es = none ∧ valV kvs k = none) ∨ ∃ d v, dget (Ev.keyD k) es = some d ∧ valV kvs k = some v ∧ Rep K G w H d v := by
  revert h
  induction es generalizing kvs with
  | nil => intro h; cases h; exact .inl ⟨rfl, rfl⟩
  | cons e es ih =>
    intro h
    cases h with
    | @cons k' d v es kvs r h =>
      rw [dget, kq_keyD]
      by_cases e : k' = k
      · subst e
        exact .inr ⟨d, v, by simp, valV_pos (p := (k', v)) rfl, r⟩
      · rw [decide_eq_false e]
        rw [valV_neg (p := (k', v)) e]
        simpa using ih h
theorem Ent.has {es : List D} {kvs : List (Key × V)} (k : Key) (h : Ent K G w H es kvs) : dhas (Ev.keyD k) es = (kvs.any fun kv => decide (kv.1 = k)) := by
  revert h
  induction es generalizing kvs with
  | nil => intro h; cases h; rfl
  | cons e es ih =>
    intro h
    cases h with
    | cons r h => rw [dhas, kq_keyD, List.any_cons, ih h]
theorem Ent.rep {es : List D} {kvs : List (Key × V)} (k : Key) {d : D} {v : V} (q : Rep K G w H d v) (h : Ent K G w H es kvs) : Ent K G w H (drep (Ev.keyD k) d es) (kvs.map fun kv => if kv.1 = k then (kv.1, v) else kv) := by
  revert h
  induction es generalizing kvs with
  | nil => intro h; cases h; exact .nil
  | cons e es ih =>
    intro h
    cases h with
    | @cons k' d' v' es kvs r h =>
      rw [drep, kq_keyD, List.map_cons]
      by_cases e : k' = k
      · rw [decide_eq_true e, if_pos rfl, if_pos e]; exact .cons q (ih h)
      · rw [decide_eq_false e, if_neg (by simp), if_neg e]; exact .cons r (ih h)
theorem Ent.snoc {es : List D} {kvs : List (Key × V)} (k : Key) {d : D} {v : V} (q : Rep K G w H d v) (h : Ent K G w H es kvs) : Ent K G w H (es ++ [.tup [Ev.keyD k, d]]) (kvs ++ [(k, v)]) := by
  revert h
  induction es generalizing kvs with
  | nil => intro h; cases h; exact .cons q .nil
  | cons e es ih =>
    intro h
    cases h with
    | cons r h => exact .cons r (ih h)
theorem Ent.put {es : List D} {kvs : List (Key × V)} (k : Key) {d : D} {v : V} (q : Rep K G w H d v) (h : Ent K G w H es kvs) : Ent K G w H (dput es (Ev.keyD k) d) (putK kvs k v) := by
  unfold dput putK
  rw [h.has k]
  split
  · exact h.rep k q
  · exact h.snoc k q
theorem Ent.length {es : List D} {kvs : List (Key × V)} (h : Ent K G w H es kvs) : es.length = kvs.length := by
  revert h
  induction es generalizing kvs with
  | nil => intro h; cases h; rfl
  | cons e es ih =>
    intro h
    cases h with
    | cons r h => simp [ih h]
theorem Ent.calm_snoc {es : List D} : ∀ {d : D}, D.calms es = true → d.calm = true → D.calms (es ++ [d]) = true := by
  induction es with
  | nil => intro d _ h; simp [D.calms, h]
  | cons a r ih =>
    intro d h1 h2
    simp only [D.calms, List.cons_append, Bool.and_eq_true] at h1 ⊢
    exact ⟨h1.1, ih h1.2 h2⟩
theorem calm_keyD (k : Key) : (Ev.keyD k).calm = true := by cases k <;> rfl
theorem calm_drep {k d : D} (hd : d.calm = true) : ∀ {es : List D}, D.calms es = true → D.calms (drep k d es) = true
  | [], _ => rfl
  | e :: es, c => by
    simp only [D.calms, Bool.and_eq_true] at c
    unfold drep
    split
    · rename_i he; cases he
    · rename_i k' d' r he
      cases he
      have h1 : k'.calm = true ∧ d'.calm = true := by simpa [D.calm, D.calms] using c.1
      simp only [D.calms, Bool.and_eq_true]
      refine ⟨?_, calm_drep hd c.2⟩
      split <;> simp [D.calm, D.calms, h1.1, h1.2, hd]
    · simp only [D.calms, Bool.and_eq_true]
      exact c
theorem calm_dput {es : List D} {k d : D} (hk : k.calm = true) (hd : d.calm = true) (c : D.calms es = true) : D.calms (dput es k d) = true := by
  unfold dput
  split
  · exact calm_drep hd c
  · exact Ent.calm_snoc c (by simp [D.calm, D.calms, hk, hd])
/-- a display's entries -/
theorem Ent.made : ∀ {ks : List Key} {ds : List D} {vs : List V} {es : List D} {kvs : List (Key × V)}, D.calms ds = true → Reps K G w H ds vs → D.calms es = true → Ent K G w H es kvs →
    Ent K G w H (dmk (ks.map Ev.keyD) ds es) (mergeK kvs (ks.zip vs)) ∧ D.calms (dmk (ks.map Ev.keyD) ds es) = true
  | [], ds, vs, es, kvs, _, _, ce, h => by
    have : dmk (List.map Ev.keyD []) ds es = es := by cases ds <;> rfl
    rw [this]; exact ⟨h, ce⟩
  | k :: ks, _, _, es, kvs, _, .nil, ce, h => ⟨h, ce⟩
  | k :: ks, d :: ds, v :: vs, es, kvs, cd, .cons r rs, ce, h => by
    simp only [D.calms, Bool.and_eq_true] at cd
    exact Ent.made (ks := ks) cd.2 rs (calm_dput (calm_keyD k) cd.1 ce) (h.put k r)
/-! nested keys -/
theorem EntN.get {es : List D} {kvs : EvNd.NKv} {kd : D} {k : NestedKey} (hk : nkO kd = some k) (h : EntN K G w H es kvs) : (dget kd es = none ∧ EvNd.valN kvs k = none) ∨ ∃ d v, dget kd es = some d ∧ EvNd.valN kvs k = some v ∧ Rep K G w H d v := by
  revert h
  induction es generalizing kvs with
  | nil => intro h; cases h; exact .inl ⟨rfl, rfl⟩
  | cons e es ih =>
    intro h
    cases h with
    | @cons k' b' kd' d v es kvs r1 h1 h2 r h =>
      rw [dget, kq_nk h1 hk]
      by_cases e : k' = k
      · subst e
        exact .inr ⟨d, v, by simp, by simp [EvNd.valN, List.find?_cons], r⟩
      · rw [decide_eq_false e]
        have : EvNd.valN ((k', b', v) :: kvs) k = EvNd.valN kvs k := by simp [EvNd.valN, List.find?_cons, e]
        rw [this]
        simpa using ih h
theorem EntN.has {es : List D} {kvs : EvNd.NKv} {kd : D} {k : NestedKey} (hk : nkO kd = some k) (h : EntN K G w H es kvs) : dhas kd es = (kvs.any fun kv => decide (kv.1 = k)) := by
  revert h
  induction es generalizing kvs with
  | nil => intro h; cases h; rfl
  | cons e es ih =>
    intro h
    cases h with
    | cons r1 h1 h2 r h => rw [dhas, kq_nk h1 hk, List.any_cons, ih h]
theorem EntN.rep {es : List D} {kvs : EvNd.NKv} {kd : D} {k : NestedKey} (hk : nkO kd = some k) {d : D} {v : V} (q : Rep K G w H d v) (h : EntN K G w H es kvs) : EntN K G w H (drep kd d es) (kvs.map fun kv => if kv.1 = k then (kv.1, kv.2.1, v) else kv) := by
  revert h
  induction es generalizing kvs with
  | nil => intro h; cases h; exact .nil
  | cons e es ih =>
    intro h
    cases h with
    | @cons k' b' kd' d' v' es kvs r1 h1 h2 r h =>
      rw [drep, kq_nk h1 hk, List.map_cons]
      by_cases e : k' = k
      · rw [decide_eq_true e, if_pos rfl, if_pos e]; exact .cons r1 h1 h2 q (ih h)
      · rw [decide_eq_false e, if_neg (by simp), if_neg e]; exact .cons r1 h1 h2 r (ih h)
theorem EntN.snoc {es : List D} {kvs : EvNd.NKv} {kd : D} {k : NestedKey} {b : Addr} (hk : nkO kd = some k) (hn : kNest kd = true) (rk : Rep K G w H kd (.ref b)) {d : D} {v : V} (q : Rep K G w H d v) (h : EntN K G w H es kvs) : EntN K G w H (es ++ [.tup [kd, d]]) (kvs ++ [(k, b, v)]) := by
  revert h
  induction es generalizing kvs with
  | nil => intro h; cases h; exact .cons rk hk hn q .nil
  | cons e es ih =>
    intro h
    cases h with
    | cons r1 h1 h2 r h => exact .cons r1 h1 h2 r (ih h)
theorem EntN.put {es : List D} {kvs : EvNd.NKv} {kd : D} {k : NestedKey} {b : Addr} (hk : nkO kd = some k) (hn : kNest kd = true) (rk : Rep K G w H kd (.ref b)) {d : D} {v : V} (q : Rep K G w H d v) (h : EntN K G w H es kvs) : EntN K G w H (dput es kd d) (EvNd.putN kvs k b v) := by
  unfold dput EvNd.putN
  rw [h.has hk]
  split
  · exact h.rep hk q
  · exact h.snoc hk hn rk q
theorem EntN.length {es : List D} {kvs : EvNd.NKv} (h : EntN K G w H es kvs) : es.length = kvs.length := by
  revert h
  induction es generalizing kvs with
  | nil => intro h; cases h; rfl
  | cons e es ih =>
    intro h
    cases h with
    | cons _ _ _ _ h => simp [ih h]
theorem EntN.kys {es : List D} {kvs : EvNd.NKv} (h : EntN K G w H es kvs) : EvNd.Kys K H kvs := by
  revert h
  induction es generalizing kvs with
  | nil => intro h; cases h; intro p hp; cases hp
  | cons e es ih =>
    intro h
    cases h with
    | cons r1 h1 h2 r h =>
      intro p hp
      rcases List.mem_cons.mp hp with z | z
      · subst z
        obtain ⟨k2, e, dp, _⟩ := kNest_of h2
        rw [h1] at e; cases e
        exact ⟨r1.nv h1, dp⟩
      · exact ih h p z
theorem EntN.keys {es : List D} {kvs : EvNd.NKv} (h : EntN K G w H es kvs) : Reps K G w H (es.map dkey) (kvs.map fun kv => V.ref kv.2.1) := by
  revert h
  induction es generalizing kvs with
  | nil => intro h; cases h; exact .nil
  | cons e es ih =>
    intro h
    cases h with
    | cons r1 h1 h2 r h => exact .cons r1 (ih h)
theorem Ent.keys {es : List D} {kvs : List (Key × V)} (h : Ent K G w H es kvs) : Reps K G w H (es.map dkey) (kvs.map fun kv => kV kv.1) := by
  revert h
  induction es generalizing kvs with
  | nil => intro h; cases h; exact .nil
  | cons e es ih =>
    intro h
    cases h with
    | cons r h => exact .cons (keyD_rep _) (ih h)
/-- what a value has as a dict: numbers and texts, or nested tuples; an empty one is both -/
theorem dents_of {S : Store} (st : RepSt K G w H S) {d : D} {v : V} {t : Bool} {es : List D} (r : Rep K G w H d v) (h : dents S d = some (t, es)) :
    ∃ a, v = .ref a ∧ ((t = false ∧ ∃ kvs, Rd H a (.dK kvs) ∧ Ent K G w H es kvs) ∨ (t = true ∧ ∃ kvs, Rd H a (EvNd.ND a kvs) ∧ EntN K G w H es kvs)) := by
  cases r with
  | @ref a l h1 =>
    have h : (match S[l]? with
      | some (.mk t :: es) => some (t, es)
      | _ => none : Option (Bool × List D)) = some (t, es) := h
    obtain ⟨ds, e1, hc⟩ := st.at_ h1
    rw [e1] at h
    rcases hc with ⟨vs, _, rs⟩ | ⟨es2, kvs, e2, hh, en⟩ | ⟨es2, kvs, e2, hh, en⟩
    · cases rs with
      | nil => cases h
      | cons r _ => cases r <;> cases h
    · subst e2
      cases h
      exact ⟨a, rfl, .inl ⟨rfl, kvs, .inl hh, en⟩⟩
    · subst e2
      cases h
      exact ⟨a, rfl, .inr ⟨rfl, kvs, .inl hh, en⟩⟩
  | dic h1 h2 h3 => cases h; exact ⟨_, rfl, .inl ⟨rfl, _, h1, h3⟩⟩
  | dit h1 h2 h3 => cases h; exact ⟨_, rfl, .inr ⟨rfl, _, h1, h3⟩⟩
  | _ => cases h
/-- a look into a dict: by a flat key, or a nested one -/
inductive DLook (K : PySem.W.Frag) (H : Hp) (a : Addr) (y : V) (o : Option V) : Prop
  | flat (kvs : List (Key × V)) (k : Key) : Rd H a (.dK kvs) → y = kV k → o = valV kvs k → DLook K H a y o
  | nest (kvs : EvNd.NKv) (k : NestedKey) (b : Addr) : EvNd.NdR H a kvs → EvNd.Kys K H kvs → y = .ref b → EvNd.Ky K H k b → o = EvNd.valN kvs k → DLook K H a y o
theorem dlook_of {S : Store} (st : RepSt K G w H S) {d kd : D} {v y : V} {o : Option D} (r : Rep K G w H d v) (rk : Rep K G w H kd y) (h : dgetK S d kd = some o) :
    ∃ a ov, v = .ref a ∧ DLook K H a y ov ∧ ((o = none ∧ ov = none) ∨ ∃ x u, o = some x ∧ ov = some u ∧ Rep K G w H x u) := by
  unfold dgetK at h
  cases e : dents S d with
  | none => rw [e] at h; cases h
  | some p =>
    obtain ⟨t, es⟩ := p
    rw [e] at h
    simp only [Option.bind_some] at h
    split at h
    · rename_i hk
      cases h
      obtain ⟨a, rfl, hh⟩ := dents_of st r e
      have fl : ∀ kvs, Rd H a (.dK kvs) → Ent K G w H es kvs → kFlat kd = true → ∃ a' ov, V.ref a = .ref a' ∧ DLook K H a' y ov ∧ ((dget kd es = none ∧ ov = none) ∨ ∃ x u, dget kd es = some x ∧ ov = some u ∧ Rep K G w H x u) := fun kvs h1 en hf => by
        obtain ⟨k, rfl⟩ := kFlat_key hf
        exact ⟨a, valV kvs k, rfl, .flat kvs k h1 rk.keyD rfl, by
          rcases en.get k with z | ⟨x, u, z1, z2, z3⟩
          · exact .inl z
          · exact .inr ⟨x, u, z1, z2, z3⟩⟩
      have ne : ∀ kvs, EvNd.NdR H a kvs → EntN K G w H es kvs → kNest kd = true → ∃ a' ov, V.ref a = .ref a' ∧ DLook K H a' y ov ∧ ((dget kd es = none ∧ ov = none) ∨ ∃ x u, dget kd es = some x ∧ ov = some u ∧ Rep K G w H x u) := fun kvs h1 en hn => by
        obtain ⟨k, b, e1, rfl, ky⟩ := rk.ky hn
        exact ⟨a, EvNd.valN kvs k, rfl, .nest kvs k b h1 en.kys rfl ky rfl, by
          rcases en.get e1 with z | ⟨x, u, z1, z2, z3⟩
          · exact .inl z
          · exact .inr ⟨x, u, z1, z2, z3⟩⟩
      rcases hh with ⟨rfl, kvs, h1, en⟩ | ⟨rfl, kvs, h1, en⟩
      · simp only [kyOk, Bool.false_eq_true, if_false, Bool.or_eq_true, Bool.and_eq_true] at hk
        rcases hk with hf | ⟨he, hn⟩
        · exact fl kvs h1 en hf
        · have e0 : es = [] := by simpa using he
          subst e0
          cases en
          exact ne [] (.inr ⟨rfl, h1⟩) .nil hn
      · exact ne kvs (.inl h1) en (by simpa [kyOk] using hk)
    · cases h
end
section
variable {X : Cx} {pins : List (Addr × Obj)} {σ : L2.St} {H : Hp} {s : Shared} {a : Addr} {y v : V} {u r : Value} {o : Option V} {A : Around} {E : Value → Shared → Prop}
theorem DLook.getItem {Q : Value → Shared → Prop} (hu : A.units + 65 < cLine) (I : Inv X pins σ H s) (g : DLook X.K H a y (some v)) (ry : RelV y u) (h : ∀ w' s', Inv X pins σ H s' → RelV v w' → Q w' s') :
    wpAny (model X.prog X.w) A (getItem (.ref a) u) Q E s := by
  cases g with
  | flat kvs k h1 h2 h3 => exact d_getItem (by omega) I (.inl ⟨kvs, k, h1, h2, h3⟩) ry h
  | nest kvs k b h1 h2 h3 h4 h5 =>
    subst h3
    cases (show u = Value.ref b from ry)
    exact EvNd.nd_getItem hu I h1 h2 h4 h5.symm h
theorem DLook.isIn {Q : Value → Shared → Prop} (hu : A.units + 65 < cLine) (I : Inv X pins σ H s) (g : DLook X.K H a y o) (ry : RelV y u) (h : ∀ s', Inv X pins σ H s' → Q (.bool o.isSome) s') :
    wpAny (model X.prog X.w) A (compareOp .In u (.ref a)) Q E s := by
  cases g with
  | flat kvs k h1 h2 h3 => exact d_in (by omega) I (.inl ⟨kvs, k, h1, h2, h3⟩) ry h
  | nest kvs k b h1 h2 h3 h4 h5 =>
    subst h3 h5
    cases (show u = Value.ref b from ry)
    exact EvNd.nd_in hu I h1 h2 h4 h
theorem DLook.notIn {Q : Value → Shared → Prop} (hu : A.units + 65 < cLine) (I : Inv X pins σ H s) (g : DLook X.K H a y o) (ry : RelV y u) (h : ∀ s', Inv X pins σ H s' → Q (.bool (!o.isSome)) s') :
    wpAny (model X.prog X.w) A (compareOp .NotIn u (.ref a)) Q E s := by
  cases g with
  | flat kvs k h1 h2 h3 => exact d_notIn (by omega) I (.inl ⟨kvs, k, h1, h2, h3⟩) ry h
  | nest kvs k b h1 h2 h3 h4 h5 =>
    subst h3 h5
    cases (show u = Value.ref b from ry)
    exact EvNd.nd_notIn hu I h1 h2 h4 h
end
def KIs : List DictEntry → List (Int × Int) → Prop
  | [], [] => True
  | e :: es, p :: ps => (∃ t u, e = ⟨hashInt p.1, .int p.1 t, .int p.2 u⟩) ∧ KIs es ps
  | _, _ => False
def KDI (K : PySem.W.Frag) (a : Addr) (kvs : List (Int × Int)) : Prop := ∃ (es : Array DictEntry) (n : Nat), K.lookup a = some ⟨.type "dict", none, .dict es n, #[]⟩ ∧ (a == sysModules) = false ∧ KIs es.toList kvs ∧ (kvs.map (·.1)).Nodup
/-- entries of pairs, grown by one -/
theorem dOf_snoc (ps acc : List D) (k v : D) : dOf (ps ++ [.tup [k, v]]) acc = dput (dOf ps acc) k v := by
  unfold dOf
  rw [List.foldl_append]; rfl
end Ev
/-! Ev, part Ns: sorted(..) of data, of a list or of a dict's keys; list(dict); divmod. -/
namespace EvNs
open PySem PySem.Spec PyProof.Rows L2
open PySem.W (dataLe AllAlike Sortable TotalLe EachIs sameRank)
/-! insertion -/
section
variable {β : Type} (le : β → β → Bool)
def inB (n : β) : List β → List β
  | [] => [n]
  | m :: r => if le n m = false then m :: inB n r else n :: m :: r
def insB : List β → List β
  | [] => []
  | n :: r => inB le n (insB r)
variable {le}
theorem inB_mem (n : β) : ∀ (r : List β) (x : β), x ∈ inB le n r ↔ x = n ∨ x ∈ r
  | [], x => by simp [inB]
  | m :: r, x => by
    unfold inB
    split
    · rw [List.mem_cons, inB_mem n r x, List.mem_cons]
      constructor
      · rintro (h | h | h)
        · exact .inr (.inl h)
        · exact .inl h
        · exact .inr (.inr h)
      · rintro (h | h | h)
        · exact .inr (.inl h)
        · exact .inl h
        · exact .inr (.inr h)
    · simp
theorem inB_srt (t : TotalLe le) (n : β) : ∀ r : List β, r.Pairwise (fun a b => le a b = true) → (inB le n r).Pairwise (fun a b => le a b = true)
  | [], _ => by simp [inB]
  | m :: r, h => by
    rw [List.pairwise_cons] at h
    unfold inB
    split
    · rename_i hn
      have hm : le m n = true := by
        rcases t.total m n with z | z
        · exact z
        · rw [hn] at z; cases z
      refine List.pairwise_cons.mpr ⟨fun x hx => ?_, inB_srt t n r h.2⟩
      rcases (inB_mem n r x).mp hx with z | z
      · subst z; exact hm
      · exact h.1 x z
    · rename_i hn
      have hn : le n m = true := by
        cases e : le n m with
        | true => rfl
        | false => exact absurd e hn
      refine List.pairwise_cons.mpr ⟨fun x hx => ?_, List.pairwise_cons.mpr h⟩
      rcases List.mem_cons.mp hx with z | z
      · subst z; exact hn
      · exact t.trans _ _ _ hn (h.1 x z)
theorem inB_fil (t : TotalLe le) (c n : β) : ∀ r : List β, (inB le n r).filter (sameRank le c) = (n :: r).filter (sameRank le c)
  | [] => rfl
  | m :: r => by
    unfold inB
    split
    · rename_i hn
      have ih := inB_fil t c n r
      rw [List.filter_cons, ih]
      by_cases hm : sameRank le c m = true
      · have hc : ¬ sameRank le c n = true := fun z => by
          simp only [sameRank, Bool.and_eq_true] at hm z
          have := t.trans _ _ _ z.2 hm.1
          rw [hn] at this; cases this
        rw [if_pos hm, List.filter_cons_of_neg hc, List.filter_cons_of_neg hc, List.filter_cons_of_pos hm]
      · rw [if_neg hm, List.filter_cons, List.filter_cons, List.filter_cons, if_neg hm]
    · rfl
theorem insB_srt (t : TotalLe le) : ∀ l : List β, (insB le l).Pairwise (fun a b => le a b = true)
  | [] => List.Pairwise.nil
  | n :: r => inB_srt t n _ (insB_srt t r)
theorem insB_fil (t : TotalLe le) (c : β) : ∀ l : List β, (insB le l).filter (sameRank le c) = l.filter (sameRank le c)
  | [] => rfl
  | n :: r => by
    show (inB le n (insB le r)).filter _ = _
    rw [inB_fil t c n, List.filter_cons, List.filter_cons, insB_fil t c r]
theorem insB_sort (t : TotalLe le) (l : List β) : insB le l = l.mergeSort le := PySem.W.sort_unique t (insB_srt t l) fun c => insB_fil t c l
theorem insB_mem : ∀ (l : List β) (x : β), x ∈ insB le l ↔ x ∈ l
  | [], x => by simp [insB]
  | n :: r, x => by
    show x ∈ inB le n (insB le r) ↔ _
    rw [inB_mem, insB_mem r x, List.mem_cons]
theorem inB_len (n : β) : ∀ r : List β, (inB le n r).length = r.length + 1
  | [] => rfl
  | m :: r => by
    unfold inB
    split
    · simp [inB_len n r]
    · rfl
theorem insB_len : ∀ l : List β, (insB le l).length = l.length
  | [] => rfl
  | n :: r => by
    show (inB le n (insB le r)).length = _
    rw [inB_len, insB_len r]; rfl
end
/-! what is sorted: a list, a dict's keys -/
inductive Src (K : PySem.W.Frag) (H : Hp) (a : Addr) (xs : List V) : Prop
  | lst : SqL K H a xs → Src K H a xs
  | flat (kvs : List (Key × V)) : Rd H a (.dK kvs) → xs = kvs.map (fun kv => kV kv.1) → Src K H a xs
  | nest (kvs : EvNd.NKv) : EvNd.NdR H a kvs → EvNd.Kys K H kvs → xs = kvs.map (fun kv => V.ref kv.2.1) → Src K H a xs
/-- sorted(x): the items' data are alike -/
def rSortD (K : PySem.W.Frag) : List V → Hp → VK → Prop := fun vs H Q => ∃ (a : Addr) (bs : List (PyData × V)), vs = [V.ref a] ∧ Src K H a (bs.map (·.2)) ∧ (∀ b ∈ bs, Dp K H b.2 b.1) ∧ AllAlike (bs.map (·.1)) ∧ Sortable (bs.map (·.1)) ∧ bs.length ≤ sizeLine ∧ (∀ b ∈ bs, b.1.depth ≤ 8) ∧
  ∀ p, H p = none → Q (.ref p) (upd H p (.lst ((insB (dataLe false (·.1)) bs).map (·.2))))
/-- list(d) -/
def rListD (K : PySem.W.Frag) : List V → Hp → VK → Prop := fun vs H Q => ∃ (a : Addr) (kvs : EvNd.NKv), vs = [V.ref a] ∧ EvNd.NdR H a kvs ∧ EvNd.Kys K H kvs ∧ ∀ p, H p = none → Q (.ref p) (upd H p (.lst (kvs.map fun kv => V.ref kv.2.1)))
section
variable {X : Cx}
theorem each_of {H : Hp} : ∀ {bs : List (PyData × V)} {us : List Value}, Vals (bs.map (·.2)) us → EachIs (fun (u : Value) (b : PyData × V) => RelV b.2 u) us bs
  | [], _, r => by cases r; exact .nil
  | b :: bs, _, r => by
    cases r with
    | cons h t => exact .cons h (each_of (H := H) t)
theorem vals_of_each : ∀ {bs : List (PyData × V)} {us : List Value}, EachIs (fun (u : Value) (b : PyData × V) => RelV b.2 u) us bs → Vals (bs.map (·.2)) us
  | _, _, .nil => .nil
  | _, _, .cons h t => .cons h (vals_of_each t)
theorem each_reads {pins : List (Addr × Obj)} {σ : L2.St} {H : Hp} {s : Shared} (I : Inv X pins σ H s) : ∀ {bs : List (PyData × V)} {us : List Value}, EachIs (fun (u : Value) (b : PyData × V) => RelV b.2 u) us bs → (∀ b ∈ bs, Dp X.K H b.2 b.1) → EachIs (fun (u : Value) (b : PyData × V) => ∃ as, Reads s.heap u b.1 as) us bs
  | _, _, .nil, _ => .nil
  | _, _, .cons h t, k => .cons (Dp.reads I _ _ _ (k _ List.mem_cons_self) h) (each_reads I t fun b m => k b (List.mem_cons_of_mem _ m))
theorem vals_at : ∀ {xs : List V} {us : List Value}, us.length = xs.length → (∀ (j : Nat) (u : Value), us[j]? = some u → ∃ v, xs[j]? = some v ∧ RelV v u) → Vals xs us
  | [], [], _, _ => .nil
  | x :: xs, u :: us, hl, h => by
    obtain ⟨v, e, r⟩ := h 0 u rfl
    cases e
    exact .cons r (vals_at (by simpa using hl) fun j w e => by simpa using h (j + 1) w (by simpa using e))
  | [], _ :: _, hl, _ => by simp at hl
  | _ :: _, [], hl, _ => by simp at hl
/-- a dict's keys, collected -/
theorem src_collect {pins : List (Addr × Obj)} {σ : L2.St} {H : Hp} {s : Shared} {a : Addr} {xs : List V} {A : Around} {E : Value → Shared → Prop} {R : List Value → Shared → Prop} (hA : A.handled = none) (I : Inv X pins σ H s) (h : Src X.K H a xs) (hn : ¬ SqL X.K H a xs)
    (k : ∀ (h' : Heap) (tk : Nat) (us : List Value), (∀ b o, s.heap.get? b = some o → h'.get? b = some o) → Vals xs us → R us { s with heap := h', toks := tk }) : wpAny (model X.prog X.w) A (collect (.ref a)) R E s := by
  cases h with
  | lst h => exact absurd h hn
  | flat kvs h e =>
    subst e
    obtain ⟨z, lo, vs, rel, dd⟩ := dk_rd I.hok h
    obtain ⟨ep, hat⟩ := dd.dictAt
    refine PySem.W.kdu_collect (PySem.W.kdl_dict (knd := mixKind X.prog X.w) (kvs := vs) (ep := ep) lo) hA hat (by rw [← rel.length]; exact z) fun h' tk acc hk hacc => k h' tk acc.toList hk ?_
    refine vals_at (by rw [Array.length_toList, hacc.1, List.length_map, rel.length]) fun j u e => ?_
    obtain ⟨kk, x, e1, e2⟩ := hacc.2 j u (by rw [← Array.getElem?_toList]; exact e)
    have e3 : (vs.map (·.1))[j]? = some kk := by rw [List.getElem?_map, e1]; rfl
    rw [← rel.keys, List.getElem?_map] at e3
    cases e4 : kvs[j]? with
    | none => rw [e4] at e3; cases e3
    | some p =>
      rw [e4] at e3
      refine ⟨kV p.1, by rw [List.getElem?_map, e4]; rfl, ?_⟩
      have : p.1 = kk := Option.some.inj e3
      rw [this]
      exact relV_key (show keyIs kk u = true from e2)
  | nest kvs h hk e =>
    subst e
    obtain ⟨z1, z2, o, es, ep, xs', h1, h2, h3, h4, h5, h6⟩ := EvNd.ndat_of I h
    have hsz : es.size = xs'.length := by
      have := congrArg List.length (h5 X.w)
      rw [Array.length_toList, List.length_map] at this
      exact this
    have hl : kvs.length = xs'.length := Paired.length h4
    refine PySem.W.kdu_collect (KdlSrc.rawDict (prog := X.prog) (w := X.w) (es := es) (ep := ep) z1) hA ⟨o, h1, h2, h3⟩ (by rw [hsz, ← hl]; exact z2) fun h' tk acc hk' hacc => k h' tk acc.toList hk' ?_
    refine vals_at (by rw [Array.length_toList, hacc.1, List.length_map, hsz, hl]) fun j u e => ?_
    obtain ⟨hi, e1⟩ := hacc.2 j u (by rw [← Array.getElem?_toList]; exact e)
    subst e1
    have hj : j < kvs.length := by omega
    refine ⟨V.ref kvs[j].2.1, by rw [List.getElem?_map, List.getElem?_eq_getElem hj]; rfl, ?_⟩
    obtain ⟨b, hb, q1, q2, q3⟩ := paired_get h4 (List.getElem?_eq_getElem hj)
    have q4 : es.toList[j]? = some (EvNd.ndE X.w b) := by rw [h5 X.w, List.getElem?_map, hb]; rfl
    have q5 : es[j] = EvNd.ndE X.w b := by
      have : es.toList[j]? = some es[j] := by rw [Array.getElem?_toList, Array.getElem?_eq_getElem hi]
      rw [this] at q4
      exact Option.some.inj q4
    rw [q5]
    show Value.ref b.2.1 = Value.ref kvs[j].2.1
    rw [q2]
theorem cr_sortD (hcalm : X.calm = true) (hu : X.A.units + 100 < cLine) : CallR X (.builtin "sorted") (rSortD X.K) := by
  intro pins s σ H vs us Q I r h
  obtain ⟨a, bs, rfl, hs, hd, al, sb, hz, dp, q⟩ := h
  rw [Vals.ref1 r]
  have tot : TotalLe (dataLe false (fun b : PyData × V => b.1)) := PySem.W.sortLe_total _ _ _
  rw [insB_sort tot] at q
  have lenS : ∀ out : List Value, EachIs (fun (u : Value) (b : PyData × V) => RelV b.2 u) out (bs.mergeSort (dataLe false (·.1))) → ((bs.mergeSort (dataLe false (·.1))).map (·.2)).length ≤ sizeLine := fun out _ => by
    rw [List.length_map, List.length_mergeSort]; exact hz
  by_cases hl : SqL X.K H a (bs.map (·.2))
  · obtain ⟨its, rv, hl', hz'⟩ := I.list hl
    have e := each_of (H := H) rv
    refine PySem.W.sorted_data (vs := its) (bs := bs) (enc := (·.1)) hl'.isList e (each_reads I e hd) al sb hz (fun b hb => by have := dp b hb; show X.A.units + 2 + _ < cLine; omega) fun out h1 h2 => ?_
    obtain ⟨ep, he'⟩ := PyProof.Rows.sortedAll_at s.heap its out.toArray
    exact ⟨.ref _, upd H (s.heap.objs.size + 1) (.lst _), I.laid (t' := s.toks) (fun _ _ => PyProof.Rows.sortedAll_old) (Nat.le_succ _) ⟨lenS out h2, out, ep, vals_of_each h2, he'⟩, rfl, q _ (I.hok.fresh (Nat.le_succ _))⟩
  · refine Calls.call_function_entry PyProof.Rows.kind_sorted PyProof.Rows.plain_sorted PyProof.Rows.entry_sorted (PyProof.Rows.args_sorted1 _) ?_
    unfold Builtin.«sorted»
    refine wpAny_bind (m := checkCount "sorted" 1 1 _) (wpAny_pure ?_)
    refine wpAny_bind (src_collect (A := X.A.in1) (I.ok.hd hcalm) I hs hl fun h' tk acc hk hacc => ?_)
    have I1 : Inv X pins σ H { s with heap := h', toks := tk } := I.kept hk
    have e := each_of (H := H) hacc
    have er := each_reads I1 e hd
    have hlen : acc.length = bs.length := e.length
    refine wpAny_bind (wpAny_newList ?_ (by rw [hlen]; exact hz))
    have hoL : (h'.push (seqObj "list" acc.toArray 0)).get? h'.objs.size = some (seqObj "list" acc.toArray 0) := Heap.get?_push_size _ rfl
    show wpAny _ _ _ _ _ { s with heap := h'.push (seqObj "list" acc.toArray 0), toks := tk }
    have er' : EachIs (fun (u : Value) (b : PyData × V) => ∃ as, Reads (h'.push (seqObj "list" acc.toArray 0)) u b.1 as ∧ h'.objs.size ∉ as) acc bs := er.mono fun u b ⟨as, z⟩ => ⟨as, PyProof.Rows.Reads.keeps (fun _ _ => Heap.get?_push_of_some _) z, fun m => by
      obtain ⟨o, eo⟩ := PyProof.On.reads_mem_get z _ m
      exact absurd (Heap.lt_size eo) (Nat.lt_irrefl _)⟩
    refine wpAny_bind (wpAny_holding (PySem.W.list_sort_data (s := { s with heap := h'.push (seqObj "list" acc.toArray 0), toks := tk }) (bs := bs) (enc := (·.1)) hoL e er' al sb hz (fun b hb => by have := dp b hb; show X.A.units + 1 + 1 + _ < cLine; omega) fun out h1 h2 => ?_))
    obtain ⟨e', he'⟩ := PyProof.Rows.sortedHeap_at (vs := acc) (out := out.toArray) hoL
    refine wpAny_pure ⟨_, rfl, .ref h'.objs.size, upd H h'.objs.size (.lst _), I1.laid (t' := tk) (fun b u e => ?_) (Nat.le_refl _)
      (show ObjOk X.prog X.w _ _ _ (.lst _) from ⟨lenS out h2, out, e', vals_of_each h2, he'⟩), rfl, q _ (I1.hok.fresh (Nat.le_refl _))⟩
    have hb : b < h'.objs.size := Heap.lt_size e
    rw [PyProof.Rows.sortedHeap_old (Nat.ne_of_lt hb) (by rw [size_push']; exact Nat.lt_succ_of_lt hb)]
    exact Heap.get?_push_of_some _ e
theorem cr_listD (hcalm : X.calm = true) : CallR X (.type "list") (rListD X.K) := by
  intro pins s σ H vs us Q I r h
  obtain ⟨a, kvs, rfl, hn, hk, q⟩ := h
  rw [Vals.ref1 r]
  obtain ⟨z1, z2, o, es, ep, xs', h1, h2, h3, h4, h5, h6⟩ := EvNd.ndat_of I hn
  have hsz : es.size = xs'.length := by
    have := congrArg List.length (h5 X.w)
    rw [Array.length_toList, List.length_map] at this
    exact this
  have hl : kvs.length = xs'.length := Paired.length h4
  refine PySem.W.kdl_call (KdlSrc.rawDict (prog := X.prog) (w := X.w) (es := es) (ep := ep) z1) (I.ok.hd hcalm) ⟨o, h1, h2, h3⟩ (by rw [hsz, ← hl]; exact z2) fun h' tk acc c' hk' hD hacc => ?_
  have hv : Vals (kvs.map fun kv => V.ref kv.2.1) acc.toList := by
    refine vals_at (by rw [Array.length_toList, hacc.1, List.length_map, hsz, hl]) fun j u e => ?_
    obtain ⟨hi, e1⟩ := hacc.2 j u (by rw [← Array.getElem?_toList]; exact e)
    subst e1
    have hj : j < kvs.length := by omega
    refine ⟨V.ref kvs[j].2.1, by rw [List.getElem?_map, List.getElem?_eq_getElem hj]; rfl, ?_⟩
    obtain ⟨b, hb, q1, q2, q3⟩ := paired_get h4 (List.getElem?_eq_getElem hj)
    have q4 : es.toList[j]? = some (EvNd.ndE X.w b) := by rw [h5 X.w, List.getElem?_map, hb]; rfl
    have q5 : es[j] = EvNd.ndE X.w b := by
      have : es.toList[j]? = some es[j] := by rw [Array.getElem?_toList, Array.getElem?_eq_getElem hi]
      rw [this] at q4
      exact Option.some.inj q4
    rw [q5]
    show Value.ref b.2.1 = Value.ref kvs[j].2.1
    rw [q2]
  exact ⟨.ref s.heap.objs.size, upd H s.heap.objs.size (.lst (kvs.map fun kv => V.ref kv.2.1)), I.laid (t' := tk) hk' (Nat.le_refl _)
    (show ObjOk X.prog X.w _ _ _ (.lst (kvs.map fun kv => V.ref kv.2.1)) from ⟨by rw [List.length_map]; exact z2, acc.toList, c', hv, by rw [Array.toArray_toList]; exact hD⟩), rfl, q _ (I.hok.fresh (Nat.le_refl _))⟩
/-- divmod(a, b), b above 0 -/
theorem cr_divmod : CallR X (.builtin "divmod") (fun vs H Q => ∃ a b : Int, vs = [V.int a, V.int b] ∧ 0 < b ∧ b.natAbs.log2 < 9000 ∧ ∀ p, H p = none → Q (.ref p) (upd H p (.tup [.int (a / b), .int (a % b)]))) := by
  intro pins s σ H vs us Q I r h
  obtain ⟨a, b, rfl, hb, hl, q⟩ := h
  obtain ⟨u1, u2, rfl, r1, r2⟩ := r.two
  obtain ⟨t, rfl⟩ := r1
  obtain ⟨t', rfl⟩ := r2
  refine divmod_int (by omega) ?_ (.inl (PyProof.noPylong_of_log2 hl))
  refine ⟨.ref s.heap.objs.size, upd H s.heap.objs.size (.tup [.int (a / b), .int (a % b)]), I.laid (t' := s.toks + 1 + 1) (fun _ _ e => Heap.get?_push_of_some _ e) (Nat.le_refl _) ⟨show 2 ≤ sizeLine by decide, [.int (a.fdiv b) s.toks, .int (a.fmod b) (s.toks + 1)], ?_, ⟨_, Heap.get?_push_size _ rfl, rfl, _, rfl⟩⟩, rfl, q _ (I.hok.fresh (Nat.le_refl _))⟩
  have e1 : a.fdiv b = a / b := Int.fdiv_eq_ediv_of_nonneg _ (by omega)
  have e2 : a.fmod b = a % b := Int.fmod_eq_emod_of_nonneg _ (by omega)
  rw [e1, e2]
  exact .cons ⟨_, rfl⟩ (.cons ⟨_, rfl⟩ .nil)
end
end EvNs
/-! Ev, part Nr: ranges as values; d.get. -/
namespace EvNr
open PySem PySem.Spec PyProof.Rows L2
section
variable {X : Cx}
theorem cr_range1 : CallR X (.type "range") (fun vs H Q => ∃ j, vs = [V.int j] ∧ ∀ p, H p = none → Q (.ref p) (upd H p (.rng 0 j))) := by
  intro pins s σ H vs us Q I r h
  obtain ⟨j, rfl, q⟩ := h
  rw [show us = us from rfl]
  cases r with
  | cons rj rr =>
    cases rr
    obtain ⟨t, rfl⟩ := rj
    refine call_range_1 ⟨.ref s.heap.objs.size, upd H s.heap.objs.size (.rng 0 j), I.laid (t' := s.toks + 1 + 1) (fun b o e => Heap.get?_push_of_some _ e) (Nat.le_refl _) ?_, rfl, q _ (I.hok.fresh (Nat.le_refl _))⟩
    exact ⟨s.toks, t, s.toks + 1, Heap.get?_push_size _ rfl⟩
/-- a range object, walked -/
def iRgV (te : TE) : TI := fun σ H R => te σ H fun x H1 => ∃ a lo hi, x = .ref a ∧ H1 a = some (.rng lo hi) ∧ (-(2 ^ 62) ≤ lo ∧ lo < 2 ^ 62 ∧ -(2 ^ 62) ≤ hi ∧ hi < 2 ^ 62) ∧ R (Itr lo (hi - lo).toNat) H1
theorem pi_rgV {tg e : Expr} {te : TE} (he : PE X e te) : PI X tg e (iRgV te) := by
  refine ⟨fun pins s σ H R I h => ?_⟩
  refine thn (he.run pins s σ H _ I h) fun u s1 ⟨x, H1, I1, rx, a, lo, hi, ex, hd, ⟨h1, h2, h3, h4⟩, q⟩ => ?_
  subst ex
  obtain rfl : u = Value.ref a := rx
  obtain ⟨t, u, v, ho⟩ := (show ∃ t u v, s1.heap.get? a = some { cls := .type "range", data := .fields #[.int lo t, .int hi u, .int 1 v] } from I1.hok _ _ hd)
  refine wpAny_pyIter_range (show IsRange s1.heap a lo hi 1 t u v from ho) (small_one h1 h2 h3 h4) ?_
  refine pi_one (tk := s1.toks) I1 _ (turn_range _ lo (hi - lo).toNat) ?_ q
  have e1 : lo + ((0 : Nat) : Int) * 1 = lo := by simp
  have e2 : (((hi - lo).toNat : Nat) : Int) - ((0 : Nat) : Int) = Builtin.Range.rangeSize lo hi 1 := by rw [rangeSize_one]; split <;> omega
  show IsRangeIter _ _ (lo + ((0 : Nat) : Int) * 1) ((((hi - lo).toNat : Nat) : Int) - ((0 : Nat) : Int)) 1
  rw [e1, e2]
  exact Heap.get?_push_size _ rfl
end
end EvNr
/-! Ev, part C: the operations on data are the machine's. -/
namespace Ev
open PySem PySem.Spec PyProof.Rows L2
/-- the answer d, the store as it was -/
def Ans (K : PySem.W.Frag) (G : Gx) (w : Wd) (H : Hp) (S : Store) (d : D) (Q : VK) : Prop :=
  ∀ (v : V) (H' : Hp), Ext w H w H' → RepSt K G w H' S → Rep K G w H' d v → Q v H'
theorem Ans.same {K : PySem.W.Frag} {G : Gx} {w : Wd} {H : Hp} {S : Store} {d : D} {Q : VK} (a : Ans K G w H S d Q) (r : RepSt K G w H S) {v : V} (q : Rep K G w H d v) : Q v H := a v H (Ext.refl _ _) r q
theorem Ans.tup {K : PySem.W.Frag} {G : Gx} {w : Wd} {H : Hp} {S : Store} {ds : List D} {Q : VK} (a : Ans K G w H S (.tup ds) Q) (r : RepSt K G w H S) {vs : List V} (q : Reps K G w H ds vs) (p : Addr) (h : H p = none) : Q (.ref p) (upd H p (.tup vs)) :=
  a _ _ (Ext.laid h) (r.laid h) (tup_new r h q)
theorem Ans.lst {K : PySem.W.Frag} {G : Gx} {w : Wd} {H : Hp} {S : Store} {ds : List D} {Q : VK} (a : Ans K G w H S (.lst ds) Q) (r : RepSt K G w H S) {vs : List V} (q : Reps K G w H ds vs) (p : Addr) (h : H p = none) : Q (.ref p) (upd H p (.lst vs)) :=
  a _ _ (Ext.laid h) (r.laid h) (lst_new r h q)
def rB (K : PySem.W.Frag) (G : Gx) (g : D → D → Store → Option D) : R2 := fun x y H Q =>
  ∃ d1 d2 d S w, RepSt K G w H S ∧ Rep K G w H d1 x ∧ Rep K G w H d2 y ∧ g d1 d2 S = some d ∧ Ans K G w H S d Q
section
variable {K : PySem.W.Frag} {G : Gx} {w : Wd} {H : Hp} {S : Store}
/-- the list that stands at a value -/
theorem lst_of (st : RepSt K G w H S) {d : D} {v : V} {ds : List D} (r : Rep K G w H d v) (h : itemsL S d = some ds) : ∃ a vs, v = .ref a ∧ SqL K H a vs ∧ Reps K G w H ds vs := by
  cases r with
  | lst h1 h2 =>
    have e := Option.some.inj h
    subst e
    exact ⟨_, _, rfl, h1.sq, h2⟩
  | frz h1 h2 =>
    have e := Option.some.inj h
    subst e
    exact ⟨_, _, rfl, h1.sq, h2⟩
  | ref h1 =>
    obtain ⟨vs, _, e2, e3⟩ := st.at3 h1 (show cel S _ = some ds from h)
    exact ⟨_, vs, rfl, SqL.of e2, e3⟩
  | _ => cases h
theorem seq_of (st : RepSt K G w H S) {d : D} {v : V} {ds : List D} (r : Rep K G w H d v) (h : itemsS S d = some ds) : ∃ a vs, v = .ref a ∧ (SqL K H a vs ∨ SqT K H a vs) ∧ Reps K G w H ds vs := by
  cases r with
  | tup h1 h2 =>
    have e := Option.some.inj h
    subst e
    exact ⟨_, _, rfl, .inr h1.sq, h2⟩
  | lst h1 h2 =>
    obtain ⟨a, vs, e1, e2, e3⟩ := lst_of st (.lst h1 h2) h
    exact ⟨a, vs, e1, .inl e2, e3⟩
  | frz h1 h2 =>
    obtain ⟨a, vs, e1, e2, e3⟩ := lst_of st (.frz h1 h2) h
    exact ⟨a, vs, e1, .inl e2, e3⟩
  | ref h1 =>
    obtain ⟨a, vs, e1, e2, e3⟩ := lst_of st (.ref h1) h
    exact ⟨a, vs, e1, .inl e2, e3⟩
  | _ => cases h
mutual
theorem Rep.dp : ∀ {d : D} {v : V} {p : PyData}, Rep K G w H d v → d.py = some p → Dp K H v p
  | _, _, _, .non, h => by cases Option.some.inj (show some PyData.none = some _ from h); exact .non
  | _, _, _, .bl b, h => by cases Option.some.inj (show some (PyData.bool b) = some _ from h); exact .bl b
  | _, _, _, .int i, h => by cases Option.some.inj (show some (PyData.int i) = some _ from h); exact .int i
  | _, _, _, .str x, h => by cases Option.some.inj (show some (PyData.str x) = some _ from h); exact .str x
  | .tup ds, _, _, .tup h1 r _, h => by
    cases e : D.pys ds with
    | none => simp [D.py, e] at h
    | some ps =>
      simp [D.py, e] at h
      subst h
      exact .tup h1.sq (Reps.dp r e)
  | .lst ds, _, _, .lst h1 r, h => by
    cases e : D.pys ds with
    | none => simp [D.py, e] at h
    | some ps =>
      simp [D.py, e] at h
      subst h
      exact .lst h1.sq (Reps.dp r e)
  | .frz ds, _, _, .frz h1 r, h => by
    cases e : D.pys ds with
    | none => simp [D.py, e] at h
    | some ps =>
      simp [D.py, e] at h
      subst h
      exact .lst h1.sq (Reps.dp r e)
  | _, _, _, .ref _, h => by cases h
  | _, _, _, .gl _, h => by cases h
  | _, _, _, .ty _, h => by cases h
  | _, _, _, .dct _ _, h => by cases h
  | _, _, _, .sz _ _, h => by cases h
  | _, _, _, .exn _ _ _, h => by cases h
  | _, _, _, .dic _ _ _, h => by cases h
  | _, _, _, .dit _ _ _, h => by cases h
  | _, _, _, .rg _ _, h => by cases h
theorem Reps.dp : ∀ {ds : List D} {vs : List V} {ps : List PyData}, Reps K G w H ds vs → D.pys ds = some ps → DpAll K H vs ps
  | _, _, _, .nil, h => by cases Option.some.inj (show some [] = some _ from h); exact .nil
  | d :: ds, _, _, .cons r rs, h => by
    cases e1 : d.py with
    | none => simp [D.pys, e1] at h
    | some p =>
      cases e2 : D.pys ds with
      | none => simp [D.pys, e1, e2] at h
      | some ps =>
        simp [D.pys, e1, e2] at h
        subst h
        exact .cons (Rep.dp r e1) (Reps.dp rs e2)
end
theorem dp_of (st : RepSt K G w H S) {d : D} {v : V} {p : PyData} (r : Rep K G w H d v) (h : pyS S d = some p) : Dp K H v p := by
  cases r with
  | @ref a l h1 =>
    have h' : (match cel S l with | some ds => (D.pys ds).map PyData.list | none => none) = some p := h
    cases e1 : cel S l with
    | none => rw [e1] at h'; cases h'
    | some es =>
    obtain ⟨vs, _, e2, e3⟩ := st.at3 h1 e1
    rw [e1] at h'
    simp only at h'
    cases e : D.pys es with
    | none => rw [e] at h'; cases h'
    | some ps =>
      rw [e] at h'
      cases h'
      exact .lst (SqL.of e2) (e3.dp e)
  | non => exact Rep.dp (G := G) (w := w) .non h
  | bl b => exact Rep.dp (G := G) (w := w) (.bl b) h
  | int i => exact Rep.dp (G := G) (w := w) (.int i) h
  | str x => exact Rep.dp (G := G) (w := w) (.str x) h
  | tup h1 h2 h3 => exact Rep.dp (.tup h1 h2 h3) h
  | lst h1 h2 => exact Rep.dp (.lst h1 h2) h
  | frz h1 h2 => exact Rep.dp (.frz h1 h2) h
  | gl k => cases h
  | ty n => cases h
  | dct _ _ => cases h
  | sz _ _ => cases h
  | exn _ _ _ => cases h
  | dic _ _ _ => cases h
  | dit _ _ _ => cases h
  | rg _ _ => cases h
/-- a list of our own -/
theorem own_of (st : RepSt K G w H S) {d : D} {v : V} {ds : List D} (r : Rep K G w H d v) (h : itemsT S d = some ds) : ∃ a vs, v = .ref a ∧ H a = some (.lst vs) ∧ Reps K G w H ds vs := by
  cases r with
  | lst h1 h2 =>
    have e := Option.some.inj h
    subst e
    exact ⟨_, _, rfl, h1.1, h2⟩
  | ref h1 =>
    obtain ⟨vs, _, e2, e3⟩ := st.at3 h1 (show cel S _ = some ds from h)
    exact ⟨_, vs, rfl, e2, e3⟩
  | _ => cases h
theorem ints_of : ∀ {ds : List D} {vs : List V} {ns : List Int}, Reps K G w H ds vs → intsOf ds = some ns → vs = ns.map V.int
  | _, _, _, .nil, h => by cases Option.some.inj (show some [] = some _ from h); rfl
  | d :: ds, _, ns, .cons r rs, h => by
    cases d with
    | int i =>
      cases e : intsOf ds with
      | none => simp [intsOf, e] at h
      | some ms =>
        simp [intsOf, e] at h
        subst h
        cases r
        rw [ints_of rs e]; rfl
    | _ => cases h
theorem rows_of : ∀ {ds : List D} {vs : List V} {ks : List (List Int)}, Reps K G w H ds vs → rowsT ds = some ks → ∃ ps : List (Addr × List Int), vs = ps.map (fun p => V.ref p.1) ∧ ps.map (·.2) = ks ∧ ∀ p ∈ ps, SqT K H p.1 (p.2.map V.int)
  | _, _, _, .nil, h => by cases Option.some.inj (show some [] = some _ from h); exact ⟨[], rfl, rfl, fun p hp => by cases hp⟩
  | d :: ds, _, ks, .cons r rs, h => by
    cases d with
    | tup es =>
      cases e1 : intsOf es with
      | none => simp [rowsT, e1] at h
      | some k =>
        cases e2 : rowsT ds with
        | none => simp [rowsT, e1, e2] at h
        | some ks' =>
          simp [rowsT, e1, e2] at h
          subst h
          obtain ⟨ps, g1, g2, g3⟩ := rows_of rs e2
          cases r with
          | @tup a vs _ h1 h2 =>
            have ev := ints_of h2 e1
            refine ⟨(a, k) :: ps, by rw [g1]; rfl, by rw [List.map_cons, g2], fun p hp => ?_⟩
            rcases List.mem_cons.mp hp with z | z
            · rw [z]
              show SqT K H a (k.map V.int)
              rw [← ev]; exact h1.sq
            · exact g3 p z
    | _ => cases h
theorem mxI_ok : ∀ (r : List Int) (n : Int), mxI n r ∈ n :: r ∧ ∀ y ∈ n :: r, y ≤ mxI n r
  | [], n => by simp [mxI]
  | m :: r, n => by
    obtain ⟨h1, h2⟩ := mxI_ok r (if m > n then m else n)
    unfold mxI
    have h3 := h2 _ List.mem_cons_self
    constructor
    · rcases List.mem_cons.mp h1 with z | z
      · rw [z]; split <;> simp
      · exact List.mem_cons_of_mem _ (List.mem_cons_of_mem _ z)
    · intro y hy
      rcases List.mem_cons.mp hy with z | hy
      · subst z; split at h3 <;> split <;> omega
      · rcases List.mem_cons.mp hy with z | z
        · subst z; split at h3 <;> split <;> omega
        · exact h2 y (List.mem_cons_of_mem _ z)
theorem mnI_ok : ∀ (r : List Int) (n : Int), mnI n r ∈ n :: r ∧ ∀ y ∈ n :: r, mnI n r ≤ y
  | [], n => by simp [mnI]
  | m :: r, n => by
    obtain ⟨h1, h2⟩ := mnI_ok r (if m < n then m else n)
    unfold mnI
    have h3 := h2 _ List.mem_cons_self
    constructor
    · rcases List.mem_cons.mp h1 with z | z
      · rw [z]; split <;> simp
      · exact List.mem_cons_of_mem _ (List.mem_cons_of_mem _ z)
    · intro y hy
      rcases List.mem_cons.mp hy with z | hy
      · subst z; split at h3 <;> split <;> omega
      · rcases List.mem_cons.mp hy with z | z
        · subst z; split at h3 <;> split <;> omega
        · exact h2 y (List.mem_cons_of_mem _ z)
theorem bools_of : ∀ {ds : List D} {vs : List V} {ns : List Bool}, Reps K G w H ds vs → boolsOf ds = some ns → vs = ns.map V.bl
  | _, _, _, .nil, h => by cases Option.some.inj (show some [] = some _ from h); rfl
  | d :: ds, _, ns, .cons r rs, h => by
    cases d with
    | bl i =>
      cases e : boolsOf ds with
      | none => simp [boolsOf, e] at h
      | some ms =>
        simp [boolsOf, e] at h
        subst h
        cases r
        rw [bools_of rs e]; rfl
    | _ => cases h
theorem tru_of (st : RepSt K G w H S) {d : D} {v : V} {b : Bool} (r : Rep K G w H d v) (h : truth S d = some b) : TruV K v H b := by
  cases r with
  | non => cases Option.some.inj h; rfl
  | bl c => cases Option.some.inj h; rfl
  | int i => cases Option.some.inj h; rfl
  | str x =>
    have h' : (if x.length ≤ sizeLine then some ((x.length : Int) != 0) else none) = some b := h
    split at h'
    · rename_i hz
      exact ⟨hz, (Option.some.inj h').symm⟩
    · cases h'
  | @tup a vs ds h1 h2 =>
    cases Option.some.inj h
    refine .inr (.inl ⟨vs, h1.sq, ?_⟩)
    cases h2 <;> rfl
  | @lst a vs ds h1 h2 =>
    cases Option.some.inj h
    refine .inl ⟨vs, h1.sq, ?_⟩
    cases h2 <;> rfl
  | @frz a vs ds h1 h2 =>
    cases Option.some.inj h
    refine .inl ⟨vs, h1.sq, ?_⟩
    cases h2 <;> rfl
  | @ref a l h1 =>
    have h' : (cel S l).map (fun xs : List D => !xs.isEmpty) = some b := h
    cases e1 : cel S l with
    | none => rw [e1] at h'; cases h'
    | some es =>
    obtain ⟨vs, _, e2, e3⟩ := st.at3 h1 e1
    rw [e1] at h'
    cases Option.some.inj h'
    refine .inl ⟨vs, SqL.of e2, ?_⟩
    cases e3 <;> rfl
  | gl k => cases h
  | ty n => cases h
  | dct _ _ => cases h
  | sz _ _ => cases h
  | exn _ _ _ => cases h
  | dic _ _ _ => cases h
  | dit _ _ _ => cases h
  | rg _ _ => cases h
theorem at_of {ds : List D} {vs : List V} {k : Int} {d : D} (r : Reps K G w H ds vs) (h : atI ds k = some d) : ∃ v, atI vs k = some v ∧ Rep K G w H d v := by
  unfold atI at h ⊢
  rw [← r.length]
  cases e : ixN ds.length k with
  | none => rw [e] at h; cases h
  | some j =>
    rw [e] at h
    exact r.get h
end
section
variable {X : Cx} {G : Gx}
theorem op_powW : OpR X (binaryOp .Pow) (rI (fun i j => 0 ≤ j ∧ (Builtin.Int.intBits i : Int) * j ≤ 2 ^ 27) fun i j => .int (i ^ j.toNat)) := opI fun _ _ _ _ _ _ _ hc q => PyProof.Rows.pow_int hc.1 hc.2 q
theorem small_of {n : Nat} (h : small n = true) : n ≤ sizeLine := of_decide_eq_true h
theorem cat_lst {a b : List D} {x y : D} {x1 y1 : V} {v u : Value} {w : Wd} {S : Store} {pins : List (Addr × Obj)} {s : Shared} {σ : L2.St} {H : Hp} {Q : VK} (I : Inv X pins σ H s) (rx : RelV x1 v) (ry : RelV y1 u)
    (st : RepSt X.K G w H S) (r1 : Rep X.K G w H x x1) (r2 : Rep X.K G w H y y1) (ex : itemsT S x = some a) (ey : itemsT S y = some b) (hz : small (a.length + b.length) = true) (q : Ans X.K G w H S (.lst (a ++ b)) Q) :
    wpAny (model X.prog X.w) X.A (binaryOp .Add v u) (EP X pins σ Q) X.xe s := by
  obtain ⟨p, vs, rfl, e1, q1⟩ := own_of st r1 ex
  obtain ⟨p2, us, rfl, e2, q2⟩ := own_of st r2 ey
  exact op_cat pins s σ H _ _ v u Q I rx ry ⟨p, p2, vs, us, rfl, rfl, e1, e2, by rw [← q1.length, ← q2.length]; exact small_of hz, q.lst st (q1.append q2)⟩
theorem shl_eq {a b : Int} (h : 0 ≤ b ∧ (Builtin.Int.intBits a : Int) + b ≤ 134217728) : CShl a b := by
  have e : (2 : Int) ^ 27 = 134217728 := by decide
  refine ⟨h.1, ?_⟩
  rw [e]
  exact h.2
theorem op_ints {op : Operator} {a b : Int} {d : D} {v u : Value} {w : Wd} {S : Store} {pins : List (Addr × Obj)} {s : Shared} {σ : L2.St} {H : Hp} {Q : VK} (I : Inv X pins σ H s) (rx : RelV (.int a) v) (ry : RelV (.int b) u)
    (st : RepSt X.K G w H S) (h : (iop op a b).map D.int = some d) (q : Ans X.K G w H S d Q) : wpAny (model X.prog X.w) X.A (binaryOp op v u) (EP X pins σ Q) X.xe s := by
  cases e : iop op a b with
  | none => rw [e] at h; cases h
  | some c =>
    rw [e] at h
    cases h
    have q' : Q (.int c) H := q.same st (.int c)
    cases op with
    | Add => cases e; exact op_add pins s σ H _ _ v u Q I rx ry ⟨a, b, rfl, rfl, q'⟩
    | Sub => cases e; exact op_sub pins s σ H _ _ v u Q I rx ry ⟨a, b, rfl, rfl, q'⟩
    | Mult =>
      simp only [iop] at e
      split at e
      · rename_i hm
        cases e
        exact op_mulW pins s σ H _ _ v u Q I rx ry ⟨a, b, rfl, rfl, (show a.natAbs.log2 + b.natAbs.log2 < 1000000 from of_decide_eq_true hm), q'⟩
      · cases e
    | FloorDiv =>
      simp only [iop] at e
      split at e
      · rename_i hm
        cases e
        simp only [divOk, Bool.and_eq_true, decide_eq_true_eq] at hm
        exact op_fdivW pins s σ H _ _ v u Q I rx ry ⟨a, b, rfl, rfl, hm, q'⟩
      · cases e
    | Mod =>
      simp only [iop] at e
      split at e
      · rename_i hm
        cases e
        exact op_mod pins s σ H _ _ v u Q I rx ry ⟨a, b, rfl, rfl, hm, q'⟩
      · cases e
    | Pow =>
      simp only [iop] at e
      split at e
      · rename_i hm
        cases e
        simp only [powOk, Bool.and_eq_true, decide_eq_true_eq] at hm
        have hm2 : 0 ≤ b ∧ (Builtin.Int.intBits a : Int) * b ≤ 2 ^ 27 := ⟨hm.1, hm.2⟩
        exact op_powW pins s σ H _ _ v u Q I rx ry ⟨a, b, rfl, rfl, hm2, q'⟩
      · cases e
    | LShift =>
      simp only [iop] at e
      split at e
      · rename_i hm
        cases e
        simp only [shlOk, Bool.and_eq_true, decide_eq_true_eq] at hm
        exact op_shlW pins s σ H _ _ v u Q I rx ry ⟨a, b, rfl, rfl, shl_eq hm, q'⟩
      · cases e
    | RShift =>
      simp only [iop] at e
      split at e
      · rename_i hm
        cases e
        exact op_shr pins s σ H _ _ v u Q I rx ry ⟨a, b, rfl, rfl, hm, q'⟩
      · cases e
    | BitOr => cases e; exact op_or pins s σ H _ _ v u Q I rx ry ⟨a, b, rfl, rfl, q'⟩
    | BitAnd => cases e; exact op_and pins s σ H _ _ v u Q I rx ry ⟨a, b, rfl, rfl, q'⟩
    | BitXor => cases e; exact op_xor pins s σ H _ _ v u Q I rx ry ⟨a, b, rfl, rfl, q'⟩
    | _ => cases e
theorem op_bin {op : Operator} : OpR X (binaryOp op) (rB X.K G (binop op)) := by
  rintro pins s σ H x y v u Q I rx ry ⟨d1, d2, d, S, w, st, r1, r2, h, q⟩
  cases d1 with
  | int a =>
    cases d2 with
    | int b => cases r1; cases r2; exact op_ints I rx ry st h q
    | bl b =>
      cases r1; cases r2
      cases op with
      | Add => cases h; exact op_add_ib pins s σ H _ _ v u Q I rx ry ⟨a, b, rfl, rfl, q.same st (.int _)⟩
      | _ => cases h
    | _ => cases h
  | str a =>
    cases d2 with
    | str b =>
      cases r1; cases r2
      cases op with
      | Add =>
        simp only [binop] at h
        split at h
        · rename_i hz
          cases h
          exact op_add_str pins s σ H _ _ v u Q I rx ry ⟨a, b, rfl, rfl, small_of hz, q.same st (.str _)⟩
        · cases h
      | _ => cases h
    | int k =>
      cases r1; cases r2
      cases op with
      | Mult =>
        simp only [binop] at h
        split at h
        · rename_i hz
          simp only [Bool.and_eq_true, decide_eq_true_eq] at hz
          cases h
          obtain ⟨t, rfl⟩ := rx
          obtain ⟨t2, rfl⟩ := ry
          exact PySem.SB.mul (PyProof.Rows.mulOk_of 1000 1000 hz.1 (by omega) (by omega) (by decide) (by decide)) fun t' k' => ⟨.str _, H, I.tok _, ⟨_, rfl⟩, q.same st (.str _)⟩
        · cases h
      | _ => cases h
    | _ => cases h
  | tup a =>
    cases d2 with
    | tup b =>
      cases op with
      | Add =>
        simp only [binop] at h
        split at h
        · rename_i hz
          cases h
          cases r1 with
          | @tup p1 vs _ h1 q1 o1 =>
            cases r2 with
            | @tup p2 us _ h2 q2 o2 =>
              have l1 := q1.length
              have l2 := q2.length
              refine op_catA pins s σ H _ _ v u Q I rx ry ⟨_, _, vs, us, rfl, rfl, h1.sq, h2.sq, by rw [← l1, ← l2]; exact small_of hz, fun e => ?_, fun e1 e2 => ?_, fun e1 e2 p hp => q.tup st (q1.append q2) p hp⟩
              · subst e
                cases q1
                exact q.same st (.tup h2 q2 o2)
              · subst e2
                cases q2
                rw [List.append_nil] at q
                exact q.same st (.tup h1 q1 o1)
        · cases h
      | _ => cases h
    | int k =>
      cases op with
      | Mult =>
        simp only [binop] at h
        split at h
        · rename_i hz
          cases h
          simp only [Bool.and_eq_true, decide_eq_true_eq] at hz
          cases r1 with
          | @tup p1 vs _ h1 q1 =>
            cases r2
            have l1 := q1.length
            refine op_repT pins s σ H _ _ v u Q I rx ry ⟨_, k, vs, rfl, rfl, h1.sq, ?_, hz.2.1, hz.2.2.1, by rw [← l1]; exact hz.2.2.2, fun p hp => q.tup st (q1.rep _) p hp⟩
            rintro rfl
            cases q1
            simp at hz
        · cases h
      | _ => cases h
    | _ => cases h
  | lst a =>
    cases op with
    | Add =>
      simp only [binop] at h
      split at h
      · rename_i b eb
        split at h
        · rename_i hz
          cases h
          exact cat_lst I rx ry st r1 r2 rfl eb hz q
        · cases h
      · cases h
    | Mult =>
      simp only [binop] at h
      split at h
      · rename_i k
        split at h
        · rename_i hz
          cases h
          simp only [Bool.and_eq_true, decide_eq_true_eq] at hz
          obtain ⟨p, vs, rfl, e1, q1⟩ := own_of st r1 (ds := a) rfl
          cases r2
          have l1 := q1.length
          have hsz : vs.length * k.toNat ≤ sizeLine := by
            have h1 : vs.length ≤ 1000 := by rw [← l1]; exact hz.2.2
            have h2 : k.toNat ≤ 1000 := by omega
            have h3 := Nat.mul_le_mul h1 h2
            have h4 : (1000 * 1000 : Nat) ≤ sizeLine := by decide
            omega
          exact op_rep pins s σ H _ _ v u Q I rx ry ⟨p, k, vs, rfl, rfl, e1, by omega, by omega, hsz, q.lst st (q1.rep _)⟩
        · cases h
      · cases h
    | _ => cases h
  | ref l =>
    cases op with
    | Add =>
      simp only [binop] at h
      split at h
      · rename_i a b ea eb
        split at h
        · rename_i hz
          cases h
          exact cat_lst I rx ry st r1 r2 ea eb hz q
        · cases h
      · cases h
    | _ => cases h
  | _ => cases h
/-! ### comparisons -/
theorem op_cmp {op : CmpOp} (hu : X.A.units + 65 < cLine) : OpR X (compareOp op) (rB X.K G (cmpop op)) := by
  rintro pins s σ H x y v u Q I rx ry ⟨d1, d2, d, S, w, st, r1, r2, h, q⟩
  have tupI : ∀ {a : List D} {ns : List Int} {z : V}, Rep X.K G w H (.tup a) z → intsOf a = some ns → ∃ p, z = .ref p ∧ SqT X.K H p (ns.map V.int) := by
    intro a ns z r e
    cases r with
    | tup h1 h2 =>
      have e2 := ints_of h2 e
      subst e2
      exact ⟨_, rfl, h1.sq⟩
  cases op with
  | Eq =>
    simp only [cmpop, eqD] at h
    split at h
    · rename_i p1 p2 e1 e2
      split at h
      · rename_i hs
        cases h
        rw [Bool.and_eq_true] at hs
        exact op_eqD (by omega) pins s σ H x y v u Q I rx ry ⟨p1, p2, dp_of st r1 e1, dp_of st r2 e2, hs.1, hs.2, q.same st (.bl _)⟩
      · cases h
    · cases h
  | NotEq =>
    simp only [cmpop, eqD] at h
    split at h
    · rename_i p1 p2 e1 e2
      split at h
      · rename_i hs
        cases h
        rw [Bool.and_eq_true] at hs
        exact op_neD (by omega) pins s σ H x y v u Q I rx ry ⟨p1, p2, dp_of st r1 e1, dp_of st r2 e2, hs.1, hs.2, q.same st (.bl _)⟩
      · cases h
    · cases h
  | In =>
    simp only [cmpop, inD] at h
    split at h
    · rename_i p0 e0
      cases eg : dgetK S d2 d1 with
      | none => rw [eg] at h; cases h
      | some o =>
        rw [eg] at h
        cases h
        obtain ⟨a, ov, rfl, g, ho⟩ := dlook_of st r2 r1 eg
        cases (show u = Value.ref a from ry)
        have eo : ov.isSome = o.isSome := by
          rcases ho with ⟨rfl, rfl⟩ | ⟨x', u', rfl, rfl, _⟩ <;> rfl
        exact g.isIn hu I rx fun s' I' => ⟨.bl (ov.isSome), H, I', rfl, by rw [eo]; exact q.same st (.bl _)⟩
    split at h
    · rename_i p1 ps e1 e2
      split at h
      · rename_i hs
        cases h
        rw [Bool.and_eq_true] at hs
        exact op_inD hu pins s σ H x y v u Q I rx ry ⟨p1, ps, dp_of st r1 e1, dp_of st r2 e2, hs.1, hs.2, q.same st (.bl _)⟩
      · cases h
    · rename_i p1 ps e1 e2
      split at h
      · rename_i hs
        cases h
        rw [Bool.and_eq_true] at hs
        exact EvZv.op_inT hu pins s σ H x y v u Q I rx ry ⟨p1, ps, dp_of st r1 e1, dp_of st r2 e2, hs.1, hs.2, q.same st (.bl _)⟩
      · cases h
    · cases h
  | NotIn =>
    simp only [cmpop, inD] at h
    split at h
    · rename_i p0 e0
      cases eg : dgetK S d2 d1 with
      | none => rw [eg] at h; cases h
      | some o =>
        rw [eg] at h
        cases h
        obtain ⟨a, ov, rfl, g, ho⟩ := dlook_of st r2 r1 eg
        cases (show u = Value.ref a from ry)
        have eo : ov.isSome = o.isSome := by
          rcases ho with ⟨rfl, rfl⟩ | ⟨x', u', rfl, rfl, _⟩ <;> rfl
        exact g.notIn hu I rx fun s' I' => ⟨.bl (!ov.isSome), H, I', rfl, by rw [eo]; exact q.same st (.bl _)⟩
    split at h
    · rename_i p1 ps e1 e2
      split at h
      · rename_i hs
        cases h
        rw [Bool.and_eq_true] at hs
        exact op_notInD hu pins s σ H x y v u Q I rx ry ⟨p1, ps, dp_of st r1 e1, dp_of st r2 e2, hs.1, hs.2, q.same st (.bl _)⟩
      · cases h
    · rename_i p1 ps e1 e2
      split at h
      · rename_i hs
        cases h
        rw [Bool.and_eq_true] at hs
        exact EvZv.op_notInT hu pins s σ H x y v u Q I rx ry ⟨p1, ps, dp_of st r1 e1, dp_of st r2 e2, hs.1, hs.2, q.same st (.bl _)⟩
      · cases h
    · cases h
  | Is =>
    cases d2 with
    | non =>
      cases r2
      refine op_isN pins s σ H x _ v u Q I rx ry ⟨rfl, ?_⟩
      cases h
      cases r1 <;> exact q.same st (.bl _)
    | bl b =>
      cases r2
      cases d1 with
      | bl a =>
        cases r1
        cases h
        exact op_isBl pins s σ H _ _ v u Q I rx ry ⟨a, b, rfl, rfl, q.same st (.bl _)⟩
      | _ => cases h
    | _ => cases h
  | IsNot =>
    cases d2 with
    | non =>
      cases r2
      refine op_notN pins s σ H x _ v u Q I rx ry ⟨rfl, ?_⟩
      cases h
      cases r1 <;> exact q.same st (.bl _)
    | bl b =>
      cases r2
      cases d1 with
      | bl a =>
        cases r1
        cases h
        exact op_notBl pins s σ H _ _ v u Q I rx ry ⟨a, b, rfl, rfl, q.same st (.bl _)⟩
      | _ => cases h
    | _ => cases h
  | Lt =>
    cases d1 with
    | int a =>
      cases d2 with
      | int b => cases r1; cases r2; cases h; exact op_lt pins s σ H _ _ v u Q I rx ry ⟨a, b, rfl, rfl, q.same st (.bl _)⟩
      | _ => cases h
    | tup a =>
      cases d2 with
      | tup b =>
        simp only [cmpop, ltD] at h
        split at h
        · rename_i ns ms e1 e2
          cases h
          obtain ⟨p1, rfl, s1⟩ := tupI r1 e1
          obtain ⟨p2, rfl, s2⟩ := tupI r2 e2
          exact op_ltT (by omega) pins s σ H _ _ v u Q I rx ry ⟨p1, p2, ns, ms, rfl, rfl, s1, s2, q.same st (.bl _)⟩
        · cases h
      | _ => cases h
    | _ => cases h
  | LtE =>
    cases d1 with
    | int a =>
      cases d2 with
      | int b => cases r1; cases r2; cases h; exact op_le pins s σ H _ _ v u Q I rx ry ⟨a, b, rfl, rfl, q.same st (.bl _)⟩
      | _ => cases h
    | tup a => cases d2 <;> cases h
    | _ => cases h
  | Gt =>
    cases d1 with
    | int a =>
      cases d2 with
      | int b => cases r1; cases r2; cases h; exact op_gt pins s σ H _ _ v u Q I rx ry ⟨a, b, rfl, rfl, q.same st (.bl _)⟩
      | _ => cases h
    | tup a => cases d2 <;> cases h
    | _ => cases h
  | GtE =>
    cases d1 with
    | int a =>
      cases d2 with
      | int b => cases r1; cases r2; cases h; exact op_ge pins s σ H _ _ v u Q I rx ry ⟨a, b, rfl, rfl, q.same st (.bl _)⟩
      | _ => cases h
    | tup a => cases d2 <;> cases h
    | _ => cases h
/-! ### subscripts -/
theorem ix_ok (hu : X.A.units + 65 < cLine) : IxR X (rB X.K G fun x y S => ixD S x y) := by
  rintro value slice pins s σ H x y v u Q I rx ry ⟨d1, d2, d, S, w, st, r1, r2, h, q⟩ hs'
  have dict : dixD S d1 d2 = some d → wpAny (model X.prog X.w) X.A (subscriptTail value slice v u) (EP X pins σ Q) X.xe s := fun h => by
    unfold dixD at h
    cases e : dgetK S d1 d2 with
    | none => rw [e] at h; cases h
    | some o =>
      rw [e] at h
      simp only [Option.bind_some, id] at h
      subst h
      obtain ⟨a, ov, rfl, g, ho⟩ := dlook_of st r1 r2 e
      rcases ho with ⟨z, _⟩ | ⟨x', u', z, rfl, r3⟩
      · cases z
      · cases z
        obtain rfl : v = Value.ref a := rx
        refine tail_any ?_ PySem.F.slot_dict_getitem.lookup (g.getItem hu I ry fun w' s3 I3 rw' => ⟨u', H, I3, rw', q.same st r3⟩) hs'
        cases g with
        | flat kvs k h1 h2 h3 => exact dict_typeIs (o := some u') I (.inl ⟨kvs, k, h1, h2, h3⟩)
        | nest kvs k b h1 h2 h3 h4 h5 =>
          obtain ⟨_, _, xs, _, dd⟩ := EvNd.ndict I h1 h2
          exact dd.typeIs
  cases d2 with
  | int k =>
    simp only [ixD] at h
    split at h
    · cases r2
      rename_i xs e
      obtain ⟨a, vs, rfl, hs, qs⟩ := seq_of st r1 e
      obtain ⟨v1, e1, q1⟩ := at_of qs h
      rcases hs with hs | hs
      · exact ix_list value slice pins s σ H _ _ v u Q I rx ry ⟨a, vs, k, v1, rfl, rfl, hs, e1, q.same st q1⟩ hs'
      · exact ix_tup value slice pins s σ H _ _ v u Q I rx ry ⟨a, vs, k, v1, rfl, rfl, hs, e1, q.same st q1⟩ hs'
    · exact dict h
  | _ => exact dict h
end
end Ev
/-! Ev, part D: slices, built-in functions, methods. -/
namespace Ev
open PySem PySem.Spec PyProof.Rows L2
def rS (K : PySem.W.Frag) (G : Gx) : V → Option Int → Option Int → Hp → VK → Prop := fun x lo hi H Q =>
  ∃ d1 d S w, RepSt K G w H S ∧ Rep K G w H d1 x ∧ slD S d1 lo hi = some d ∧ Ans K G w H S d Q
section
variable {X : Cx} {G : Gx}
theorem sl_ok : SlR X (rS X.K G) := by
  rintro pins s σ H x v vl vu lo hi sl Q I rx hs pl pu ⟨d1, d, S, w, st, r1, h, q⟩
  cases r1 with
  | @tup a vs ds h1 h2 h3 =>
    cases Option.some.inj h
    have hl := h2.length
    refine sl_tupA pins s σ H _ v vl vu lo hi sl Q I rx hs pl pu ⟨a, vs, rfl, h1.sq, fun hw => ?_, fun hw p hp => q.tup st (h2.cut lo hi) p hp⟩
    have e : cutD ds lo hi = ds := by
      unfold cutD
      rw [hl, hw.1, hw.2, List.drop_zero, Nat.sub_zero, ← hl, List.take_length]
    rw [e] at q
    exact q.same st (.tup h1 h2 h3)
  | @lst a vs ds h1 h2 =>
    cases Option.some.inj h
    exact sl_list pins s σ H _ v vl vu lo hi sl Q I rx hs pl pu ⟨a, vs, rfl, h1.sq, fun p hp => q.lst st (h2.cut lo hi) p hp⟩
  | @frz a vs ds h1 h2 =>
    cases Option.some.inj h
    exact sl_list pins s σ H _ v vl vu lo hi sl Q I rx hs pl pu ⟨a, vs, rfl, h1.sq, fun p hp => q.lst st (h2.cut lo hi) p hp⟩
  | @ref a l h1 =>
    have h' : (cel S l).map (fun xs : List D => D.lst (cutD xs lo hi)) = some d := h
    cases e1 : cel S l with
    | none => rw [e1] at h'; cases h'
    | some es =>
    obtain ⟨vs, _, e2, e3⟩ := st.at3 h1 e1
    rw [e1] at h'
    cases Option.some.inj h'
    exact sl_list pins s σ H _ v vl vu lo hi sl Q I rx hs pl pu ⟨_, vs, rfl, SqL.of e2, fun p hp => q.lst st (e3.cut lo hi) p hp⟩
  | _ => cases h
def rC (K : PySem.W.Frag) (G : Gx) (g : List D → Store → Option D) : List V → Hp → VK → Prop := fun xs H Q =>
  ∃ ds d S w, RepSt K G w H S ∧ Reps K G w H ds xs ∧ g ds S = some d ∧ Ans K G w H S d Q
theorem inI_perm (n : Int) : ∀ r : List Int, (inI n r).Perm (n :: r)
  | [] => List.Perm.refl _
  | m :: r => by
    unfold inI
    split
    · exact List.Perm.refl _
    · exact ((inI_perm n r).cons m).trans (List.Perm.swap ..)
theorem insI_perm : ∀ r : List Int, (insI r).Perm r
  | [] => List.Perm.refl _
  | n :: r => (inI_perm n _).trans ((insI_perm r).cons n)
theorem inI_pw {n : Int} : ∀ {r : List Int}, r.Pairwise (· ≤ ·) → (inI n r).Pairwise (· ≤ ·)
  | [], _ => by simp [inI]
  | m :: r, h => by
    obtain ⟨h1, h2⟩ := List.pairwise_cons.mp h
    unfold inI
    split
    · rename_i hle
      exact List.pairwise_cons.mpr ⟨fun a ha => by
        rcases List.mem_cons.mp ha with z | z
        · rw [z]; exact hle
        · exact Int.le_trans hle (h1 a z), h⟩
    · rename_i hle
      exact List.pairwise_cons.mpr ⟨fun a ha => by
        rcases List.mem_cons.mp ((inI_perm n r).mem_iff.mp ha) with z | z
        · rw [z]; omega
        · exact h1 a z, inI_pw h2⟩
theorem insI_pw : ∀ r : List Int, (insI r).Pairwise (· ≤ ·)
  | [] => List.Pairwise.nil
  | n :: r => inI_pw (insI_pw r)
theorem insI_eq {ns ns' : List Int} (h1 : ns'.Perm ns) (h2 : ns'.Pairwise (· ≤ ·)) : ns' = insI ns :=
  List.Perm.eq_of_pairwise (fun a b _ _ x y => Int.le_antisymm x y) h2 (insI_pw ns) (h1.trans (insI_perm ns).symm)
/-! texts in order -/
theorem ltC_trans : ∀ {a b c : List Nat}, ltCps b a = false → ltCps c b = false → ltCps c a = false
  | [], _, [], _, _ => rfl
  | [], [], _ :: _, h1, h2 => by simp [ltCps] at h2 ⊢
  | [], _ :: _, _ :: _, h1, h2 => by simp [ltCps]
  | _ :: _, [], _, h1, h2 => by simp [ltCps] at h1
  | _ :: _, _ :: _, [], h1, h2 => by simp [ltCps] at h2
  | x :: a, y :: b, z :: c, h1, h2 => by
    simp only [ltCps, Bool.or_eq_false_iff, Bool.and_eq_false_iff, decide_eq_false_iff_not, beq_eq_false_iff_ne] at h1 h2 ⊢
    refine ⟨by omega, ?_⟩
    by_cases e : z = x
    · right
      have e1 : y = x := by omega
      have e2 : z = y := by omega
      exact ltC_trans (h1.2.resolve_left (fun q => q e1)) (h2.2.resolve_left (fun q => q e2))
    · exact .inl e
theorem ltC_anti : ∀ {a b : List Nat}, ltCps b a = false → ltCps a b = false → a = b
  | [], [], _, _ => rfl
  | [], _ :: _, h1, h2 => by simp [ltCps] at h2
  | _ :: _, [], h1, h2 => by simp [ltCps] at h1
  | x :: a, y :: b, h1, h2 => by
    simp only [ltCps, Bool.or_eq_false_iff, Bool.and_eq_false_iff, decide_eq_false_iff_not, beq_eq_false_iff_ne] at h1 h2
    have e : x = y := by omega
    rw [e, ltC_anti (h1.2.resolve_left (fun q => q e.symm)) (h2.2.resolve_left (fun q => q e))]
theorem ltC_asym : ∀ {a b : List Nat}, ltCps a b = true → ltCps b a = false
  | [], [], h => by simp [ltCps] at h
  | [], _ :: _, h => by simp [ltCps]
  | _ :: _, [], h => by simp [ltCps] at h
  | x :: a, y :: b, h => by
    simp only [ltCps, Bool.or_eq_true, Bool.and_eq_true, decide_eq_true_eq, beq_iff_eq, Bool.or_eq_false_iff, Bool.and_eq_false_iff, decide_eq_false_iff_not, beq_eq_false_iff_ne] at h ⊢
    rcases h with h | ⟨h1, h2⟩
    · exact ⟨by omega, .inl (by omega)⟩
    · exact ⟨by omega, .inr (ltC_asym h2)⟩
def LeC (a b : Str) : Prop := ltCps b.cps.toList a.cps.toList = false
theorem inC_perm (n : Str) : ∀ r : List Str, (inC n r).Perm (n :: r)
  | [] => List.Perm.refl _
  | m :: r => by
    unfold inC
    split
    · exact ((inC_perm n r).cons m).trans (List.Perm.swap n m r)
    · exact List.Perm.refl _
theorem insC_perm : ∀ r : List Str, (insC r).Perm r
  | [] => List.Perm.refl _
  | n :: r => (inC_perm n _).trans ((insC_perm r).cons n)
theorem inC_pw {n : Str} : ∀ {r : List Str}, r.Pairwise LeC → (inC n r).Pairwise LeC
  | [], _ => by simp [inC]
  | m :: r, h => by
    obtain ⟨h1, h2⟩ := List.pairwise_cons.mp h
    unfold inC
    split
    · rename_i hle
      exact List.pairwise_cons.mpr ⟨fun a ha => by
        rcases List.mem_cons.mp ((inC_perm n r).mem_iff.mp ha) with z | z
        · rw [z]; exact ltC_asym hle
        · exact h1 a z, inC_pw h2⟩
    · rename_i hle
      have hle : LeC n m := by simpa [LeC] using hle
      exact List.pairwise_cons.mpr ⟨fun a ha => by
        rcases List.mem_cons.mp ha with z | z
        · rw [z]; exact hle
        · exact ltC_trans hle (h1 a z), h⟩
theorem insC_pw : ∀ r : List Str, (insC r).Pairwise LeC
  | [] => List.Pairwise.nil
  | n :: r => inC_pw (insC_pw r)
theorem rising_pw : ∀ {l : List Str} {p : Str}, risingS p l = true → (p :: l).Pairwise LeC
  | [], p, _ => by simp
  | x :: r, p, h => by
    simp only [risingS, Bool.and_eq_true, Bool.not_eq_true'] at h
    have ih := rising_pw h.2
    refine List.pairwise_cons.mpr ⟨fun a ha => ?_, ih⟩
    rcases List.mem_cons.mp ha with z | z
    · rw [z]; exact h.1
    · exact ltC_trans h.1 ((List.pairwise_cons.mp ih).1 a z)
theorem insC_eq {zs ys : List Str} (h1 : ys.Perm zs) (h2 : sortedS ys = true) : ys = insC zs := by
  have p1 : ys.Pairwise LeC := by
    cases ys with
    | nil => exact List.Pairwise.nil
    | cons x r => exact rising_pw h2
  refine List.Perm.eq_of_pairwise (fun a b _ _ x y => ?_) p1 (insC_pw zs) (h1.trans (insC_perm zs).symm)
  have := ltC_anti x y
  cases a; cases b
  simp only [PySem.Str.mk.injEq]
  exact Array.toList_inj.mp this
theorem strs_of {K : PySem.W.Frag} {G : Gx} {w : Wd} {H : Hp} : ∀ {ds : List D} {vs : List V} {zs : List Str}, Reps K G w H ds vs → strsOf ds = some zs → vs = zs.map V.str
  | _, _, _, .nil, h => by cases h; rfl
  | .str x :: r, _, _, .cons (.str _) rs, h => by
    cases e : strsOf r with
    | none => simp [strsOf, e] at h
    | some zs =>
      simp [strsOf, e] at h
      subst h
      rw [strs_of rs e]; rfl
theorem reps_strs {K : PySem.W.Frag} {G : Gx} {w : Wd} {H : Hp} : ∀ zs : List Str, Reps K G w H (zs.map D.str) (zs.map V.str)
  | [] => .nil
  | n :: r => .cons (.str n) (reps_strs r)
theorem reps_ints {K : PySem.W.Frag} {G : Gx} {w : Wd} {H : Hp} : ∀ ns : List Int, Reps K G w H (ns.map D.int) (ns.map V.int)
  | [] => .nil
  | n :: r => .cons (.int n) (reps_ints r)
def biVal : BI → Value
  | .len => .builtin "len"
  | .abs => .builtin "abs"
  | .max2 => .builtin "max"
  | .min2 => .builtin "min"
  | .int => .type "int"
  | .repr => .builtin "repr"
  | .sum => .builtin "sum"
  | .all => .builtin "all"
  | .any => .builtin "any"
  | .tuple => .type "tuple"
  | .list => .type "list"
  | .isI => .builtin "isinstance"
  | .set => .type "set"
  | .max1 => .builtin "max"
  | .min1 => .builtin "min"
  | .sortI => .builtin "sorted"
  | .bool1 => .type "bool"
  | .divmod => .builtin "divmod"
theorem reps1 {K : PySem.W.Frag} {w : Wd} {H : Hp} {d : D} {xs : List V} (r : Reps K G w H [d] xs) : ∃ x, xs = [x] ∧ Rep K G w H d x := by
  cases r with
  | cons r1 r2 => cases r2; exact ⟨_, rfl, r1⟩
theorem reps2 {K : PySem.W.Frag} {w : Wd} {H : Hp} {d e : D} {xs : List V} (r : Reps K G w H [d, e] xs) : ∃ x y, xs = [x, y] ∧ Rep K G w H d x ∧ Rep K G w H e y := by
  cases r with
  | cons r1 r2 =>
    cases r2 with
    | cons r2 r3 => cases r3; exact ⟨_, _, rfl, r1, r2⟩
theorem repr_ok (hg : X.A.guards = some []) (hu : X.A.units + 100 < cLine) {pins : List (Addr × Obj)} {s : Shared} {σ : L2.St} {H : Hp} {x : V} {u : Value} {p : PyData} {Q : VK} (I : Inv X pins σ H s) (rx : RelV x u) (dp : Dp X.K H x p)
    (h1 : p.showable = true) (h2 : p.canLay0 = true) (h3 : p.depth ≤ 64) (h4 : p.shown.length ≤ sizeLine) (q : Q (.str p.shown) H) : wpAny (model X.prog X.w) X.A (call (.builtin "repr") [u]) (EP X pins σ Q) X.xe s := by
  obtain ⟨as, rd⟩ := Dp.reads I p x u dp rx
  have obj : ∀ {a : Addr}, u = .ref a → wpAny (model X.prog X.w) X.A (call (.builtin "repr") [u]) (EP X pins σ Q) X.xe s := by
    intro a ea
    rw [ea] at rd ⊢
    exact repr_of_reads' rd h1 (PyData.noDict_hsm (PyData.hasDict_of_canLay p h2)) hg (by omega) (fun _ _ e => e) (fun h' tk t' k => ⟨.str p.shown, H, I.kept k, ⟨_, rfl⟩, q⟩) h4
  cases dp with
  | non => cases rx; simp only [PyData.shown] at q; exact PySem.P.repr_of_none ⟨.str _, H, I.tok _, ⟨_, rfl⟩, q⟩
  | bl b => cases rx; simp only [PyData.shown] at q; exact PySem.P.repr_of_bool ⟨.str _, H, I.tok _, ⟨_, rfl⟩, q⟩
  | int i =>
    obtain ⟨t, rfl⟩ := rx
    simp only [PyData.showable, decide_eq_true_eq] at h1
    simp only [PyData.shown] at q
    exact PySem.P.repr_of_int h1 ⟨.str _, H, I.tok _, ⟨_, rfl⟩, q⟩
  | str y =>
    obtain ⟨t, rfl⟩ := rx
    simp only [PyData.shown] at q h4
    exact PySem.P.repr_of_str ⟨.str _, H, I.tok _, ⟨_, rfl⟩, q⟩ h4
  | lst _ _ => exact obj rx
  | tup _ _ => exact obj rx
/-- the type of a value, as isinstance takes it -/
theorem ty_of {w : Wd} {H : Hp} {S : Store} {d : D} {x : V} {n : String} (st : RepSt X.K G w H S) (r : Rep X.K G w H d x) (h : tyOf S d = some n) : TyX X.K H x (.type n) := by
  cases r with
  | non => cases Option.some.inj h; exact .base .non
  | bl b => cases Option.some.inj h; exact .base (.bl b)
  | int i => cases Option.some.inj h; exact .base (.int i)
  | str y => cases Option.some.inj h; exact .base (.str y)
  | tup h1 _ =>
    cases Option.some.inj h
    rcases h1 with h1 | ⟨o, its, m, e, c, _⟩
    · exact .base (.tup h1.1)
    · exact .kTuple e c
  | lst h1 _ => cases Option.some.inj h; exact .base (.lst h1.1)
  | frz h1 _ =>
    cases Option.some.inj h
    rcases h1 with ⟨o, h1⟩ | ⟨o, its, m, e, c, _⟩
    · exact .base (.frz h1.1)
    · exact .kList e c
  | @ref a l h1 =>
    obtain ⟨ds, e1, e2⟩ := st.at_ h1
    unfold tyOf at h
    simp only [e1] at h
    rcases e2 with ⟨vs, e2, e3⟩ | ⟨es, kvs, rfl, e2, _⟩ | ⟨es, kvs, rfl, e2, _⟩
    · have hn : n = "list" := by
        cases e3 with
        | nil => cases h; rfl
        | @cons d0 v0 ds0 vs0 r0 rs0 =>
          cases d0 <;> first
            | (cases h; rfl)
            | cases r0
      subst hn
      exact .base (.lst e2)
    · cases h; exact .base (.dK e2)
    · cases h
  | gl k => cases h
  | ty m => cases h
  | dct h1 _ => cases Option.some.inj h; exact .base (.dK h1)
  | sz _ _ => cases h
  | exn _ _ _ => cases h
  | dic _ _ _ => cases h
  | dit _ _ _ => cases h
  | rg _ _ => cases h
theorem cls_all {K : PySem.W.Frag} {G : Gx} {w : Wd} {H : Hp} : ∀ {ds : List D} {vs : List V}, Reps K G w H ds vs → ds.all isCl = true → ∃ us, Paired ClsV vs us
  | _, _, .nil, _ => ⟨[], .nil⟩
  | d :: ds, _, .cons r rs, h => by
    rw [List.all_cons, Bool.and_eq_true] at h
    obtain ⟨us, e⟩ := cls_all rs h.2
    cases d with
    | gl j => cases r; exact ⟨_, .cons (.own _) e⟩
    | ty n => cases r; exact ⟨_, .cons (.ty n) e⟩
    | _ => cases h.1
theorem isEs_ok {K : PySem.W.Frag} {G : Gx} {w : Wd} {H : Hp} {k : Nat} {as : List ((Nat ⊕ String) × Bool)} (hf : ErrF K G k as) : ∀ {ds : List D} {vs : List V} {b : Bool}, Reps K G w H ds vs → isEs as ds = some b → ∃ us, Paired ClsV vs us ∧ PySem.W.kitAny K (.ref (G k)) us = some b
  | _, _, b, .nil, h => by
    cases Option.some.inj (show some false = some b from h)
    exact ⟨[], .nil, rfl⟩
  | d :: ds, _, b, @Reps.cons _ _ _ _ _ v _ vs r rs, h => by
    have fin : ∀ {u : Value} {t : Nat ⊕ String}, ClsV v u → ctV G t = u → (match as.lookup t with
        | some true => if ds.all isCl then some true else none
        | some false => isEs as ds
        | none => none) = some b → ∃ us, Paired ClsV (v :: vs) us ∧ PySem.W.kitAny K (.ref (G k)) us = some b := by
      intro u t h1 h2 h3
      cases e : as.lookup t with
      | none => rw [e] at h3; cases h3
      | some c =>
        rw [e] at h3
        have hk := hf.2 t c e
        rw [h2] at hk
        cases c with
        | true =>
          simp only at h3
          split at h3
          · rename_i ha
            cases h3
            obtain ⟨us, e2⟩ := cls_all rs ha
            exact ⟨u :: us, .cons h1 e2, by unfold PySem.W.kitAny; rw [hk]⟩
          · cases h3
        | false =>
          obtain ⟨us, e1, e2⟩ := isEs_ok hf rs h3
          exact ⟨u :: us, .cons h1 e1, by unfold PySem.W.kitAny; rw [hk]; exact e2⟩
    cases d with
    | gl j => cases r; exact fin (t := .inl j) (.own _) rfl h
    | ty n => cases r; exact fin (t := .inr n) (.ty n) rfl h
    | _ => cases h
/-! sorting -/
section
open PySem.W (dataLe AllAlike Sortable TotalLe)
theorem insP_map : ∀ ts : List (PyData × D × V), insP (ts.map fun t => (t.1, t.2.1)) = (EvNs.insB (dataLe false (fun t : PyData × D × V => t.1)) ts).map fun t => (t.1, t.2.1)
  | [] => rfl
  | t :: ts => by
    have key : ∀ r : List (PyData × D × V), inP (t.1, t.2.1) (r.map fun t => (t.1, t.2.1)) = (EvNs.inB (dataLe false (fun t : PyData × D × V => t.1)) t r).map fun t => (t.1, t.2.1) := by
      intro r
      induction r with
      | nil => rfl
      | cons m r ih =>
        rw [List.map_cons, inP, EvNs.inB]
        have e : dataLe false (fun t : PyData × D × V => t.1) t m = !PySem.W.dataLt m.1 t.1 := rfl
        rw [e]
        cases PySem.W.dataLt m.1 t.1 with
        | true => simp [ih]
        | false => simp
    show inP _ (insP _) = _
    rw [insP_map ts, key]; rfl
theorem insV_map : ∀ ts : List (PyData × D × V), EvNs.insB (dataLe false (fun b : PyData × V => b.1)) (ts.map fun t => (t.1, t.2.2)) = (EvNs.insB (dataLe false (fun t : PyData × D × V => t.1)) ts).map fun t => (t.1, t.2.2)
  | [] => rfl
  | t :: ts => by
    have key : ∀ r : List (PyData × D × V), EvNs.inB (dataLe false (fun b : PyData × V => b.1)) (t.1, t.2.2) (r.map fun t => (t.1, t.2.2)) = (EvNs.inB (dataLe false (fun t : PyData × D × V => t.1)) t r).map fun t => (t.1, t.2.2) := by
      intro r
      induction r with
      | nil => rfl
      | cons m r ih =>
        rw [List.map_cons, EvNs.inB, EvNs.inB]
        have e : dataLe false (fun b : PyData × V => b.1) (t.1, t.2.2) (m.1, m.2.2) = dataLe false (fun t : PyData × D × V => t.1) t m := rfl
        rw [e]
        cases dataLe false (fun t : PyData × D × V => t.1) t m with
        | true => simp
        | false => simp [ih]
    show EvNs.inB _ _ (EvNs.insB _ _) = _
    rw [insV_map ts, key]; rfl
theorem triples {K : PySem.W.Frag} {G : Gx} {w : Wd} {H : Hp} : ∀ {xs : List D} {vs : List V} {ps : List PyData}, Reps K G w H xs vs → D.pys xs = some ps → ∃ ts : List (PyData × D × V), ps.zip xs = ts.map (fun t => (t.1, t.2.1)) ∧ ts.map (·.2.2) = vs ∧ ts.map (·.1) = ps ∧ ts.length = xs.length ∧ (∀ t ∈ ts, Rep K G w H t.2.1 t.2.2 ∧ Dp K H t.2.2 t.1)
  | _, _, _, .nil, h => by cases Option.some.inj (show some [] = some _ from h); exact ⟨[], rfl, rfl, rfl, rfl, fun t ht => by cases ht⟩
  | d :: ds, _, ps, .cons (v := v) r rs, h => by
    simp only [D.pys] at h
    split at h
    · rename_i p ps' e1 e2
      cases h
      obtain ⟨ts, h1, h2, h3, h4, h5⟩ := triples rs e2
      refine ⟨(p, d, v) :: ts, by simp [h1], by simp [h2], by simp [h3], by simp [h4], fun t ht => ?_⟩
      rcases List.mem_cons.mp ht with z | z
      · subst z; exact ⟨r, Rep.dp r e1⟩
      · exact h5 t z
    · cases h
theorem rows_py : ∀ {xs : List D} {ks : List (List Int)} {ps : List PyData}, rowsT xs = some ks → D.pys xs = some ps → ps = ks.map fun k => .tuple (k.map .int)
  | [], ks, ps, h1, h2 => by cases h1; cases h2; rfl
  | d :: ds, ks, ps, h1, h2 => by
    cases d with
    | tup es =>
      have intsP : ∀ {es : List D} {k : List Int} {qs : List PyData}, intsOf es = some k → D.pys es = some qs → qs = k.map .int := by
        intro es
        induction es with
        | nil => intro k qs a b; cases a; cases b; rfl
        | cons e es ih =>
          intro k qs a b
          cases e with
          | int i =>
            cases e1 : intsOf es with
            | none => simp [intsOf, e1] at a
            | some k' =>
              cases e2 : D.pys es with
              | none => simp [D.pys, D.py, e2] at b
              | some qs' =>
                simp [intsOf, e1] at a
                simp [D.pys, D.py, e2] at b
                subst a b
                rw [ih e1 e2]; rfl
          | _ => simp [intsOf] at a
      cases e1 : intsOf es with
      | none => simp [rowsT, e1] at h1
      | some k =>
        cases e2 : rowsT ds with
        | none => simp [rowsT, e1, e2] at h1
        | some ks' =>
          cases e3 : D.pys es with
          | none => simp [D.pys, D.py, e3] at h2
          | some qs =>
            cases e4 : D.pys ds with
            | none => simp [D.pys, D.py, e3, e4] at h2
            | some ps' =>
              simp [rowsT, e1, e2] at h1
              simp [D.pys, D.py, e3, e4] at h2
              subst h1 h2
              rw [rows_py e2 e4, intsP e1 e3]; rfl
    | _ => simp [rowsT] at h1
theorem insI_map : ∀ ns : List Int, (EvNs.insB (dataLe false (fun b : PyData × V => b.1)) (ns.map fun n => (PyData.int n, V.int n))) = (insI ns).map fun n => (PyData.int n, V.int n)
  | [] => rfl
  | n :: ns => by
    have key : ∀ r : List Int, EvNs.inB (dataLe false (fun b : PyData × V => b.1)) (PyData.int n, V.int n) (r.map fun n => (PyData.int n, V.int n)) = (inI n r).map fun n => (PyData.int n, V.int n) := by
      intro r
      induction r with
      | nil => rfl
      | cons m r ih =>
        rw [List.map_cons, EvNs.inB, inI]
        have e : dataLe false (fun b : PyData × V => b.1) (PyData.int n, V.int n) (PyData.int m, V.int m) = decide (n ≤ m) := congrFun (congrFun (PySem.W.dataLe_int (fun z : Int => z)) n) m
        rw [e]
        by_cases z : n ≤ m <;> simp [z, ih]
    show EvNs.inB _ _ (EvNs.insB _ _) = _
    rw [insI_map ns, key]; rfl
theorem sort_dint (hc : X.calm = true) (hu : X.A.units + 100 < cLine) {pins : List (Addr × Obj)} {s : Shared} {σ : L2.St} {H : Hp} {a : Addr} {us : List Value} {ns : List Int} {Q : VK} (I : Inv X pins σ H s) (rx : Vals [V.ref a] us) (hs : EvNs.Src X.K H a (ns.map V.int)) (hz : ns.length ≤ sizeLine)
    (q : ∀ p, H p = none → Q (.ref p) (upd H p (.lst ((insI ns).map V.int)))) : wpAny (model X.prog X.w) X.A (call (biVal .sortI) us) (EP X pins σ Q) X.xe s := by
  refine EvNs.cr_sortD hc hu pins s σ H _ us Q I rx ⟨a, ns.map fun n => (PyData.int n, V.int n), rfl, by rw [List.map_map]; exact hs, fun b hb => ?_, ?_, ?_, by rw [List.length_map]; exact hz, fun b hb => ?_, fun p hp => ?_⟩
  · obtain ⟨n, _, rfl⟩ := List.mem_map.mp hb; exact .int n
  · intro x hx y hy
    rw [List.map_map] at hx hy
    obtain ⟨n, _, rfl⟩ := List.mem_map.mp hx
    obtain ⟨m, _, rfl⟩ := List.mem_map.mp hy
    rfl
  · refine .inr fun x hx => ?_
    rw [List.map_map] at hx
    obtain ⟨n, _, rfl⟩ := List.mem_map.mp hx
    show PyData.int n ≠ .none ∧ ∀ xs, PyData.int n ≠ .tuple xs
    exact ⟨(fun z => nomatch z), fun xs z => nomatch z⟩
  · obtain ⟨n, _, rfl⟩ := List.mem_map.mp hb; exact Nat.zero_le _
  · rw [insI_map, List.map_map]; exact q p hp
theorem sort_ok (hc : X.calm = true) (hu : X.A.units + 100 < cLine) {pins : List (Addr × Obj)} {s : Shared} {σ : L2.St} {w : Wd} {H : Hp} {S : Store} {a : Addr} {vs : List V} {us : List Value} {xs : List D} {d : D} {Q : VK} (I : Inv X pins σ H s) (rx : Vals [V.ref a] us) (st : RepSt X.K G w H S) (hs : EvNs.Src X.K H a vs) (rs : Reps X.K G w H xs vs)
    (h : sortO xs = some d) (q : Ans X.K G w H S d Q) : wpAny (model X.prog X.w) X.A (call (biVal .sortI) us) (EP X pins σ Q) X.xe s := by
  have data : sortP xs = some d → wpAny (model X.prog X.w) X.A (call (biVal .sortI) us) (EP X pins σ Q) X.xe s := fun h => by
    unfold sortP at h
    cases ep : D.pys xs with
    | none => rw [ep] at h; cases h
    | some ps =>
      rw [ep] at h
      simp only [Option.bind_some] at h
      split at h
      · rename_i hh
        cases h
        simp only [Bool.and_eq_true, decide_eq_true_eq, Bool.or_eq_true, List.all_eq_true] at hh
        obtain ⟨⟨h1, h2⟩, h3, h4⟩ := hh
        obtain ⟨ts, t1, t2, t3, t4, t5⟩ := triples rs ep
        have al : AllAlike ps := by
          rcases h2 with h2 | h2
          · obtain ⟨ks, ek⟩ := Option.isSome_iff_exists.mp h2
            rw [rows_py ek ep]
            intro x hx y hy
            obtain ⟨k, _, rfl⟩ := List.mem_map.mp hx
            obtain ⟨j, _, rfl⟩ := List.mem_map.mp hy
            exact PySem.W.alike_ints k j
          · intro x hx y hy
            have := List.all_eq_true.mp h2 x hx
            exact List.all_eq_true.mp this y hy
        have sb : Sortable ps := .inl fun p hp => by
          have := h1 p hp
          cases p with
          | tuple xs => cases xs with
            | nil => cases this
            | cons x r => exact ⟨x, r, rfl⟩
          | _ => cases this
        rw [t1, insP_map] at q
        have e2 : (ts.map fun t => (t.1, t.2.2)).map (·.2) = vs := by rw [List.map_map, ← t2]; rfl
        have e1 : (ts.map fun t => (t.1, t.2.2)).map (·.1) = ps := by rw [List.map_map, ← t3]; rfl
        refine EvNs.cr_sortD hc hu pins s σ H _ us Q I rx ⟨a, ts.map fun t => (t.1, t.2.2), rfl, by rw [e2]; exact hs, fun b hb => ?_, by rw [e1]; exact al, by rw [e1]; exact sb, by rw [List.length_map, t4]; exact h3, fun b hb => ?_, fun p hp => ?_⟩
        · obtain ⟨t, ht, rfl⟩ := List.mem_map.mp hb
          exact (t5 t ht).2
        · obtain ⟨t, ht, rfl⟩ := List.mem_map.mp hb
          have : t.1 ∈ ps := by rw [← t3]; exact List.mem_map_of_mem ht
          exact h4 _ this
        · rw [insV_map]
          rw [List.map_map] at q ⊢
          refine q.lst st ?_ p hp
          have key : ∀ l : List (PyData × D × V), (∀ t ∈ l, Rep X.K G w H t.2.1 t.2.2) → Reps X.K G w H (l.map ((fun x : PyData × D => x.2) ∘ fun t => (t.1, t.2.1))) (l.map ((fun x : PyData × V => x.2) ∘ fun t => (t.1, t.2.2))) := by
            intro l
            induction l with
            | nil => intro _; exact .nil
            | cons t l ih => intro k; exact .cons (k t List.mem_cons_self) (ih fun t m => k t (List.mem_cons_of_mem _ m))
          exact key _ fun t ht => (t5 t ((EvNs.insB_mem _ _).mp ht)).1
      · cases h
  unfold sortO at h
  cases en : intsOf xs with
  | none =>
    rw [en] at h
    simp only at h
    cases ez : strsOf xs with
    | none => rw [ez] at h; exact data h
    | some zs =>
      rw [ez] at h
      simp only at h
      split at h
      · rename_i hl
        cases h
        have ev := strs_of rs ez
        subst ev
        cases hs with
        | lst hs =>
          refine cr_sortedS pins s σ H _ us Q I rx ⟨a, zs, rfl, hs, of_decide_eq_true hl, fun ns' p h1 h2 hp => ?_⟩
          have e := insC_eq h1 h2
          subst e
          exact q.lst st (reps_strs _) p hp
        | flat kvs h1 e =>
          refine call_sortedD hc pins s σ H _ us Q I rx ⟨a, kvs, zs, rfl, h1, ?_, of_decide_eq_true hl, fun ns' p h1 h2 hp => ?_⟩
          · have : ∀ (zs : List Str) (kvs : List (Key × V)), zs.map V.str = kvs.map (fun kv => kV kv.1) → kvs.map (·.1) = zs.map Sum.inr := by
              intro zs
              induction zs with
              | nil => intro kvs e; cases kvs with
                | nil => rfl
                | cons _ _ => cases e
              | cons z zs ih => intro kvs e; cases kvs with
                | nil => cases e
                | cons p kvs =>
                  rw [List.map_cons, List.map_cons] at e
                  injection e with e1 e2
                  rw [List.map_cons, List.map_cons, ih kvs e2]
                  have : p.1 = Sum.inr z := kV_inj e1.symm
                  rw [this]
            exact this zs kvs e
          · have e := insC_eq h1 h2
            subst e
            exact q.lst st (reps_strs _) p hp
        | nest kvs h1 hk e =>
          exfalso
          cases zs with
          | nil =>
            cases xs with
            | nil => cases en
            | cons _ _ => cases rs
          | cons z zs => cases kvs with
            | nil => cases e
            | cons p kvs => rw [List.map_cons, List.map_cons] at e; injection e with e1 e2; cases e1
      · cases h
  | some ns =>
    rw [en] at h
    cases h
    have ev := ints_of rs en
    subst ev
    cases hs with
    | lst hs =>
      refine cr_sortedI pins s σ H _ us Q I rx ⟨a, ns, rfl, hs, fun ns' p h1 h2 hp => ?_⟩
      have e := insI_eq h1 h2
      subst e
      exact q.lst st (reps_ints _) p hp
    | flat kvs h1 e =>
      refine sort_dint hc hu I rx (.flat kvs h1 e) (by have := congrArg List.length e; rw [List.length_map, List.length_map] at this; rw [this]; exact (dk_rd I.hok h1).1) fun p hp => ?_
      exact q.lst st (reps_ints _) p hp
    | nest kvs h1 hk e =>
      refine sort_dint hc hu I rx (.nest kvs h1 hk e) (by have := congrArg List.length e; rw [List.length_map, List.length_map] at this; rw [this]; exact (EvNd.ndict I h1 hk).2.1) fun p hp => ?_
      exact q.lst st (reps_ints _) p hp
end
theorem call_bi (hc : X.calm = true) (b : BI) (hg : b = .repr → X.A.guards = some []) (hu : X.A.units + 100 < cLine) : CallR X (biVal b) (rC X.K G (bcall b)) := by
  rintro pins s σ H xs us Q I rx ⟨ds, d, S, w, st, rs, h, q⟩
  cases b with
  | len =>
    match ds, h with
    | [y], h =>
      obtain ⟨x, rfl, r⟩ := reps1 rs
      have go : ∀ {e : D}, (itemsS S y).map (fun ys : List D => D.int ys.length) = some e → d = e → wpAny (model X.prog X.w) X.A (call (biVal .len) us) (EP X pins σ Q) X.xe s := by
        intro e he ee
        subst ee
        cases ei : itemsS S y with
        | none => rw [ei] at he; cases he
        | some ys =>
          rw [ei] at he
          cases Option.some.inj he
          obtain ⟨a, vs, rfl, hs, qs⟩ := seq_of st r ei
          dsimp only at q
          rw [qs.length] at q
          exact call_len_seq pins s σ H _ us Q I rx ⟨a, vs, rfl, hs, q.same st (.int _)⟩
      have lenD : (dents S y).map (fun p => D.int p.2.length) = some d → wpAny (model X.prog X.w) X.A (call (biVal .len) us) (EP X pins σ Q) X.xe s := fun h => by
        cases ec : dents S y with
        | none => rw [ec] at h; cases h
        | some p =>
          obtain ⟨t, es⟩ := p
          rw [ec] at h
          cases Option.some.inj h
          obtain ⟨a, rfl, hh⟩ := dents_of st r ec
          rcases hh with ⟨_, kvs, h1, en⟩ | ⟨_, kvs, h1, en⟩
          · have q' := q.same st (.int (es.length : Int))
            rw [en.length] at q'
            rw [Vals.ref1 rx]
            exact d_len I h1 fun t s' I' => ⟨.int kvs.length, H, I', ⟨t, rfl⟩, q'⟩
          · have q' := q.same st (.int (es.length : Int))
            rw [en.length] at q'
            rw [Vals.ref1 rx]
            exact EvNd.nd_len I (.inl h1) en.kys fun t s' I' => ⟨.int kvs.length, H, I', ⟨t, rfl⟩, q'⟩
      cases y with
      | str z =>
        cases r
        simp only [bcall] at h
        split at h
        · rename_i hz
          cases h
          exact call_len_str pins s σ H _ us Q I rx ⟨z, rfl, small_of hz, q.same st (.int _)⟩
        · cases h
      | sz n =>
        cases Option.some.inj h
        cases r with
        | sz h1 _ => exact EvZs.cr_lenN pins s σ H _ us Q I rx ⟨_, n, rfl, h1, q.same st (.int _)⟩
      | ref l =>
        simp only [bcall] at h
        split at h
        · rename_i xs ei
          exact go (e := d) (by rw [ei]; exact h) rfl
        · exact lenD h
      | non => simp [bcall, itemsS, dents] at h
      | bl _ => simp [bcall, itemsS, dents] at h
      | int _ => simp [bcall, itemsS, dents] at h
      | gl _ => simp [bcall, itemsS, dents] at h
      | ty _ => simp [bcall, itemsS, dents] at h
      | dct => simp [bcall, itemsS, dents] at h
      | mk _ => simp [bcall, itemsS, dents] at h
      | exn _ _ => simp [bcall, itemsS, dents] at h
      | dic t es => exact lenD h
      | rg _ _ => simp [bcall, itemsS, dents] at h
      | _ => exact go h rfl
  | abs =>
    match ds, h with
    | [.int i], h =>
      cases Option.some.inj h
      obtain ⟨x, rfl, r⟩ := reps1 rs
      cases r
      exact call_abs pins s σ H _ us Q I rx ⟨i, rfl, q.same st (.int _)⟩
  | max2 =>
    match ds, h with
    | [.int i, .int j], h =>
      cases Option.some.inj h
      obtain ⟨x, y, rfl, r1, r2⟩ := reps2 rs
      cases r1; cases r2
      exact call_max2 hc pins s σ H _ us Q I rx ⟨i, j, rfl, q.same st (.int _)⟩
  | min2 =>
    match ds, h with
    | [.int i, .int j], h =>
      cases Option.some.inj h
      obtain ⟨x, y, rfl, r1, r2⟩ := reps2 rs
      cases r1; cases r2
      exact call_min2 hc pins s σ H _ us Q I rx ⟨i, j, rfl, q.same st (.int _)⟩
  | bool1 =>
    match ds, h with
    | [.int i], h =>
      cases Option.some.inj h
      obtain ⟨x, rfl, r⟩ := reps1 rs
      cases r
      exact call_bool1 pins s σ H _ us Q I rx (.inl ⟨i, rfl, q.same st (.bl _)⟩)
    | [.bl k], h =>
      cases Option.some.inj h
      obtain ⟨x, rfl, r⟩ := reps1 rs
      cases r
      exact call_bool1 pins s σ H _ us Q I rx (.inr ⟨k, rfl, q.same st (.bl _)⟩)
  | int =>
    match ds, h with
    | [.int i], h =>
      cases Option.some.inj h
      obtain ⟨x, rfl, r⟩ := reps1 rs
      cases r
      exact call_int1 pins s σ H _ us Q I rx (.inl ⟨i, rfl, q.same st (.int _)⟩)
    | [.bl k], h =>
      cases Option.some.inj h
      obtain ⟨x, rfl, r⟩ := reps1 rs
      cases r
      exact call_int1 pins s σ H _ us Q I rx (.inr ⟨k, rfl, q.same st (.int _)⟩)
    | [.str a], h =>
      obtain ⟨x, rfl, r⟩ := reps1 rs
      cases r
      simp only [bcall] at h
      split at h
      · rename_i hz
        cases en : PySem.intText? a with
        | none => rw [en] at h; cases h
        | some n =>
          rw [en] at h
          cases Option.some.inj h
          exact call_int_str pins s σ H _ us Q I rx ⟨a, n, rfl, en, of_decide_eq_true hz, q.same st (.int _)⟩
      · cases h
  | repr =>
    match ds, h with
    | [y], h =>
      obtain ⟨x, rfl, r⟩ := reps1 rs
      obtain ⟨u, rfl, r1⟩ := vals1 rx
      simp only [bcall, showD] at h
      split at h
      · rename_i p ep
        split at h
        · rename_i hs
          cases Option.some.inj h
          simp only [Bool.and_eq_true, decide_eq_true_eq] at hs
          exact repr_ok (hg rfl) hu I r1 (dp_of st r ep) hs.1 hs.2.1 hs.2.2.1 (small_of hs.2.2.2) (q.same st (.str _))
        · cases h
      · cases h
  | sum =>
    match ds, h with
    | [y], h =>
      obtain ⟨x, rfl, r⟩ := reps1 rs
      simp only [bcall] at h
      cases ei : itemsL S y with
      | none => rw [ei] at h; cases h
      | some ys =>
        rw [ei] at h
        cases en : intsOf ys with
        | none => simp [en] at h
        | some ns =>
          simp [en] at h
          subst h
          obtain ⟨a, vs, rfl, hs, qs⟩ := lst_of st r ei
          have ev := ints_of qs en
          subst ev
          exact cr_sum hc pins s σ H _ us Q I rx ⟨a, ns, rfl, hs, q.same st (.int _)⟩
  | max1 =>
    match ds, h with
    | [y], h =>
      obtain ⟨x, rfl, r⟩ := reps1 rs
      simp only [bcall] at h
      cases ei : itemsL S y with
      | none => rw [ei] at h; cases h
      | some ys =>
        rw [ei] at h
        cases en : intsOf ys with
        | none => simp [en] at h
        | some ns =>
          cases ns with
          | nil => simp [en, mxO] at h
          | cons n ns =>
            simp [en, mxO] at h
            subst h
            obtain ⟨a, vs, rfl, hs, qs⟩ := lst_of st r ei
            have ev := ints_of qs en
            subst ev
            refine cr_max hc pins s σ H _ us Q I rx ⟨a, n :: ns, rfl, hs, Nat.succ_pos _, fun m h1 h2 => ?_⟩
            obtain ⟨g1, g2⟩ := mxI_ok ns n
            have e : m = mxI n ns := Int.le_antisymm (g2 m h1) (h2 _ g1)
            rw [e]
            exact q.same st (.int _)
  | min1 =>
    match ds, h with
    | [y], h =>
      obtain ⟨x, rfl, r⟩ := reps1 rs
      simp only [bcall] at h
      cases ei : itemsL S y with
      | none => rw [ei] at h; cases h
      | some ys =>
        rw [ei] at h
        cases en : intsOf ys with
        | none => simp [en] at h
        | some ns =>
          cases ns with
          | nil => simp [en, mnO] at h
          | cons n ns =>
            simp [en, mnO] at h
            subst h
            obtain ⟨a, vs, rfl, hs, qs⟩ := lst_of st r ei
            have ev := ints_of qs en
            subst ev
            refine cr_min hc pins s σ H _ us Q I rx ⟨a, n :: ns, rfl, hs, Nat.succ_pos _, fun m h1 h2 => ?_⟩
            obtain ⟨g1, g2⟩ := mnI_ok ns n
            have e : m = mnI n ns := Int.le_antisymm (h2 _ g1) (g2 m h1)
            rw [e]
            exact q.same st (.int _)
  | sortI =>
    match ds, h with
    | [y], h =>
      obtain ⟨x, rfl, r⟩ := reps1 rs
      simp only [bcall] at h
      cases ei : itemsL S y with
      | none =>
        rw [ei] at h
        simp only at h
        cases ec : dents S y with
        | none => rw [ec] at h; cases h
        | some p =>
          obtain ⟨t, es⟩ := p
          rw [ec] at h
          simp only [Option.bind_some] at h
          obtain ⟨a, rfl, hh⟩ := dents_of st r ec
          rcases hh with ⟨_, kvs, h1, en⟩ | ⟨_, kvs, h1, en⟩
          · exact sort_ok hc hu I rx st (.flat kvs h1 rfl) en.keys h q
          · exact sort_ok hc hu I rx st (.nest kvs (.inl h1) en.kys rfl) en.keys h q
      | some ys =>
        rw [ei] at h
        simp only at h
        obtain ⟨a, vs, rfl, hs, qs⟩ := lst_of st r ei
        exact sort_ok hc hu I rx st (.lst hs) qs h q
  | divmod =>
    match ds, h with
    | [.int a, .int b], h =>
      obtain ⟨x, z, rfl, r1, r2⟩ := reps2 rs
      cases r1; cases r2
      simp only [bcall] at h
      split at h
      · rename_i hd
        cases h
        simp only [divOk, Bool.and_eq_true, decide_eq_true_eq] at hd
        exact EvNs.cr_divmod pins s σ H _ us Q I rx ⟨a, b, rfl, hd.1, hd.2, fun p hp => q.tup st (.cons (.int _) (.cons (.int _) .nil)) p hp⟩
      · cases h
  | set =>
    match ds, h with
    | [y], h =>
      obtain ⟨x, rfl, r⟩ := reps1 rs
      simp only [bcall] at h
      cases ei : itemsS S y with
      | none => rw [ei] at h; cases h
      | some ys =>
        rw [ei] at h
        cases en : rowsT ys with
        | none => simp [en] at h
        | some ks =>
          simp only [en, Option.bind_some] at h
          split at h
          · rename_i hz
            cases h
            obtain ⟨a, vs, rfl, hs, qs⟩ := seq_of st r ei
            obtain ⟨ps, rfl, e2, e3⟩ := rows_of qs en
            refine EvZs.cr_setN hc hu pins s σ H _ us Q I rx ⟨a, ps, rfl, hs, e3, ?_, fun p hp => ?_⟩
            · have := of_decide_eq_true hz
              rw [← e2, List.length_map] at this
              exact this
            · rw [e2]
              exact q (.ref p) _ (Ext.laid hp) (st.laid hp) (.sz upd_same (st.fresh hp))
          · cases h
  | all =>
    match ds, h with
    | [y], h =>
      obtain ⟨x, rfl, r⟩ := reps1 rs
      simp only [bcall] at h
      cases ei : itemsL S y with
      | none => rw [ei] at h; cases h
      | some ys =>
        rw [ei] at h
        cases en : boolsOf ys with
        | none => simp [en] at h
        | some ns =>
          simp [en] at h
          subst h
          obtain ⟨a, vs, rfl, hs, qs⟩ := lst_of st r ei
          have ev := bools_of qs en
          subst ev
          exact cr_all hc pins s σ H _ us Q I rx ⟨a, ns, rfl, hs, q.same st (.bl _)⟩
  | any =>
    match ds, h with
    | [y], h =>
      obtain ⟨x, rfl, r⟩ := reps1 rs
      simp only [bcall] at h
      cases ei : itemsL S y with
      | none => rw [ei] at h; cases h
      | some ys =>
        rw [ei] at h
        cases en : boolsOf ys with
        | none => simp [en] at h
        | some ns =>
          simp [en] at h
          subst h
          obtain ⟨a, vs, rfl, hs, qs⟩ := lst_of st r ei
          have ev := bools_of qs en
          subst ev
          exact cr_any hc pins s σ H _ us Q I rx ⟨a, ns, rfl, hs, q.same st (.bl _)⟩
  | tuple =>
    match ds, h with
    | [y], h =>
      obtain ⟨x, rfl, r⟩ := reps1 rs
      simp only [bcall] at h
      cases r with
      | tup h1 h2 h3 =>
        cases Option.some.inj h
        exact call_tuple_of pins s σ H _ us Q I rx ⟨_, _, rfl, .inr ⟨h1.sq, q.same st (.tup h1 h2 h3)⟩⟩
      | lst h1 h2 =>
        cases Option.some.inj h
        exact call_tuple_of pins s σ H _ us Q I rx ⟨_, _, rfl, .inl ⟨h1.sq, fun p hp => q.tup st h2 p hp⟩⟩
      | frz h1 h2 =>
        cases Option.some.inj h
        exact call_tuple_of pins s σ H _ us Q I rx ⟨_, _, rfl, .inl ⟨h1.sq, fun p hp => q.tup st h2 p hp⟩⟩
      | @ref a l h1 =>
        cases ei : itemsS S (.ref l) with
        | none => rw [ei] at h; cases h
        | some ys =>
          rw [ei] at h
          cases Option.some.inj h
          obtain ⟨a', vs, e1, e2, e3⟩ := lst_of st (.ref h1) (show itemsL S (.ref l) = some ys from ei)
          cases e1
          exact call_tuple_of pins s σ H _ us Q I rx ⟨_, _, rfl, .inl ⟨e2, fun p hp => q.tup st e3 p hp⟩⟩
      | _ => cases h
  | list =>
    match ds, h with
    | [y], h =>
      obtain ⟨x, rfl, r⟩ := reps1 rs
      simp only [bcall] at h
      cases ei : itemsS S y with
      | none => rw [ei] at h; cases h
      | some ys =>
        rw [ei] at h
        cases Option.some.inj h
        obtain ⟨a, vs, rfl, hs, qs⟩ := seq_of st r ei
        exact call_list_of pins s σ H _ us Q I rx ⟨a, vs, rfl, hs, fun p hp => q.lst st qs p hp⟩
  | isI =>
    match ds, h with
    | [y, c], h =>
      obtain ⟨x, z, rfl, r1, r2⟩ := reps2 rs
      have old : (∀ k as, y ≠ .exn k as) → wpAny (model X.prog X.w) X.A (call (biVal .isI) us) (EP X pins σ Q) X.xe s := by
       intro hy
       have h : (match c, tyOf S y with
         | .ty n, some m => kitB m n
         | _, _ => none).map D.bl = some d := by
         cases y <;> first | exact h | exact absurd rfl (hy _ _)
       cases c with
       | ty n =>
        cases r2
        cases et : tyOf S y with
        | none => rw [et] at h; cases h
        | some m =>
          rw [et] at h
          cases ek : kitB m n with
          | none => simp [ek] at h
          | some k =>
            simp [ek] at h
            subst h
            exact call_isi pins s σ H _ us Q I rx ⟨x, .ty n, .type m, .type n, k, rfl, .ty n, ty_of st r1 et, kit_ty ek, q.same st (.bl _)⟩
       | _ => cases h
      cases y with
      | exn k as =>
        simp only [bcall, isi] at h
        cases ek : isE as c with
        | none => rw [ek] at h; cases h
        | some b =>
          rw [ek] at h
          cases Option.some.inj h
          cases r1 with
          | exn h1 h2 h3 =>
            cases c with
            | gl j =>
              cases r2
              exact EvZe.call_isErr pins s σ H _ us Q I rx ⟨_, _, _, _, b, rfl, h1, h3.1, .own _, h3.2 (.inl j) b ek, q.same st (.bl _)⟩
            | ty n =>
              cases r2
              exact EvZe.call_isErr pins s σ H _ us Q I rx ⟨_, _, _, _, b, rfl, h1, h3.1, .ty n, h3.2 (.inr n) b ek, q.same st (.bl _)⟩
            | tup cs =>
              cases r2 with
              | tup g1 g2 =>
                rcases g1 with g1 | g1
                · obtain ⟨ws, e1, e2⟩ := isEs_ok h3 g2 ek
                  exact EvZe.call_isErrT pins s σ H _ us Q I rx ⟨_, _, _, _, ws, b, rfl, h1, h3.1, g1.1, e1, e2, q.same st (.bl _)⟩
                · obtain ⟨ws, e1, e2⟩ := isEs_ok h3 g2 ek
                  obtain ⟨o, its, m, z1, z2, z3, z4, z5⟩ := g1
                  obtain ⟨oc, od, dt, sl⟩ := o
                  simp only at z2 z3
                  subst z2 z3
                  have e3 := ClsV.all e1 z5
                  subst e3
                  obtain ⟨u1, u2, rfl, v1, v2⟩ := vals2 rx
                  cases v1
                  cases v2
                  obtain ⟨oe, J⟩ := EvZe.errO_at I h1
                  have hk := I.kIn _ _ z1
                  exact PySem.W.kia_tup (EvZe.kitE h3.1) I.kIn J (its := its.toList) (by simpa using hk) e2 (fun z => nomatch z) fun tk => ⟨.bl b, H, I.tok tk, rfl, q.same st (.bl _)⟩
            | _ => cases ek
      | _ => exact old (fun _ _ e => by cases e)
/-! ### methods: the store may have changed -/
def rM (K : PySem.W.Frag) (G : Gx) (m : ME) : V → List V → Hp → VK → Prop := fun x xs H Q =>
  ∃ o ds d S S' w, RepSt K G w H S ∧ Rep K G w H o x ∧ Reps K G w H ds xs ∧ mcall m o ds S = some (d, S') ∧ ∀ v H', Ext w H w H' → RepSt K G w H' S' → Rep K G w H' d v → Q v H'
def meId : ME → String
  | .append => "list.append"
  | .bits => "int.bit_length"
  | .pop => "list.pop"
  | .popAt => "list.pop"
  | .extend => "list.extend"
  | .count => "list.count"
  | .index => "list.index"
theorem D.calms_append : ∀ {a b : List D}, D.calms (a ++ b) = (D.calms a && D.calms b)
  | [], b => by simp [D.calms]
  | x :: a, b => by simp [D.calms, D.calms_append (a := a), Bool.and_assoc]
theorem D.calms_mem : ∀ {a : List D}, D.calms a = true ↔ ∀ x ∈ a, x.calm = true
  | [] => by simp [D.calms]
  | x :: a => by simp [D.calms, D.calms_mem (a := a)]
theorem D.calms_sub {a b : List D} (h : D.calms a = true) (s : ∀ x ∈ b, x ∈ a) : D.calms b = true :=
  D.calms_mem.mpr fun x m => D.calms_mem.mp h x (s x m)
theorem mt_ok {m : ME} (hu : X.A.units + 65 < cLine) (hm : m ≠ .bits) : MtR X (meId m) (rM X.K G m) := by
  rintro pins s σ H x xs v us Q I rx rxs ⟨o, ds, d, S, S', w, st, r1, r2, h, q⟩
  cases m with
  | bits => exact absurd rfl hm
  | extend =>
    match o, ds, h with
    | .ref l, [e], h =>
      simp only [mcall] at h
      split at h
      · rename_i ys zs ey ez
        split at h
        · rename_i hz
          cases Option.some.inj h
          simp only [Bool.and_eq_true, decide_eq_true_eq] at hz
          obtain ⟨y, rfl, ry⟩ := reps1 r2
          cases r1 with
          | ref h1 =>
            obtain ⟨vs, ey', e2, e3⟩ := st.at3 h1 ey
            obtain ⟨b, us', rfl, f2, f3⟩ := own_of st ry ez
            have ha : Reps X.K G w H (ys ++ zs) (vs ++ us') := e3.append f3
            have hcalm : D.calms (ys ++ zs) = true := by
              rw [D.calms_append, (st.cell l ys ey').1, hz.1]
              rfl
            exact mt_extend pins s σ H _ _ v us Q I rx rxs ⟨_, b, vs, us', rfl, rfl, e2, f2, by rw [← e3.length, ← f3.length]; exact hz.2, q _ _ (ext_set h1) (st.put h1 hcalm ha) .non⟩
        · cases h
      · cases h
  | count =>
    match ds, h with
    | [e], h =>
      simp only [mcall] at h
      split at h
      · rename_i ps p e1 e2
        split at h
        · rename_i hz
          cases Option.some.inj h
          rw [Bool.and_eq_true] at hz
          obtain ⟨y, rfl, ry⟩ := reps1 r2
          have d1 := dp_of st r1 e1
          obtain ⟨a, rfl⟩ : ∃ a, x = V.ref a := by cases d1 with | lst _ _ => exact ⟨_, rfl⟩
          exact EvZv.mt_countD hu pins s σ H _ _ v us Q I rx rxs ⟨a, y, p, ps, rfl, rfl, d1, dp_of st ry e2, hz.1, hz.2, q _ _ (Ext.refl _ _) st (.int _)⟩
        · cases h
      · cases h
  | index =>
    match ds, h with
    | [e], h =>
      simp only [mcall] at h
      split at h
      · rename_i ps p e1 e2
        split at h
        · rename_i hz
          rw [Bool.and_eq_true] at hz
          cases ef : ps.findIdx? (fun z => PyData.eqv z p) with
          | none => rw [ef] at h; cases h
          | some j =>
            rw [ef] at h
            cases Option.some.inj h
            obtain ⟨hj, hp, hno⟩ := List.findIdx?_eq_some_iff_getElem.mp ef
            obtain ⟨y, rfl, ry⟩ := reps1 r2
            have d1 := dp_of st r1 e1
            obtain ⟨a, rfl⟩ : ∃ a, x = V.ref a := by cases d1 with | lst _ _ => exact ⟨_, rfl⟩
            refine mt_indexD hu pins s σ H _ _ v us Q I rx rxs ⟨a, y, p, ps, j, ps[j], rfl, rfl, d1, dp_of st ry e2, hz.1, hz.2, List.getElem?_eq_getElem hj, hp, fun m z' hm hz' => ?_, q _ _ (Ext.refl _ _) st (.int _)⟩
            obtain ⟨hml, rfl⟩ := List.getElem?_eq_some_iff.mp hz'
            have := hno m hm
            simpa using this
        · cases h
      · cases h
  | append =>
    match o, ds, h with
    | .ref l, [e], h =>
      simp only [mcall] at h
      split at h
      · rename_i ys ey
        split at h
        · rename_i hz
          cases Option.some.inj h
          simp only [Bool.and_eq_true, decide_eq_true_eq] at hz
          obtain ⟨y, rfl, ry⟩ := reps1 r2
          cases r1 with
          | ref h1 =>
            obtain ⟨vs, ey', e2, e3⟩ := st.at3 h1 ey
            have ha : Reps X.K G w H (ys ++ [e]) (vs ++ [y]) := e3.append (.cons ry .nil)
            have hcalm : D.calms (ys ++ [e]) = true := by
              rw [D.calms_append, (st.cell l ys ey').1]
              simp [D.calms, hz.1]
            exact mt_append pins s σ H _ _ v us Q I rx rxs ⟨_, vs, y, rfl, rfl, e2, by rw [← e3.length]; exact hz.2, q _ _ (ext_set h1) (st.put h1 hcalm ha) .non⟩
        · cases h
      · cases h
  | pop =>
    match o, ds, h with
    | .ref l, [], h =>
      simp only [mcall] at h
      split at h
      · rename_i ys ey
        split at h
        · rename_i e ee
          cases Option.some.inj h
          cases r2
          cases r1 with
          | ref h1 =>
            obtain ⟨vs, ey', e2, e3⟩ := st.at3 h1 ey
            obtain ⟨y, hy, ry⟩ := e3.get ee
            rw [e3.length] at hy
            refine mt_pop pins s σ H _ _ v us Q I rx rxs ⟨_, vs, y, rfl, rfl, e2, hy, q _ _ (ext_set h1) (st.put h1 (D.calms_sub (st.cell l ys ey').1 fun x m => List.dropLast_subset _ m) e3.dropLast) (ry.ext (ext_set h1))⟩
        · cases h
      · cases h
  | popAt =>
    match o, ds, h with
    | .ref l, [.int i], h =>
      simp only [mcall] at h
      split at h
      · rename_i ys ey
        split at h
        · rename_i k ek
          split at h
          · rename_i e ee
            split at h
            · rename_i hz
              cases Option.some.inj h
              simp only [Bool.and_eq_true, decide_eq_true_eq] at hz
              obtain ⟨y0, rfl, ry0⟩ := reps1 r2
              cases ry0
              cases r1 with
              | ref h1 =>
                obtain ⟨vs, ey', e2, e3⟩ := st.at3 h1 ey
                obtain ⟨y, hy, ry⟩ := e3.get ee
                rw [e3.length] at ek
                refine mt_popAt pins s σ H _ _ v us Q I rx rxs ⟨_, vs, i, k, y, rfl, rfl, e2, hz.1, hz.2, ek, hy, q _ _ (ext_set h1) (st.put h1 (D.calms_sub (st.cell l ys ey').1 fun x m => List.mem_of_mem_eraseIdx m) (e3.eraseIdx k)) (ry.ext (ext_set h1))⟩
            · cases h
          · cases h
        · cases h
      · cases h
end
end Ev
/-! Ev, part E: from the text's expressions to ours. -/
namespace Ev
open PySem PySem.Spec PyProof.Rows L2
inductive GK where
  | fn (k : Nat)
  | cls (k : Nat)
  | cst (d : D)
  | tab (kvs : List (Str × D))
  | tabI (kvs : List (Int × Int))
/-- one function of the text: its name, its parameters, the ways in which it is called: so many values by place, keywords, where each parameter comes from -/
structure FI where
  name : Str
  ps : List Str
  pats : List (Nat × List Str × List Src)
  gd : Option (Option Str × List (Nat × Str)) := none
  vl : Bool := false
structure Tx where
  gl : List (Str × GK)
  fns : List FI
  bl : List Str
  mus : List (Nat × Nat)
  ex : List Nat
  exm : List ((Nat × Nat) × Bool)
  lams : List (List Str)
  kit : List (Nat × List ((Nat ⊕ String) × Bool)) := []
def idx (x : Str) : List Str → Nat → Option Nat
  | [], _ => none
  | y :: r, n => if y == x then some n else idx x r (n + 1)
def isLocal (sc : Scope) (x : Str) : Bool :=
  match sc.names.lookup x with
  | some .local => true
  | some .cell => true
  | _ => false
def isVis (sc : Scope) (x : Str) : Bool :=
  match sc.names.lookup x with
  | some .local => true
  | some .cell => true
  | some .free => true
  | _ => false
def isGlob (sc : Scope) (x : Str) : Bool :=
  match sc.names.lookup x with
  | some .globalImplicit => true
  | _ => false
def plainName (x : Str) : Bool := !(x == ("__debug__" : Str)) && (!(x == ("__classdict__" : Str)) && !(x == ("__name__" : Str)))
def biOf (x : Str) (n : Nat) : Option BI :=
  if n == 1 && x == ("len" : Str) then some .len
  else if n == 1 && x == ("abs" : Str) then some .abs
  else if n == 2 && x == ("max" : Str) then some .max2
  else if n == 2 && x == ("min" : Str) then some .min2
  else if n == 1 && x == ("int" : Str) then some .int
  else if n == 1 && x == ("repr" : Str) then some .repr
  else if n == 1 && x == ("sum" : Str) then some .sum
  else if n == 1 && x == ("all" : Str) then some .all
  else if n == 1 && x == ("any" : Str) then some .any
  else if n == 1 && x == ("tuple" : Str) then some .tuple
  else if n == 1 && x == ("list" : Str) then some .list
  else if n == 2 && x == ("isinstance" : Str) then some .isI
  else if n == 1 && x == ("set" : Str) then some .set
  else if n == 1 && x == ("max" : Str) then some .max1
  else if n == 1 && x == ("min" : Str) then some .min1
  else if n == 1 && x == ("sorted" : Str) then some .sortI
  else if n == 1 && x == ("bool" : Str) then some .bool1
  else if n == 2 && x == ("divmod" : Str) then some .divmod
  else none
def tyNm (x : Str) : Option String :=
  if x == ("int" : Str) then some "int"
  else if x == ("bool" : Str) then some "bool"
  else if x == ("tuple" : Str) then some "tuple"
  else if x == ("str" : Str) then some "str"
  else if x == ("list" : Str) then some "list"
  else if x == ("dict" : Str) then some "dict"
  else if x == ("ValueError" : Str) then some "ValueError"
  else none
def meOf (x : Str) (n : Nat) : Option ME :=
  if n == 1 && x == ("append" : Str) then some .append
  else if n == 0 && x == ("bit_length" : Str) then some .bits
  else if n == 0 && x == ("pop" : Str) then some .pop
  else if n == 1 && x == ("pop" : Str) then some .popAt
  else if n == 1 && x == ("extend" : Str) then some .extend
  else if n == 1 && x == ("count" : Str) then some .count
  else if n == 1 && x == ("index" : Str) then some .index
  else none
/-- what may stand where a value is read, by its head -/
def plainE : Expr → Bool
  | .Starred _ _ => false
  | .Set _ _ _ => false
  | .Slice _ _ _ _ => false
  | _ => true
def notCall0 : Expr → Bool
  | .Call _ [] [] _ => false
  | _ => true
def isMu (C : Tx) (p : Pos) : Bool := C.mus.contains (p.line, p.col)
/-- list(range(a)) -/
def lrgA (C : Tx) (sc : Scope) (f : Str) : List Expr → Option Expr
  | [.Call (.Name g _) [a] [] _] => if f == ("list" : Str) && (g == ("range" : Str) && (isGlob sc g && ((C.gl.lookup g).isNone && C.bl.contains g))) then some a else none
  | _ => none
def kwNames : List Keyword → Option (List Str)
  | [] => some []
  | ⟨some n, _, _⟩ :: r => (kwNames r).map (n :: ·)
  | ⟨none, _, _⟩ :: _ => none
/-! ### a lambda without parameters, handed to a def that calls it within a try -/
def gdE (a : Str) : Expr → Option (Option Str)
  | .Call (.Name b _) [] [] _ => if b == a then some none else none
  | .Tuple [.Constant (.str x) _ _, .Call (.Name b _) [] [] _] _ _ => if b == a then some (some x) else none
  | _ => none
def gdH (gl : List (Str × GK)) (sg : Scope) : List ExceptHandler → List (Nat × Str)
  | .ExceptHandler (some (.Name x _)) none [.Return (some (.Constant (.str z) _ _)) _] _ :: r => if plainName x && isGlob sg x then (match gl.lookup x with
    | some (.cls j) => (j, z) :: gdH gl sg r
    | _ => []) else []
  | _ => []
def gdOf (gl : List (Str × GK)) (sg : Scope) (a : Str) : List Stmt → Option (Option Str × List (Nat × Str))
  | [.Try [.Return (some e0) _] (h :: hs) [] [] _] => match gdE a e0 with
    | some w => some (w, gdH gl sg (h :: hs))
    | none => none
  | _ => none
/-- the mark of a def that keeps the error: told = None; try: told = a() except C as e: caught = e; .. -/
def keepS : Str := ""
def lamI (C : Tx) (res : List (Nat × Str)) (w : Option Str) (hs : List (Nat × Str)) (ie : IE) : IE := if w = some keepS then .lamK hs ie else .lamF w res ie
def Tx.nof (C : Tx) : Tx := { C with fns := [], lams := [] }
def lamArg : List Expr → List Keyword → Option (Expr × Scope)
  | [.Lambda ⟨[], [], none, [], [], none, []⟩ body scope _], [] => some (body, scope)
  | _, _ => none
def resOf (exm : List ((Nat × Nat) × Bool)) (k : Nat) : List (Nat × Str) → Option Str
  | [] => none
  | (j, z) :: r => match exm.lookup (k, j) with
    | some true => some z
    | some false => resOf exm k r
    | none => none
def resAll (exm : List ((Nat × Nat) × Bool)) (hs : List (Nat × Str)) : List Nat → List (Nat × Str)
  | [] => []
  | k :: r => match resOf exm k hs with
    | some z => (k, z) :: resAll exm hs r
    | none => resAll exm hs r
/-- the defs that a local name may hold, by so many arguments -/
def tblOf (n : Nat) : List FI → Nat → List (Nat × List Src)
  | [], _ => []
  | fi :: r, k => if fi.vl then (match fi.pats.find? (fun p => p.1 == n && p.2.1.isEmpty) with
    | some p => (k, p.2.2) :: tblOf n r (k + 1)
    | none => tblOf n r (k + 1)) else tblOf n r (k + 1)
/-- displays of dicts, of which nothing is known: constants alone -/
def cstEx : Expr → Bool
  | .Constant (.int _) _ _ => true
  | .Constant (.str _) _ _ => true
  | _ => false
def dctOk : List (Option Expr) → List Expr → Bool
  | [], [] => true
  | some k :: ks, v :: vs => cstEx k && (cstEx v && dctOk ks vs)
  | _, _ => false
/-- the keys of a display that becomes a cell -/
def dKey : Expr → Option D
  | .Constant (.int i) _ _ => some (.int i)
  | .Constant (.str x) _ _ => some (.str x)
  | _ => none
def dKeys : List (Option Expr) → Option (List D)
  | [] => some []
  | some k :: r => match dKey k, dKeys r with
    | some d, some ds => some (d :: ds)
    | _, _ => none
  | none :: _ => none
def mapE (f : Expr → Option IE) : List Expr → Option IEs
  | [] => some .nil
  | e :: r => match f e, mapE f r with
    | some i, some is => some (.cons i is)
    | _, _ => none
/-- a display's items, the starred ones looked at -/
def mapS (f : Expr → Option IE) : List Expr → Option IEs
  | [] => some .nil
  | .Starred e _ :: r => match f e, mapS f r with
    | some i, some is => some (.cons (.chkS i) is)
    | _, _ => none
  | e :: r => match f e, mapS f r with
    | some i, some is => some (.cons i is)
    | _, _ => none
/-- a display's items without their stars, and which had one -/
def strip : List Expr → List Expr × List Bool
  | [] => ([], [])
  | .Starred e _ :: r => (e :: (strip r).1, true :: (strip r).2)
  | e :: r => (e :: (strip r).1, false :: (strip r).2)
def gslots : IG → List Nat
  | .nm i => [i]
  | .tup ts => gslotss ts
where gslotss : IGs → List Nat
  | .nil => []
  | .cons g r => gslots g ++ gslotss r
def IEs.app : IEs → IEs → IEs
  | .nil, b => b
  | .cons e r, b => .cons e (r.app b)
def IEs.len : IEs → Nat
  | .nil => 0
  | .cons _ r => r.len + 1
mutual
def cG (N : List Str) (sc : Scope) : Nat → Expr → Option IG
  | 0, _ => none
  | n + 1, .Name x _ => if isLocal sc x then (idx x N 0).map .nm else none
  | n + 1, .Tuple es _ _ => (cGs N sc n es).map .tup
  | _, _ => none
def cGs (N : List Str) (sc : Scope) : Nat → List Expr → Option IGs
  | _, [] => some .nil
  | 0, _ :: _ => none
  | n + 1, e :: es => match plainE e, cG N sc n e, cGs N sc n es with
    | true, some g, some gs => some (.cons g gs)
    | _, _, _ => none
end
def own2 (N : List Str) (is : List Nat) : Option (List (Str × Nat)) :=
  match is with
  | [] => some []
  | i :: r => match N[i]?, own2 N r with
    | some x, some l => some ((x, i) :: l)
    | _, _ => none
/-- a dict of the text's, by its name -/
def tabOf (C : Tx) (sc : Scope) : Expr → Option (List (Str × D))
  | .Name f _ => if plainName f && isGlob sc f then (match C.gl.lookup f with
    | some (.tab kvs) => some kvs
    | _ => none) else none
  | _ => none
/-- .. whose keys are numbers -/
def tabIOf (C : Tx) (sc : Scope) : Expr → Option (List (Int × Int))
  | .Name f _ => if plainName f && isGlob sc f then (match C.gl.lookup f with
    | some (.tabI kvs) => some kvs
    | _ => none) else none
  | _ => none
/-- a display of one pair whose key is no constant -/
def isD1 : List (Option Expr) → List Expr → Option (Expr × Expr)
  | [some k], [v] => if (dKey k).isNone then some (k, v) else none
  | _, _ => none
def isTupE : Expr → Bool
  | .Tuple _ _ _ => true
  | _ => false
mutual
def cE (C : Tx) (N : List Str) : Nat → Scope → Expr → Option IE
  | 0, _, _ => none
  | n + 1, sc, e => match e with
    | .Constant (.int i) _ _ => some (.cst (.int i))
    | .Constant (.bool b) _ _ => some (.cst (.bl b))
    | .Constant .none _ _ => some (.cst .non)
    | .Constant (.str x) _ _ => some (.cst (.str x))
    | .Name x _ => if plainName x then
        (if isVis sc x then (idx x N 0).map .var
        else if isGlob sc x then match C.gl.lookup x with
          | some (.fn k) => some (.cst (.gl k))
          | some (.cls k) => some (.cst (.gl k))
          | some (.cst d) => some (.cst d)
          | some (.tab _) => none
          | some (.tabI _) => none
          | none => if C.bl.contains x then (tyNm x).map fun t => .cst (.ty t) else none
        else none) else none
    | .BinOp a op b p => match cE C N n sc a, cE C N n sc b with
      | some x, some y => if op == .Add && isMu C p then some (.lzip x y) else some (.bin op x y)
      | _, _ => none
    | .UnaryOp .USub a _ => (cE C N n sc a).map .neg
    | .UnaryOp .Not a _ => (cE C N n sc a).map .notE
    | .BoolOp _ [a] _ => cE C N n sc a
    | .BoolOp .And (a :: b :: r) p => match cE C N n sc a, cE C N n sc (.BoolOp .And (b :: r) p) with
      | some x, some y => some (.andE x y)
      | _, _ => none
    | .BoolOp .Or (a :: b :: r) p => match cE C N n sc a, cE C N n sc (.BoolOp .Or (b :: r) p) with
      | some x, some y => some (.orE x y)
      | _, _ => none
    | .Compare a [op] [b] _ => match cE C N n sc a, cE C N n sc b with
      | some x, some y => some (.cmp op x y)
      | _, _ => none
    | .Compare a [op, op'] [b, d] _ => match cE C N n sc a, cE C N n sc b, cE C N n sc d with
      | some x, some y, some z => some (.chain op op' x y z)
      | _, _, _ => none
    | .IfExp t a b _ => match cT C N n sc t, cE C N n sc a, cE C N n sc b with
      | some x, some y, some z => some (.ite x y z)
      | _, _, _ => none
    | .Tuple es _ _ => if (strip es).2.all (!·) then (cEs C N n sc es).map .tupE else if (strip es).1.all plainE then (mapS (fun e => cE C N n sc e) es).map (.tupS (strip es).2) else none
    | .List es p => (cEs C N n sc es).map (.lstE (isMu C p))
    | .Subscript a (.Slice lo hi none _) _ => match cE C N n sc a, cO C N n sc lo, cO C N n sc hi with
      | some x, some l, some h => some (.sl x l h)
      | _, _, _ => none
    | .Subscript a (.Slice lo hi (some st) _) _ => match cE C N n sc a, cO C N n sc lo, cO C N n sc hi, cE C N n sc st with
      | some x, some l, some h, some z => some (.sl3 x l h (.some z))
      | _, _, _, _ => none
    | .Subscript a b _ => match tabOf C sc a with
      | some kvs => (match plainE b, cE C N n sc b with
        | true, some y => some (.tget kvs y)
        | _, _ => none)
      | none => (match plainE b, cE C N n sc a, cE C N n sc b with
        | true, some x, some y => some (.ix x y)
        | _, _, _ => none)
    | .Call (.Attribute o m ap) es [] p => if notCall0 o && ap.endLine == p.line && decide (es.length < 20) then (if m == ("get" : Str) then (match es with
        | [k] => (match plainE k, cE C N n sc o, cE C N n sc k with
          | true, some x, some y => some (.dgt1 x y)
          | _, _, _ => none)
        | [k, d] => (match tabIOf C sc o with
          | some kvs => (match plainE k && plainE d, cE C N n sc k, cE C N n sc d with
            | true, some y, some z => some (.tgetI kvs y z)
            | _, _, _ => none)
          | none => (match plainE k && plainE d, cE C N n sc o, cE C N n sc k, cE C N n sc d with
            | true, some x, some y, some z => some (.dgt2 x y z)
            | _, _, _, _ => none))
        | _ => none)
      else match cE C N n sc o, cEs C N n sc es, meOf m es.length with
      | some x, some is, some me => some (.meth me x is)
      | some x, some .nil, none => some (.dprs x)
      | _, _, _ => none)
      else none
    | .Call (.Name f _) es kws cp => if plainName f && isGlob sc f then (match lamArg es kws with
      | some (body, scope) => match C.gl.lookup f with
        | some (.fn k) => match C.fns[k]?, cE C N n scope body with
          | some fi, some ie => match fi.gd with
            | some (w, hs) => if C.lams.contains N && (LamX.lamSB sc scope && fi.name == f) then some (lamI C (resAll C.exm hs C.ex) w hs ie) else none
            | none => none
          | _, _ => none
        | _ => none
      | none => match C.gl.lookup f with
        | some (.fn k) => match C.fns[k]?, kwNames kws, cEs C N n sc es, cEs C N n sc (kws.map (·.value)) with
          | some fi, some ks, some is, some js => match fi.pats.find? (fun p => p.1 == es.length && p.2.1 == ks) with
            | some p => if !es.isEmpty || kws.isEmpty then some (.callF k p.2.2 (is.app js)) else none
            | none => none
          | _, _, _, _ => none
        | some _ => none
        | none => match kws with
          | [] => if C.bl.contains f then match lrgA C sc f es with
            | some a => (cE C N n sc a).map (.lrg (isMu C cp))
            | none => match biOf f es.length, cEs C N n sc es with
            | some b, some is => (match f == ("list" : Str) && isMu C cp, is with
              | true, .cons x .nil => some (.newL x)
              | _, _ => some (.callB b is))
            | _, _ => if f == ("range" : Str) then (match es with
              | [a] => (cE C N n sc a).map (.rngV (.cst (.int 0)))
              | _ => none) else none
            else none
          | _ => none)
      else if plainName f && (isVis sc f && (kws.isEmpty && !es.isEmpty)) then (match idx f N 0, cEs C N n sc es with
        | some i, some is => some (.callL i (tblOf es.length C.fns 0) is)
        | _, _ => none)
      else none
    | .Dict keys vals p => if isMu C p then (if keys.isEmpty && vals.isEmpty then some .dnew else match isD1 keys vals with
      | some (k, v) => (match cE C N n sc k, cE C N n sc v with
        | some x, some y => some (.dsp1 x y)
        | _, _ => none)
      | none => match dKeys keys, mapE (fun e => cE C N n sc e) vals with
      | some ks, some is => if decide (keys.length = vals.length) && (!keys.isEmpty && decide (keys.length ≤ 15)) then some (.dsp ks is) else none
      | _, _ => none)
      else if dctOk keys vals && decide (keys.length ≤ 15) then some .dctE else none
    | .DictComp kx vx [⟨tg, iter, ifs, 0⟩] scope p =>
      match cG N scope n tg with
      | some g => match own2 N (gslots g) with
        | some own => if isMu C p && (blkC N sc scope own && (plainE iter && (plainE kx && plainE vx))) then match cI C N n sc (isTupE tg) iter, cC C N n (relS scope sc) ifs, cE C N n (relS scope sc) kx, cE C N n (relS scope sc) vx with
          | some it, some c, some x, some y => some (.dcT (own.map (·.2)) g it c x y)
          | _, _, _, _ => none
          else none
        | none => none
      | none => none
    | .ListComp elt [⟨tg, iter, ifs, 0⟩] scope p =>
      match cG N scope n tg with
      | some g => match own2 N (gslots g) with
        | some own => if blkC N sc scope own && plainE iter then match cI C N n sc (isTupE tg) iter, cC C N n (relS scope sc) ifs, cE C N n (relS scope sc) elt with
          | some it, some c, some x => some (.comp (isMu C p) (own.map (·.2)) g it c x)
          | _, _, _ => none
          else none
        | none => none
      | none => none
    | _ => none
def cEs (C : Tx) (N : List Str) : Nat → Scope → List Expr → Option IEs
  | _, _, [] => some .nil
  | 0, _, _ :: _ => none
  | n + 1, sc, e :: es => match cE C N n sc e, cEs C N n sc es with
    | some x, some xs => some (.cons x xs)
    | _, _ => none
def cO (C : Tx) (N : List Str) : Nat → Scope → Option Expr → Option IO
  | _, _, none => some .none
  | 0, _, some _ => none
  | n + 1, sc, some e => (cE C N n sc e).map .some
def cC (C : Tx) (N : List Str) : Nat → Scope → List Expr → Option IO
  | _, _, [] => some .none
  | 0, _, _ :: _ => none
  | n + 1, sc, [e] => (cT C N n sc e).map .some
  | _ + 1, _, _ :: _ :: _ => none
def cT (C : Tx) (N : List Str) : Nat → Scope → Expr → Option IE
  | 0, _, _ => none
  | n + 1, sc, e => match e with
    | .UnaryOp .Not a _ => (cT C N n sc a).map .notE
    | .BoolOp _ [a] _ => cT C N n sc a
    | .BoolOp .And (a :: b :: r) p => match cT C N n sc a, cT C N n sc (.BoolOp .And (b :: r) p) with
      | some x, some y => some (.andE x y)
      | _, _ => none
    | .BoolOp .Or (a :: b :: r) p => match cT C N n sc a, cT C N n sc (.BoolOp .Or (b :: r) p) with
      | some x, some y => some (.orE x y)
      | _, _ => none
    | .Compare a [op] [b] _ => match cE C N n sc a, cE C N n sc b with
      | some x, some y => some (.cmp op x y)
      | _, _ => none
    | .Compare a [op, op'] [b, d] _ => match cE C N n sc a, cE C N n sc b, cE C N n sc d with
      | some x, some y, some z => some (.chain op op' x y z)
      | _, _, _ => none
    | .Compare _ _ _ _ => none
    | .IfExp _ _ _ _ => none
    | e => cE C N n sc e
def cI (C : Tx) (N : List Str) : Nat → Scope → Bool → Expr → Option II
  | 0, _, _, _ => none
  | n + 1, sc, tt, e => match e with
    | .Call (.Name f q) es [] p => if isGlob sc f && (C.gl.lookup f).isNone && C.bl.contains f then
        (if f == ("range" : Str) then match es with
          | [a] => (cE C N n sc a).map fun x => .rng (.cst (.int 0)) x
          | [a, b] => match cE C N n sc a, cE C N n sc b with
            | some x, some y => some (.rng x y)
            | _, _ => none
          | _ => none
        else if f == ("reversed" : Str) then match es with
          | [.Call (.Name g _) [a] [] _] => if g == ("range" : Str) && isGlob sc g && C.bl.contains g then (cE C N n sc a).map fun x => .rev (.cst (.int 0)) x else none
          | [.Call (.Name g _) [a, b] [] _] => if g == ("range" : Str) && isGlob sc g && C.bl.contains g then match cE C N n sc a, cE C N n sc b with
            | some x, some y => some (.rev x y)
            | _, _ => none
            else none
          | _ => none
        else if f == ("enumerate" : Str) && tt then match es with
          | [a] => (cE C N n sc a).map .enum
          | _ => none
        else if f == ("zip" : Str) && tt then match es with
          | [a, b] => match cE C N n sc a, cE C N n sc b with
            | some x, some y => some (.zip x y)
            | _, _ => none
          | _ => none
        else (cE C N n sc (.Call (.Name f q) es [] p)).map .seq)
      else (cE C N n sc (.Call (.Name f q) es [] p)).map .seq
    | e => (cE C N n sc e).map .seq
end
end Ev
/-! Ev, part F: what an evaluation's end asks; calls; the single constructs. -/
namespace Ev
open PySem PySem.Spec PyProof.Rows L2
def ExR (G : Gx) (x : Ex) (cls : Value) (dd : Option Addr) (H : Hp) : Prop := cls = .ref (G x.cls) ∧ (x.fs = [] ∧ dd = none)
/-- the end r: an answer, an exception, never bad -/
def PostG {α β : Type} (K : PySem.W.Frag) (G : Gx) (W : WX) (σ : L2.St) (rep : Wd → Hp → α → β → Prop) (r : R α) (w : Wd) (H : Hp) (Q : α → Store → β → Hp → Wd → Prop) : Prop :=
  match r with
  | .ok a S => ∀ (b : β) (H' : Hp) (w' : Wd), Ext w H w' H' → RepSt K G w' H' S → rep w' H' a b → Q a S b H' w'
  | .exc x S => ∀ (cls : Value) (dd : Option Addr) (H' : Hp) (w' : Wd), Ext w H w' H' → RepSt K G w' H' S → ExR G x cls dd H' → W cls dd σ H'
  | .bad => False
section
variable {K : PySem.W.Frag} {G : Gx} {W : WX} {σ : L2.St} {w w' : Wd} {H H' : Hp}
theorem PostG.ext {α β : Type} {rep : Wd → Hp → α → β → Prop} {r : R α} {Q : α → Store → β → Hp → Wd → Prop} (p : PostG K G W σ rep r w H Q) (e : Ext w H w' H') : PostG K G W σ rep r w' H' Q := by
  cases r with
  | ok a S => exact fun b H2 w2 e2 st q => p b H2 w2 (e.trans e2) st q
  | exc x S => exact fun c d H2 w2 e2 st q => p c d H2 w2 (e.trans e2) st q
  | bad => exact p
theorem PostG.bind {α β α' β' : Type} {rep : Wd → Hp → α → β → Prop} {rep' : Wd → Hp → α' → β' → Prop} {r : R α} {f : α → Store → R α'} {Q : α → Store → β → Hp → Wd → Prop} {Q' : α' → Store → β' → Hp → Wd → Prop}
    (p : PostG K G W σ rep' (r.bind f) w H Q')
    (k : ∀ a S b H1 w1, r = .ok a S → Ext w H w1 H1 → RepSt K G w1 H1 S → rep w1 H1 a b → PostG K G W σ rep' (f a S) w1 H1 Q' → Q a S b H1 w1) : PostG K G W σ rep r w H Q := by
  cases r with
  | ok a S => exact fun b H1 w1 e st q => k a S b H1 w1 rfl e st q (PostG.ext (r := f a S) p e)
  | exc x S => exact p
  | bad => exact p
theorem PostG.mono {α β : Type} {rep : Wd → Hp → α → β → Prop} {r : R α} {Q Q' : α → Store → β → Hp → Wd → Prop} (p : PostG K G W σ rep r w H Q) (k : ∀ a S b H1 w1, Q a S b H1 w1 → Q' a S b H1 w1) : PostG K G W σ rep r w H Q' := by
  cases r with
  | ok a S => exact fun b H2 w2 e2 st q => k _ _ _ _ _ (p b H2 w2 e2 st q)
  | exc x S => exact p
  | bad => exact p
end
abbrev PV (K : PySem.W.Frag) (G : Gx) (W : WX) (σ : L2.St) := PostG (α := D) (β := V) K G W σ (Rep K G)
abbrev PVs (K : PySem.W.Frag) (G : Gx) (W : WX) (σ : L2.St) := PostG (α := List D) (β := List V) K G W σ (Reps K G)
def tE (K : PySem.W.Frag) (G : Gx) (cf : Cf) (W : WX) (i : IE) : TE := fun σ H Q =>
  ∃ env S w, Rel K G w σ H env S ∧ PV K G W σ (evE cf i env S) w H (fun _ _ v H' _ => Q v H')
def tEs (K : PySem.W.Frag) (G : Gx) (cf : Cf) (W : WX) (i : IEs) : TA := fun σ H Q =>
  ∃ env S w, Rel K G w σ H env S ∧ PVs K G W σ (evEs cf i env S) w H (fun _ _ v H' _ => Q v H')
/-- a test -/
def tTt (K : PySem.W.Frag) (G : Gx) (cf : Cf) (W : WX) (i : IE) : TT := fun σ H Q =>
  ∃ env S w, Rel K G w σ H env S ∧ PV K G W σ (evE cf i env S) w H (fun d S' _ H' _ => ∃ b, truth S' d = some b ∧ Q b H')
def tOo (K : PySem.W.Frag) (G : Gx) (cf : Cf) (W : WX) (i : IO) : TO := fun σ H Q =>
  ∃ env S w, Rel K G w σ H env S ∧ PostG K G W σ (fun _ _ (a b : Option Int) => a = b) (evO cf i env S) w H (fun _ _ v H' _ => Q v H')
def tCc (K : PySem.W.Frag) (G : Gx) (cf : Cf) (W : WX) (i : IO) : TT := fun σ H Q =>
  ∃ env S w, Rel K G w σ H env S ∧ PostG K G W σ (fun _ _ (a b : Bool) => a = b) (evC cf i env S) w H (fun _ _ v H' _ => Q v H')
theorem _root_.L2.PE.imp {X : Cx} {e : Expr} {t t' : TE} (h : PE X e t) (k : ∀ σ H Q, t' σ H Q → t σ H Q) : PE X e t' := ⟨fun pins s σ H Q I q => h.run pins s σ H Q I (k σ H Q q)⟩
theorem _root_.L2.PT.imp {X : Cx} {e : Expr} {t t' : TT} (h : PT X e t) (k : ∀ σ H Q, t' σ H Q → t σ H Q) : PT X e t' := ⟨fun pins s σ H Q I q => h.run pins s σ H Q I (k σ H Q q)⟩
theorem _root_.L2.PW.imp {X : Cx} {e : Expr} {t t' : TT} (h : PW X e t) (k : ∀ σ H Q, t' σ H Q → t σ H Q) : PW X e t' := ⟨fun wh pins s σ H Q I q => h.run wh pins s σ H Q I (k σ H Q q)⟩
theorem _root_.L2.PA.imp {X : Cx} {e : List Expr} {t t' : TA} (h : PA X e t) (k : ∀ σ H Q, t' σ H Q → t σ H Q) : PA X e t' := ⟨fun pos pins s σ H Q I q => h.run pos pins s σ H Q I (k σ H Q q)⟩
theorem _root_.L2.PS.imp {X : Cx} {e : Stmt} {t t' : TS} (h : PS X e t) (k : ∀ D σ H, t' D σ H → t D σ H) : PS X e t' := ⟨fun pins s σ H D I q => h.run pins s σ H D I (k D σ H q)⟩
theorem _root_.L2.PSs.imp {X : Cx} {e : List Stmt} {t t' : TS} (h : PSs X e t) (k : ∀ D σ H, t' D σ H → t D σ H) : PSs X e t' := ⟨fun pins s σ H D I q => h.run pins s σ H D I (k D σ H q)⟩
section
variable {X : Cx} {G : Gx} {cf : Cf} {W : WX} {a b d : Expr} {ia ib id : IE} {pos : Pos}
theorem pe_cst (x : Expr) (dd : D) (v : V) (h : PE X x (tC v)) (r : ∀ w H, Rep X.K G w H dd v) : PE X x (tE X.K G cf W (.cst dd)) :=
  h.imp fun σ H Q ⟨env, S, w, R, p⟩ => p v H w (Ext.refl _ _) R.st (r w H)
theorem pe_v {i : Nat} {x : Str} (hN : X.N[i]? = some x) (hv : Vis X.env.scope x) (hd : (x == ("__debug__" : Str)) = false) (hc : (x == ("__classdict__" : Str)) = false) : PE X (.Name x pos) (tE X.K G cf W (.var i)) :=
  (pe_var hN hv hd hc).imp fun σ H Q ⟨env, S, w, R, p⟩ => by
    simp only [evE] at p
    cases e : env[i]? with
    | none => rw [e] at p; exact p.elim
    | some o =>
      cases o with
      | none => rw [e] at p; exact p.elim
      | some dd =>
        rw [e] at p
        obtain ⟨v, e1, r1⟩ := R.en.get i dd e
        exact ⟨v, e1, p v H w (Ext.refl _ _) R.st r1⟩
/-- an operation by values within -/
theorem ans_of {K : PySem.W.Frag} {σ : L2.St} {w : Wd} {H : Hp} {S : Store} {o : Option D} {Q : VK} (p : PV K G W σ (ofO o S) w H (fun _ _ v H' _ => Q v H')) : ∃ dd, o = some dd ∧ Ans K G w H S dd Q := by
  cases o with
  | none => exact p.elim
  | some dd => exact ⟨dd, rfl, fun v H' e st r => p v H' w e st r⟩
theorem two_of {r : R2} {g : D → D → Store → Option D} {i : IE} (hop : ∀ x y H Q, rB X.K G g x y H Q → r x y H Q)
    (he : ∀ env S, evE cf i env S = (evE cf ia env S).bind fun x S1 => (evE cf ib env S1).bind fun y S2 => ofO (g x y S2) S2) :
    ∀ σ H Q, tE X.K G cf W i σ H Q → tOp r (tE X.K G cf W ia) (tE X.K G cf W ib) σ H Q := fun σ H Q ⟨env, S, w, R, p⟩ => by
  rw [he] at p
  refine ⟨env, S, w, R, p.bind fun d1 S1 v1 H1 w1 _ e1 st1 r1 p1 => ?_⟩
  refine ⟨env, S1, w1, R.ext e1 st1, p1.bind fun d2 S2 v2 H2 w2 _ e2 st2 r2 p2 => ?_⟩
  obtain ⟨dd, ed, A⟩ := ans_of p2
  exact hop _ _ _ _ ⟨d1, d2, dd, S2, w2, st2, r1.ext e2, r2, ed, A⟩
theorem pe_bin {op : Operator} (ha : PE X a (tE X.K G cf W ia)) (hb : PE X b (tE X.K G cf W ib)) : PE X (.BinOp a op b pos) (tE X.K G cf W (.bin op ia ib)) :=
  (pe_op (r := rB X.K G (binop op)) op_bin ha hb).imp (two_of (fun _ _ _ _ h => h) fun env S => by simp only [evE])
theorem pe_cmp1 {op : CmpOp} (hu : X.A.units + 65 < cLine) (ha : PE X a (tE X.K G cf W ia)) (hb : PE X b (tE X.K G cf W ib)) (hm : behindInMarks op b = false) : PE X (.Compare a [op] [b] pos) (tE X.K G cf W (.cmp op ia ib)) :=
  (pe_cmpR (r := rB X.K G (cmpop op)) (op_cmp hu) ha hb hm).imp (two_of (fun _ _ _ _ h => h) fun env S => by simp only [evE])
theorem cmpop_bl {op : CmpOp} {x y z : D} {S : Store} (h : cmpop op x y S = some z) : ∃ k, z = .bl k := by
  cases op <;> simp only [cmpop, Option.map_eq_some_iff] at h <;> (obtain ⟨k, _, e⟩ := h; exact ⟨_, e.symm⟩)
theorem pt_cmp1 {op : CmpOp} (hu : X.A.units + 65 < cLine) (ha : PE X a (tE X.K G cf W ia)) (hb : PE X b (tE X.K G cf W ib)) (hm : behindInMarks op b = false) : PT X (.Compare a [op] [b] pos) (tTt X.K G cf W (.cmp op ia ib)) := by
  refine (pt_cmpR (r := rB X.K G (cmpop op)) (op_cmp hu) ha hb hm).imp fun σ H Q ⟨env, S, w, R, p⟩ => ?_
  simp only [evE] at p
  refine ⟨env, S, w, R, p.bind fun d1 S1 v1 H1 w1 _ e1 st1 r1 p1 => ?_⟩
  refine ⟨env, S1, w1, R.ext e1 st1, p1.bind fun d2 S2 v2 H2 w2 _ e2 st2 r2 p2 => ?_⟩
  cases ez : cmpop op d1 d2 S2 with
  | none => rw [ez] at p2; exact p2.elim
  | some z =>
    rw [ez] at p2
    obtain ⟨k, rfl⟩ := cmpop_bl ez
    refine ⟨d1, d2, .bl k, S2, w2, st2, r1.ext e2, r2, ez, fun v H' e st r => ?_⟩
    obtain ⟨b', eb, q⟩ := p2 v H' w2 e st r
    cases r
    cases Option.some.inj eb
    exact ⟨_, rfl, q⟩
theorem chain_of {op op' : CmpOp} {Q : VK} {σ : L2.St} {H : Hp} (hp : tE X.K G cf W (.chain op op' ia ib id) σ H Q) :
    tChain (rB X.K G (cmpop op)) (rB X.K G (cmpop op')) (tE X.K G cf W ia) (tE X.K G cf W ib) (tE X.K G cf W id) σ H Q := by
  obtain ⟨env, S, w, R, p⟩ := hp
  simp only [evE] at p
  refine ⟨env, S, w, R, p.bind fun d1 S1 v1 H1 w1 _ e1 st1 r1 p1 => ?_⟩
  refine ⟨env, S1, w1, R.ext e1 st1, p1.bind fun d2 S2 v2 H2 w2 _ e2 st2 r2 p2 => ?_⟩
  cases ez : cmpop op d1 d2 S2 with
  | none => rw [ez] at p2; exact p2.elim
  | some z =>
    rw [ez] at p2
    obtain ⟨k, rfl⟩ := cmpop_bl ez
    refine ⟨d1, d2, .bl k, S2, w2, st2, r1.ext e2, r2, ez, fun v H3 e st r => ?_⟩
    cases r
    refine ⟨k, rfl, ?_⟩
    cases k with
    | false =>
      rw [if_neg Bool.false_ne_true]
      exact p2 _ H3 w2 e st (.bl _)
    | true =>
      rw [if_pos rfl]
      have p3 : PV X.K G W σ ((evE cf id env S2).bind fun w S4 => ofO (cmpop op' d2 w S4) S4) w2 H2 (fun _ _ v H' _ => Q v H') := p2
      refine ⟨env, S2, w2, (R.ext (e1.trans (e2.trans e)) st), (p3.ext e).bind fun d3 S3 v3 H4 w4 _ e3 st3 r3 p4 => ?_⟩
      obtain ⟨dd, ed, A⟩ := ans_of p4
      exact ⟨d2, d3, dd, S3, w4, st3, (r2.ext e).ext e3, r3, ed, A⟩
theorem pe_chain1 {op op' : CmpOp} (hu : X.A.units + 65 < cLine) (ha : PE X a (tE X.K G cf W ia)) (hb : PE X b (tE X.K G cf W ib)) (hd : PE X d (tE X.K G cf W id)) (hm : lastMarks [op, op'] [b, d] = false) :
    PE X (.Compare a [op, op'] [b, d] pos) (tE X.K G cf W (.chain op op' ia ib id)) :=
  (pe_chain (r := rB X.K G (cmpop op)) (r' := rB X.K G (cmpop op')) (op_cmp hu) (op_cmp hu) ha hb hd hm).imp fun _ _ _ h => chain_of h
theorem pt_chain1 {op op' : CmpOp} (hu : X.A.units + 65 < cLine) (ha : PE X a (tE X.K G cf W ia)) (hb : PE X b (tE X.K G cf W ib)) (hd : PE X d (tE X.K G cf W id)) (hm : lastMarks [op, op'] [b, d] = false) :
    PT X (.Compare a [op, op'] [b, d] pos) (tTt X.K G cf W (.chain op op' ia ib id)) := by
  refine (pt_chain (r := rB X.K G (cmpop op)) (r' := rB X.K G (cmpop op')) (op_cmp hu) (op_cmp hu) ha hb hd hm).imp fun σ H Q h => ?_
  refine chain_of ?_
  obtain ⟨env, S, w, R, p⟩ := h
  refine ⟨env, S, w, R, ?_⟩
  have key : ∀ r : Ev.R D, (∀ dd S', r = .ok dd S' → ∃ k, dd = .bl k) → PV X.K G W σ r w H (fun d S' _ H' _ => ∃ b, truth S' d = some b ∧ Q b H') → PV X.K G W σ r w H (fun _ _ v H' _ => ∃ k, v = .bl k ∧ Q k H') := by
    intro r hr hp
    cases r with
    | ok dd S' =>
      obtain ⟨k, rfl⟩ := hr dd S' rfl
      intro v H' w' e st rv
      obtain ⟨b', eb, q⟩ := hp v H' w' e st rv
      cases rv
      cases Option.some.inj eb
      exact ⟨_, rfl, q⟩
    | exc x S' => exact hp
    | bad => exact hp
  refine key _ (fun dd S' h => ?_) p
  simp only [evE] at h
  cases h1 : evE cf ia env S with
  | ok d1 S1 =>
    rw [h1] at h
    simp only [Ev.R.bind] at h
    cases h2 : evE cf ib env S1 with
    | ok d2 S2 =>
      rw [h2] at h
      simp only [Ev.R.bind] at h
      cases ez : cmpop op d1 d2 S2 with
      | none => rw [ez] at h; cases h
      | some z =>
        rw [ez] at h
        obtain ⟨k, rfl⟩ := cmpop_bl ez
        cases k with
        | false => cases h; exact ⟨_, rfl⟩
        | true =>
          simp only at h
          cases h3 : evE cf id env S2 with
          | ok d3 S3 =>
            rw [h3] at h
            simp only [Ev.R.bind] at h
            cases ey : cmpop op' d2 d3 S3 with
            | none => rw [ey] at h; cases h
            | some y =>
              rw [ey] at h
              cases h
              exact cmpop_bl ey
          | exc x S3 => rw [h3] at h; cases h
          | bad => rw [h3] at h; cases h
    | exc x S2 => rw [h2] at h; cases h
    | bad => rw [h2] at h; cases h
  | exc x S1 => rw [h1] at h; cases h
  | bad => rw [h1] at h; cases h
/-! ### truth, not, and, or, if -/
theorem pt_plain {e : Expr} (he : PE X e (tE X.K G cf W ia)) (hp : ∀ whole, isTrue e X.env whole = (do let v ← whole; standAt e.pos; holding [v] (truthy v))) : PT X e (tTt X.K G cf W ia) := by
  refine ⟨fun pins s σ H Q I ⟨env, S, w, R, p⟩ => ?_⟩
  refine isTrue_plain (thn (he.run pins s σ H (fun v H' => ∃ b, TruV X.K v H' b ∧ Q b H') I ⟨env, S, w, R, ?_⟩) fun v s1 ⟨x, H1, I1, r1, q1⟩ => ?_) (hp _)
  · cases h : evE cf ia env S with
    | ok dd S' =>
      rw [h] at p
      intro v H' w' e st rv
      obtain ⟨b, eb, q⟩ := p v H' w' e st rv
      exact ⟨b, tru_of st rv eb, q⟩
    | exc x S' => rw [h] at p; exact p
    | bad => rw [h] at p; exact p
  · obtain ⟨k, e1, q1⟩ := q1
    exact tru_ok pins s1 σ H1 x v Q I1 r1 ⟨k, e1, q1⟩
theorem pe_nott (ha : PE X a (tE X.K G cf W ia)) : PE X (.UnaryOp .Not a pos) (tE X.K G cf W (.notE ia)) := by
  refine (pe_notT ha).imp fun σ H Q ⟨env, S, w, R, p⟩ => ?_
  simp only [evE] at p
  refine ⟨env, S, w, R, p.bind fun d1 S1 v1 H1 w1 _ e1 st1 r1 p1 => ?_⟩
  cases et : truth S1 d1 with
  | none => rw [et] at p1; exact p1.elim
  | some k =>
    rw [et] at p1
    exact ⟨k, tru_of st1 r1 et, p1 _ H1 w1 (Ext.refl _ _) st1 (.bl _)⟩
theorem pt_nott (ha : PT X a (tTt X.K G cf W ia)) : PT X (.UnaryOp .Not a pos) (tTt X.K G cf W (.notE ia)) := by
  refine (pt_not ha).imp fun σ H Q ⟨env, S, w, R, p⟩ => ?_
  simp only [evE] at p
  refine ⟨env, S, w, R, p.bind fun d1 S1 v1 H1 w1 _ e1 st1 r1 p1 => ?_⟩
  cases et : truth S1 d1 with
  | none => rw [et] at p1; exact p1.elim
  | some k =>
    rw [et] at p1
    obtain ⟨b', eb, q⟩ := p1 _ H1 w1 (Ext.refl _ _) st1 (.bl _)
    cases Option.some.inj eb
    exact ⟨k, rfl, q⟩
variable {rest : List Expr}
theorem pe_and2 (ha : PE X a (tE X.K G cf W ia)) (hb : PE X (.BoolOp .And (b :: rest) pos) (tE X.K G cf W ib)) : PE X (.BoolOp .And (a :: b :: rest) pos) (tE X.K G cf W (.andE ia ib)) := by
  refine (pe_andT ha hb).imp fun σ H Q ⟨env, S, w, R, p⟩ => ?_
  simp only [evE] at p
  refine ⟨env, S, w, R, p.bind fun d1 S1 v1 H1 w1 _ e1 st1 r1 p1 => ?_⟩
  cases et : truth S1 d1 with
  | none => rw [et] at p1; exact p1.elim
  | some k =>
    rw [et] at p1
    refine ⟨k, tru_of st1 r1 et, ?_⟩
    cases k with
    | true => rw [if_pos rfl]; exact ⟨env, S1, w1, R.ext e1 st1, p1⟩
    | false => rw [if_neg Bool.false_ne_true]; exact p1 v1 H1 w1 (Ext.refl _ _) st1 r1
theorem pe_or2 (ha : PE X a (tE X.K G cf W ia)) (hb : PE X (.BoolOp .Or (b :: rest) pos) (tE X.K G cf W ib)) : PE X (.BoolOp .Or (a :: b :: rest) pos) (tE X.K G cf W (.orE ia ib)) := by
  refine (pe_orT ha hb).imp fun σ H Q ⟨env, S, w, R, p⟩ => ?_
  simp only [evE] at p
  refine ⟨env, S, w, R, p.bind fun d1 S1 v1 H1 w1 _ e1 st1 r1 p1 => ?_⟩
  cases et : truth S1 d1 with
  | none => rw [et] at p1; exact p1.elim
  | some k =>
    rw [et] at p1
    refine ⟨k, tru_of st1 r1 et, ?_⟩
    cases k with
    | false => rw [if_neg Bool.false_ne_true]; exact ⟨env, S1, w1, R.ext e1 st1, p1⟩
    | true => rw [if_pos rfl]; exact p1 v1 H1 w1 (Ext.refl _ _) st1 r1
theorem pw_and2 (ha : PT X a (tTt X.K G cf W ia)) (hb : PW X (.BoolOp .And (b :: rest) pos) (tTt X.K G cf W ib)) : PW X (.BoolOp .And (a :: b :: rest) pos) (tTt X.K G cf W (.andE ia ib)) := by
  refine (pw_and ha hb).imp fun σ H Q ⟨env, S, w, R, p⟩ => ?_
  simp only [evE] at p
  refine ⟨env, S, w, R, p.bind fun d1 S1 v1 H1 w1 _ e1 st1 r1 p1 => ?_⟩
  cases et : truth S1 d1 with
  | none => rw [et] at p1; exact p1.elim
  | some k =>
    rw [et] at p1
    refine ⟨k, rfl, ?_⟩
    cases k with
    | true => rw [if_pos rfl]; exact ⟨env, S1, w1, R.ext e1 st1, p1⟩
    | false =>
      rw [if_neg Bool.false_ne_true]
      obtain ⟨b', eb, q⟩ := p1 v1 H1 w1 (Ext.refl _ _) st1 r1
      rw [et] at eb
      cases Option.some.inj eb
      exact q
theorem pw_or2 (ha : PT X a (tTt X.K G cf W ia)) (hb : PW X (.BoolOp .Or (b :: rest) pos) (tTt X.K G cf W ib)) : PW X (.BoolOp .Or (a :: b :: rest) pos) (tTt X.K G cf W (.orE ia ib)) := by
  refine (pw_or ha hb).imp fun σ H Q ⟨env, S, w, R, p⟩ => ?_
  simp only [evE] at p
  refine ⟨env, S, w, R, p.bind fun d1 S1 v1 H1 w1 _ e1 st1 r1 p1 => ?_⟩
  cases et : truth S1 d1 with
  | none => rw [et] at p1; exact p1.elim
  | some k =>
    rw [et] at p1
    refine ⟨k, rfl, ?_⟩
    cases k with
    | false => rw [if_neg Bool.false_ne_true]; exact ⟨env, S1, w1, R.ext e1 st1, p1⟩
    | true =>
      rw [if_pos rfl]
      obtain ⟨b', eb, q⟩ := p1 v1 H1 w1 (Ext.refl _ _) st1 r1
      rw [et] at eb
      cases Option.some.inj eb
      exact q
theorem pe_ite {t : Expr} {it : IE} (ht : PT X t (tTt X.K G cf W it)) (ha : PE X a (tE X.K G cf W ia)) (hb : PE X b (tE X.K G cf W ib)) : PE X (.IfExp t a b pos) (tE X.K G cf W (.ite it ia ib)) := by
  refine (pe_ifExp ht ha hb).imp fun σ H Q ⟨env, S, w, R, p⟩ => ?_
  simp only [evE] at p
  refine ⟨env, S, w, R, p.bind fun d1 S1 v1 H1 w1 _ e1 st1 r1 p1 => ?_⟩
  cases et : truth S1 d1 with
  | none => rw [et] at p1; exact p1.elim
  | some k =>
    rw [et] at p1
    refine ⟨k, rfl, ?_⟩
    cases k with
    | true => rw [if_pos rfl]; exact ⟨env, S1, w1, R.ext e1 st1, p1⟩
    | false => rw [if_neg Bool.false_ne_true]; exact ⟨env, S1, w1, R.ext e1 st1, p1⟩
theorem pe_neg1 (ha : PE X a (tE X.K G cf W ia)) : PE X (.UnaryOp .USub a pos) (tE X.K G cf W (.neg ia)) := by
  refine (pe_un un_neg ha).imp fun σ H Q ⟨env, S, w, R, p⟩ => ?_
  simp only [evE] at p
  refine ⟨env, S, w, R, p.bind fun d1 S1 v1 H1 w1 _ e1 st1 r1 p1 => ?_⟩
  cases d1 with
  | int i =>
    cases r1
    exact ⟨i, rfl, p1 _ H1 w1 (Ext.refl _ _) st1 (.int _)⟩
  | _ => exact p1.elim
/-! ### argument lists, displays, subscripts -/
variable {e : Expr} {es : List Expr} {ie : IE} {is : IEs}
theorem pa_nil1 : PA X [] (tEs X.K G cf W .nil) := pa_nil.imp fun σ H Q ⟨env, S, w, R, p⟩ => p [] H w (Ext.refl _ _) R.st .nil
theorem pa_cons1 (ha : PE X e (tE X.K G cf W ie)) (hr : PA X es (tEs X.K G cf W is)) (hs : starEach (e :: es) X.env = (false, eval e X.env) :: starEach es X.env) : PA X (e :: es) (tEs X.K G cf W (.cons ie is)) :=
  (pa_cons ha hr hs).imp fun σ H Q ⟨env, S, w, R, p⟩ => by
    simp only [evEs] at p
    refine ⟨env, S, w, R, p.bind fun d1 S1 v1 H1 w1 _ e1 st1 r1 p1 => ?_⟩
    refine ⟨env, S1, w1, R.ext e1 st1, p1.bind fun d2 S2 v2 H2 w2 _ e2 st2 r2 p2 => ?_⟩
    exact p2 (v1 :: v2) H2 w2 (Ext.refl _ _) st2 (.cons (r1.ext e2) r2)
theorem pe_tup1 {k : Nat} (h : PA X es (tEs X.K G cf W is)) : PE X (.Tuple es k pos) (tE X.K G cf W (.tupE is)) := by
  refine (pe_tup h).imp fun σ H Q ⟨env, S, w, R, p⟩ => ?_
  simp only [evE] at p
  refine ⟨env, S, w, R, p.bind fun ds S1 vs H1 w1 _ e1 st1 r1 p1 => ?_⟩
  split at p1
  · rename_i hz
    refine ⟨by rw [← r1.length]; exact small_of hz, fun q hq => ?_⟩
    exact p1 _ _ w1 (Ext.laid hq) (st1.laid hq) (tup_new st1 hq r1)
  · exact p1.elim
/-- a new list: data, or a cell -/
theorem mk_new {K : PySem.W.Frag} {σ : L2.St} {w : Wd} {H : Hp} {mu : Bool} {ds : List D} {S : Store} {vs : List V} {Q : VK} (p : PV K G W σ (mkL mu ds S) w H (fun _ _ v H' _ => Q v H')) (st : RepSt K G w H S) (r : Reps K G w H ds vs) (q : Addr) (hq : H q = none) : Q (.ref q) (upd H q (.lst vs)) := by
  unfold mkL at p
  cases mu with
  | false => exact p _ _ w (Ext.laid hq) (st.laid hq) (lst_new st hq r)
  | true =>
    simp only [if_true] at p
    split at p
    · rename_i hc
      refine p _ _ ⟨w.lo ++ [q], w.hi⟩ (ext_cell st hq) (st.new hq hc r) (.ref ?_)
      show (w.lo ++ [q])[S.length]? = some q
      rw [← st.len, List.getElem?_append_right (Nat.le_refl _)]
      simp
    · exact p.elim
/-- two lists behind one another: a cell of its own -/
def rCat (K : PySem.W.Frag) (G : Gx) : R2 := fun x y H Q => ∃ d1 d2 ds S w, RepSt K G w H S ∧ Rep K G w H d1 x ∧ Rep K G w H d2 y ∧ (∃ a b, itemsT S d1 = some a ∧ itemsT S d2 = some b ∧ small (a.length + b.length) = true ∧ ds = a ++ b) ∧
  ∀ (vs : List V) (p : Addr), H p = none → Reps K G w H ds vs → Q (.ref p) (upd H p (.lst vs))
theorem op_cat2 : OpR X (binaryOp .Add) (rCat X.K G) := by
  rintro pins s σ H x y v u Q I rx ry ⟨d1, d2, ds, S, w, st, r1, r2, ⟨a, b, ea, eb, hz, rfl⟩, q⟩
  obtain ⟨p1, vs, rfl, e1, q1⟩ := own_of st r1 ea
  obtain ⟨p2, us, rfl, e2, q2⟩ := own_of st r2 eb
  exact op_cat pins s σ H _ _ v u Q I rx ry ⟨_, _, vs, us, rfl, rfl, e1, e2, by rw [← q1.length, ← q2.length]; exact small_of hz, fun p hp => q _ p hp (q1.append q2)⟩
theorem pe_cat1 {a b : Expr} {ia ib : IE} {pos : Pos} (ha : PE X a (tE X.K G cf W ia)) (hb : PE X b (tE X.K G cf W ib)) : PE X (.BinOp a .Add b pos) (tE X.K G cf W (.lzip ia ib)) :=
  (pe_op (r := rCat X.K G) op_cat2 ha hb).imp fun σ H Q ⟨env, S, w, R, p⟩ => by
    simp only [evE] at p
    refine ⟨env, S, w, R, p.bind fun d1 S1 v1 H1 w1 _ e1 st1 r1 p1 => ?_⟩
    refine ⟨env, S1, w1, R.ext e1 st1, p1.bind fun d2 S2 v2 H2 w2 _ e2 st2 r2 p2 => ?_⟩
    split at p2
    · rename_i xs ys ex ey
      split at p2
      · rename_i hz
        exact ⟨d1, d2, _, S2, w2, st2, r1.ext e2, r2, ⟨xs, ys, ex, ey, hz, rfl⟩, fun vs p hp rr => mk_new (mu := true) p2 st2 rr p hp⟩
      · exact p2.elim
    · exact p2.elim
theorem op_add_of {op : Operator} (h : (op == .Add) = true) : op = .Add := by cases op <;> first | rfl | cases h
theorem pe_lst1 {mu : Bool} (h : PA X es (tEs X.K G cf W is)) : PE X (.List es pos) (tE X.K G cf W (.lstE mu is)) := by
  refine (pe_lst h).imp fun σ H Q ⟨env, S, w, R, p⟩ => ?_
  simp only [evE] at p
  refine ⟨env, S, w, R, p.bind fun ds S1 vs H1 w1 _ e1 st1 r1 p1 => ?_⟩
  split at p1
  · rename_i hz
    exact ⟨by rw [← r1.length]; exact small_of hz, fun q hq => mk_new p1 st1 r1 q hq⟩
  · exact p1.elim
/-- xs[lo:hi:step], xs a list -/
theorem reps_pick {K : PySem.W.Frag} {w : Wd} {H : Hp} {ds : List D} {vs : List V} (r : Reps K G w H ds vs) : ∀ is : List Nat, Reps K G w H (is.filterMap fun i => ds[i]?) (is.filterMap fun i => vs[i]?)
  | [] => .nil
  | i :: is => by
    cases e : ds[i]? with
    | none =>
      rw [List.filterMap_cons, List.filterMap_cons, e, r.get_none e]
      exact reps_pick r is
    | some d =>
      obtain ⟨v, e2, q⟩ := r.get e
      rw [List.filterMap_cons, List.filterMap_cons, e, e2]
      exact .cons q (reps_pick r is)
theorem vals_pick {vs : List V} {us : List Value} (r : Vals vs us) : ∀ is : List Nat, Vals (is.filterMap fun i => vs[i]?) (is.filterMap fun i => us[i]?)
  | [] => .nil
  | i :: is => by
    cases e : vs[i]? with
    | none =>
      have e2 : us[i]? = none := by
        rw [List.getElem?_eq_none_iff] at e ⊢
        rw [← r.length]; exact e
      rw [List.filterMap_cons, List.filterMap_cons, e, e2]
      exact vals_pick r is
    | some d =>
      obtain ⟨v, e2, q⟩ := r.get e
      rw [List.filterMap_cons, List.filterMap_cons, e, e2]
      exact .cons q (vals_pick r is)
theorem pick_len (xs : List Value) (lo hi : Option Int) (c : Int) : (pickD xs lo hi c).length ≤ (PySem.slicePick xs.toArray lo hi (some c)).size := by
  unfold pickD PySem.slicePick
  simp
theorem pe_slice3 {e st : Expr} {te : TE} {lo hi : Option Expr} {tl th ts : TO} {p2 : Pos} (he : PE X e te) (hl : PO X lo tl) (hu : PO X hi th) (hs : PO X (some st) ts) :
    PE X (.Subscript e (.Slice lo hi (some st) p2) pos) (fun σ H Q => te σ H fun x H1 => tl σ H1 fun l H2 => th σ H2 fun u H3 => ts σ H3 fun c H4 => ∃ a xs k, x = .ref a ∧ c = some k ∧ k ≠ 0 ∧ ((SqL X.K H4 a xs ∧ ∀ p, H4 p = none → Q (.ref p) (upd H4 p (.lst (pickD xs l u k)))) ∨ (k ≠ 1 ∧ SqT X.K H4 a xs ∧ (EvZm.pickT xs l u k).length ≤ sizeLine ∧ ∀ p, H4 p = none → Q (.ref p) (upd H4 p (.tup (EvZm.pickT xs l u k)))))) := by
  refine ⟨fun pins s σ H Q I h => ?_⟩
  refine PyProof.Rows.Subscript_ (thn (he.run pins s σ H _ I h) fun v s1 ⟨x, H1, I1, r1, q1⟩ => ?_)
  refine wpAny_Slice (thn (hl.run pins s1 σ H1 _ I1 q1) fun vl s2 ⟨l, H2, I2, pl, q2⟩ => thn (hu.run pins s2 σ H2 _ I2 q2) fun vu s3 ⟨u, H3, I3, pu, q3⟩ => thn (hs.run pins s3 σ H3 _ I3 q3) fun vs s4 ⟨c, H4, I4, pc, q4⟩ => ?_)
  · obtain ⟨a, xs, k, rfl, rfl, hk, hq4⟩ := q4
    cases r1
    have I5 : L2.Inv X pins σ H4 { s4 with heap := s4.heap.push { cls := .type "slice", data := .fields #[vl, vu, vs] } } := I4.kept (t' := s4.toks) fun b ob q => Heap.get?_push_of_some _ q
    rcases hq4 with ⟨hx, q⟩ | ⟨h1, hx, hlt, q⟩
    · obtain ⟨its, r, ht, hz⟩ := I5.list hx
      have hlen := r.length
      show wpAny (model X.prog X.w) X.A (subscriptTail e (.Slice lo hi (some st) p2) (.ref a) (.ref s4.heap.objs.size)) (EP X pins σ Q) X.xe { s4 with heap := s4.heap.push { cls := .type "slice", data := .fields #[vl, vu, vs] } }
      refine tail_any (ops := [.ref a, .ref s4.heap.objs.size]) ht.isList.typeIs slot_list_getitem.lookup ?_ (by with_unfolding_all rfl)
      refine wpAny_getItem_list_slice ht.isList (Heap.IsSliceOf.new ..) pl pu pc (by simpa using hk) ?_ (by rw [List.size_toArray] <;> omega)
      refine ⟨.ref _, _, I5.laid (t' := s4.toks) (o := .lst (pickD xs l u k)) (fun b ob q => Heap.get?_push_of_some _ q) (Nat.le_refl _) ?_, rfl, q _ (I5.hok.fresh (Nat.le_refl _))⟩
      have ep : PySem.slicePick its.toArray l u (some k) = (pickD its l u k).toArray := by
        unfold PySem.slicePick pickD
        simp
      rw [ep]
      have hv : Vals (pickD xs l u k) (pickD its l u k) := by
        unfold pickD
        rw [hlen]
        exact vals_pick r _
      refine ⟨?_, _, 0, hv, Heap.get?_push_size _ rfl⟩
      rw [hv.length]
      refine Nat.le_trans (pick_len its l u k) (Nat.le_trans (PySem.slicePick_size_le _ _ _ _) ?_)
      rw [List.size_toArray, ← hlen]; exact hz
    · obtain ⟨its, r, ht, hz⟩ := I5.tuple hx
      have hlen := r.length
      show wpAny (model X.prog X.w) X.A (subscriptTail e (.Slice lo hi (some st) p2) (.ref a) (.ref s4.heap.objs.size)) (EP X pins σ Q) X.xe { s4 with heap := s4.heap.push { cls := .type "slice", data := .fields #[vl, vu, vs] } }
      refine tail_any (ops := [.ref a, .ref s4.heap.objs.size]) ht.typeIs PyProof.Rows.slot_tuple_getitem.lookup ?_ (by with_unfolding_all rfl)
      have hv : Vals (EvZm.pickT xs l u k) (EvZm.pickT its l u k) := by
        have key : ∀ {α : Type} (zs : List α), EvZm.pickT zs l u k = ((List.range (Builtin.Slice.slicePlaces (Builtin.Slice.sliceAdjust l u k (zs.length : Int)).1 (Builtin.Slice.sliceAdjust l u k (zs.length : Int)).2 k)).map fun (m : Nat) => ((Builtin.Slice.sliceAdjust l u k (zs.length : Int)).1 + (m : Int) * k).toNat).filterMap fun i => zs[i]? := fun zs => by
          unfold EvZm.pickT
          rw [List.filterMap_map]; rfl
        rw [key, key, hlen]
        exact vals_pick r _
      refine EvZm.step_ ht (Heap.IsSliceOf.new ..) pl pu pc hk h1 ?_ (by rw [List.toList_toArray, ← hv.length]; exact hlt)
      rw [List.toList_toArray]
      refine ⟨.ref _, _, I5.laid (t' := s4.toks) (o := .tup (EvZm.pickT xs l u k)) (fun b ob q => Heap.get?_push_of_some _ q) (Nat.le_refl _) ?_, rfl, q _ (I5.hok.fresh (Nat.le_refl _))⟩
      exact ⟨hlt, _, hv, ⟨_, Heap.get?_push_size _ rfl, rfl, _, rfl⟩⟩
theorem pe_ix1 (hu : X.A.units + 65 < cLine) (ha : PE X a (tE X.K G cf W ia)) (hb : PE X b (tE X.K G cf W ib)) (hs : PlainIx b) : PE X (.Subscript a b pos) (tE X.K G cf W (.ix ia ib)) :=
  (pe_ix (ix_ok hu) ha hb hs).imp (two_of (g := fun x y S => ixD S x y) (fun _ _ _ _ h => h) fun env S => by simp only [evE])
theorem po_none1 : PO X none (tOo X.K G cf W .none) := ⟨fun pins s σ H Q I ⟨env, S, w, R, p⟩ => po_none.run pins s σ H Q I (p none H w (Ext.refl _ _) R.st rfl)⟩
theorem po_some1 (h : PE X e (tE X.K G cf W ie)) : PO X (some e) (tOo X.K G cf W (.some ie)) := ⟨fun pins s σ H Q I ⟨env, S, w, R, p⟩ => (po_some h).run pins s σ H Q I (by
  simp only [evO] at p
  refine ⟨env, S, w, R, p.bind fun d1 S1 v1 H1 w1 _ e1 st1 r1 p1 => ?_⟩
  cases d1 with
  | int i => cases r1; exact ⟨i, rfl, p1 _ H1 w1 (Ext.refl _ _) st1 rfl⟩
  | _ => exact p1.elim)⟩
theorem pe_sl1 {lo hi : Option Expr} {il ih : IO} {p2 : Pos} (ha : PE X a (tE X.K G cf W ia)) (hl : PO X lo (tOo X.K G cf W il)) (hh : PO X hi (tOo X.K G cf W ih)) : PE X (.Subscript a (.Slice lo hi none p2) pos) (tE X.K G cf W (.sl ia il ih)) := by
  refine (pe_slice (r := rS X.K G) sl_ok ha hl hh).imp fun σ H Q ⟨env, S, w, R, p⟩ => ?_
  simp only [evE] at p
  refine ⟨env, S, w, R, p.bind fun d1 S1 v1 H1 w1 _ e1 st1 r1 p1 => ?_⟩
  refine ⟨env, S1, w1, R.ext e1 st1, p1.bind fun l S2 l' H2 w2 _ e2 st2 r2 p2 => ?_⟩
  subst r2
  refine ⟨env, S2, w2, R.ext (e1.trans e2) st2, p2.bind fun h S3 h' H3 w3 _ e3 st3 r3 p3 => ?_⟩
  subst r3
  obtain ⟨dd, ed, A⟩ := ans_of p3
  exact ⟨d1, dd, S3, w3, st3, (r1.ext e2).ext e3, ed, A⟩
theorem pe_sl31 {st : Expr} {lo hi : Option Expr} {il ih is : IO} {p2 : Pos} (ha : PE X a (tE X.K G cf W ia)) (hl : PO X lo (tOo X.K G cf W il)) (hh : PO X hi (tOo X.K G cf W ih)) (hs : PO X (some st) (tOo X.K G cf W is)) : PE X (.Subscript a (.Slice lo hi (some st) p2) pos) (tE X.K G cf W (.sl3 ia il ih is)) := by
  refine (pe_slice3 ha hl hh hs).imp fun σ H Q ⟨env, S, w, R, p⟩ => ?_
  simp only [evE] at p
  refine ⟨env, S, w, R, p.bind fun d1 S1 v1 H1 w1 _ e1 st1 r1 p1 => ?_⟩
  refine ⟨env, S1, w1, R.ext e1 st1, p1.bind fun l S2 l' H2 w2 _ e2 st2 r2 p2 => ?_⟩
  subst r2
  refine ⟨env, S2, w2, R.ext (e1.trans e2) st2, p2.bind fun h S3 h' H3 w3 _ e3 st3 r3 p3 => ?_⟩
  subst r3
  refine ⟨env, S3, w3, R.ext (e1.trans (e2.trans e3)) st3, p3.bind fun k S4 k' H4 w4 _ e4 st4 r4 p4 => ?_⟩
  subst r4
  cases k with
  | none => exact p4.elim
  | some k =>
    simp only at p4
    obtain ⟨dd, ed, A⟩ := ans_of p4
    unfold sl3D at ed
    split at ed
    · rename_i hk
      by_cases htp : ∃ xs, d1 = .tup xs
      · obtain ⟨xs, rfl⟩ := htp
        simp only at ed
        split at ed
        · rename_i h1
          cases Option.some.inj ed
          simp only [Bool.and_eq_true] at h1
          cases (((r1.ext e2).ext e3).ext e4) with
          | @tup ta tvs _ hsq rs o =>
            have rp : Reps X.K G w4 H4 (EvZm.pickT xs l h k) (EvZm.pickT tvs l h k) := by
              have key : ∀ {α : Type} (zs : List α), EvZm.pickT zs l h k = ((List.range (Builtin.Slice.slicePlaces (Builtin.Slice.sliceAdjust l h k (zs.length : Int)).1 (Builtin.Slice.sliceAdjust l h k (zs.length : Int)).2 k)).map fun (m : Nat) => ((Builtin.Slice.sliceAdjust l h k (zs.length : Int)).1 + (m : Int) * k).toNat).filterMap fun i => zs[i]? := fun zs => by
                unfold EvZm.pickT
                rw [List.filterMap_map]; rfl
              rw [key, key, rs.length]
              exact reps_pick rs _
            exact ⟨_, _, k, rfl, rfl, of_decide_eq_true hk, .inr ⟨of_decide_eq_true h1.1, hsq.sq, by rw [← rp.length]; exact small_of h1.2, fun q hq' => A.tup st4 rp q hq'⟩⟩
        · cases ed
      · have ed' : (itemsL S4 d1).map (fun xs => D.lst (pickD xs l h k)) = some dd := by
          cases d1 <;> first
            | exact ed
            | exact absurd ⟨_, rfl⟩ htp
        clear ed
        cases ei : itemsL S4 d1 with
        | none => rw [ei] at ed'; cases ed'
        | some ds =>
          rw [ei] at ed'
          cases Option.some.inj ed'
          obtain ⟨b, vs, rfl, hq, rs⟩ := lst_of st4 (((r1.ext e2).ext e3).ext e4) ei
          refine ⟨b, vs, k, rfl, rfl, of_decide_eq_true hk, .inl ⟨hq, fun q hq' => ?_⟩⟩
          have rp : Reps X.K G w4 H4 (pickD ds l h k) (pickD vs l h k) := by
            unfold pickD
            rw [rs.length]
            exact reps_pick rs _
          exact A.lst st4 rp q hq'
    · cases ed
end
end Ev
/-! Ev, part G: calls, built-ins, methods, comprehensions, what is walked. -/
namespace Ev
open PySem PySem.Spec PyProof.Rows L2
/-- a def's promise where no repr is under way -/
structure FnG (gd : Prop) (P : Program) (wd : World) (K : PySem.W.Frag) (mg : Str → Option Value) (base : Heap) (k : Nat) (f : Addr) (fd : FuncData) (ps : List Str) (sp : Sp) : Prop where
  len : ∀ vs H Q E, sp vs H Q E → vs.length = ps.length
  run : ∀ (A : Around) (outer : List Env) (s : Shared) (H : Hp) (args : Args) (us : List Value) (vs : List V) (Q : VK) (E : XK), Room k A → (gd → A.guards = some []) → Env0 P wd K mg base A outer s H → BindsTo s fd args (ps.zip us) →
    Vals vs us → sp vs H Q E → codeAny (model P wd) A (.call (.ref f) args) (CR (L2.CX P wd) outer P wd H s Q E) s
/-- the body keeps the promise -/
theorem fnG_of {gd : Prop} {P : Program} {wd : World} {K : PySem.W.Frag} {mg : Str → Option Value} {base : Heap} {k : Nat} {f : Addr} {x qual : Str} {params : Arguments} {body : List Stmt} {scope : Scope} {dvs : List V} {kws : List (Str × V)} {fd : FuncData}
    {N ps : List Str} {sp : Sp} (F : FunD K x qual params body scope dvs kws f fd) (S : FnScope N ps scope) (len : ∀ vs H Q E, sp vs H Q E → vs.length = ps.length)
    (hbody : ∀ (cdv : Value) (A : Around) (outer : List Env) (s : Shared) (H : Hp) (vs : List V) (Q : VK) (E : XK), fd.code = cdv → Room k (A.deeper (envOfC qual scope s.heap.objs.size f cdv)) → (gd → A.guards = some []) → sp vs H Q E →
      ∃ t, PSs (cxOf (L2.CX P wd) P wd K mg base N qual scope f cdv A outer s H E) body t ∧ t { nx := fun _ H' => Q .non H', rt := Q } (start N vs) H) :
    FnG gd P wd K mg base (k + 1) f fd ps sp := by
  obtain ⟨oc, od, dV, kV, doc, pm, an, cdv, ct, osl, rfl, lk, hcd, _, _⟩ := F.ex
  refine ⟨len, fun A outer s H args us vs Q E hr hgu e0 hb r hsp => ?_⟩
  have hlv := len _ _ _ _ hsp
  have KX : K.In s.heap := e0.mod.kin.keeps fun b o e => (e0.bs b o e).1
  have kinds : ∀ z ∈ ps.zip us, scope.names.lookup z.1 = some .local ∨ (scope.names.lookup z.1 = some .cell ∧ ((cellsFrom (s.heap.objs.size + 1) scope.names []).lookup z.1).isSome = true) := by
    rintro ⟨n, v⟩ hz
    rcases S.par n (List.of_mem_zip hz).1 with q | q
    · exact .inl q
    · exact .inr ⟨q, PySem.W.cellsFrom_some _ _ _ (.inl q)⟩
  refine codeAny_call_function hr.depth (KX _ _ lk) rfl S.co S.gen rfl (PySem.W.codeRec_of KX hcd) (hb _ _ _ _ ?_)
  refine wpAny_newFunctionEnv_cells S.kind kinds fun env he s1 y => ?_
  subst he
  have limit : s.heap.NoLimit := e0.mod.nolimit.keeps fun b o e => (e0.bs b o e).1
  refine ⟨limit.keeps y.toInCall.keep, codeAny_func ?_⟩
  obtain ⟨t, ht, hq⟩ := hbody cdv A outer s H vs Q E rfl (hr.deeper _) hgu hsp
  have J := inv_start (CX := L2.CX P wd) (E := E) S hr.hd e0 hlv r y
  refine wpAny_mono (ht.run [] s1 (start N vs) H _ J hq) (fun fl s' hs => ?_) fun e s' hs => hs
  have ends : ∀ {σ' : L2.St} {H' : Hp} {v : V} {u : Value}, L2.Inv (cxOf (L2.CX P wd) P wd K mg base N qual scope f cdv A outer s H E) [] σ' H' s' → RelV v u → Q v H' → CE outer P wd H s Q u s' := by
    intro σ' H' v u J' rv q
    exact ⟨v, H', J'.os, J'.bare, J'.base, J'.hok, rv, q⟩
  cases fl with
  | ret u =>
    obtain ⟨v, σ', H', J', rv, q⟩ := hs
    exact ends J' rv q
  | next =>
    obtain ⟨σ', H', J', q⟩ := hs
    exact ends (v := V.non) (u := Value.none) J' rfl q
  | brk =>
    obtain ⟨_, _, _, q⟩ := hs
    exact q.elim
  | cont =>
    obtain ⟨_, _, _, q⟩ := hs
    exact q.elim
/-- how a way of calling binds -/
structure BindF (K : PySem.W.Frag) (G : Gx) (fd : FuncData) (ps : List Str) (n : Nat) (ks : List Str) (src : List Src) : Prop where
  ex : ∃ g : List Value → List Value,
    (∀ (s : Shared) (us ws : List Value), K.In s.heap → us.length = n → ws.length = ks.length → BindsTo s fd ⟨us, ks.zip ws⟩ (ps.zip (g (us ++ ws)))) ∧
    (∀ (w : Wd) (H : Hp) (ds es : List D) (vs : List V) (us : List Value), Reps K G w H ds vs → Vals vs us → ds.length = n + ks.length → getSrc ds src = some es → ∃ xs, Reps K G w H es xs ∧ Vals xs (g us))
/-- the promise of the k-th function at the level lv -/
def spF (K : PySem.W.Frag) (G : Gx) (T : List Fn) (lf lv k : Nat) (n : Nat) : Sp := fun vs H Q E =>
  vs.length = n ∧ ∃ ds S w, RepSt K G w H S ∧ Reps K G w H ds vs ∧
    match evF T lf lv k ds S with
    | .ok d S' => ∀ (v : V) (H' : Hp) (w' : Wd), Ext w H w' H' → RepSt K G w' H' S' → Rep K G w' H' d v → Q v H'
    | .exc x S' => ∀ (cls : Value) (dd : Option Addr) (H' : Hp) (w' : Wd), Ext w H w' H' → RepSt K G w' H' S' → ExR G x cls dd H' → E cls dd H'
    | .bad => False
def wLst (K : PySem.W.Frag) (G : Gx) (cls : Value) (P : Str → Prop) : List (Nat × Str) → Prop
  | [] => False
  | k :: r => ∃ b, PySem.W.exmOne K cls (.ref (G k.1)) = some b ∧ (b = true → P k.2) ∧ (b = false → wLst K G cls P r)
def tWrap (w : Option Str) (Q : VK) : VK := fun v H => match w with
  | none => Q v H
  | some x => ([V.str x, v] : List V).length ≤ sizeLine ∧ ∀ p, H p = none → Q (.ref p) (upd H p (.tup [.str x, v]))
def TTpre (K : PySem.W.Frag) (G : Gx) (hs : List (Nat × Str)) (w : Option Str) : (XK → Hp → VK → Prop) → Hp → VK → Prop := fun tl H Q =>
  tl (fun cls _ H' => wLst K G cls (fun z => Q (.str z) H') hs) H (tWrap w Q)
/-- .. of a def that keeps the error: what is told, or a list of one word -/
def TTkeep (K : PySem.W.Frag) (G : Gx) (hs : List (Nat × Str)) : (XK → Hp → VK → Prop) → Hp → VK → Prop := fun tl H Q =>
  ∀ (E : XK) (Q2 : VK), (∀ cls dd H', (∃ k z w, cls = .ref (G k) ∧ dd = none ∧ hs.lookup k = some z ∧ RepSt K G w H' [] ∧ ∀ (v : V) (H2 : Hp), Ext w H' w H2 → RepSt K G w H2 [] → Rep K G w H2 (.lst [.str z]) v → Q v H2) → E cls dd H') →
    (∀ v H', (∃ w d, RepSt K G w H' [] ∧ Rep K G w H' d v ∧ d.calm = true ∧ ∀ (v2 : V) (H2 : Hp), Ext w H' w H2 → RepSt K G w H2 [] → Rep K G w H2 d v2 → Q v2 H2) → Q2 v H') → tl E H Q2
def TTx (K : PySem.W.Frag) (G : Gx) (w : Option Str) (hs : List (Nat × Str)) : (XK → Hp → VK → Prop) → Hp → VK → Prop := if w = some keepS then TTkeep K G hs else TTpre K G hs w
/-- with so much fuel no tuple of the text's own is about -/
def Own (G : Gx) (lf : Nat) : Prop := 500000 ≤ lf / 2 → G.own = true
structure Facts (P : Program) (wd : World) (K : PySem.W.Frag) (mg : Str → Option Value) (base : Heap) (G : Gx) (T : List Fn) (lf : Nat) (C : Tx) (lv : Nat) : Prop where
  bl : ∀ x, C.bl.contains x = true → mg x = none
  cst : ∀ x d, C.gl.lookup x = some (.cst d) → ∃ u v, mg x = some u ∧ RelV v u ∧ ∀ w H, Rep K G w H d v
  fn : ∀ x k, C.gl.lookup x = some (.fn k) → mg x = some (.ref (G k))
  cls : ∀ x k, C.gl.lookup x = some (.cls k) → mg x = some (.ref (G k))
  call : ∀ k fi, C.fns[k]? = some fi → PySem.W.keepIn K (.ref (G k)) = true ∧ ∃ fd, (∃ oc od osl, K.lookup (G k) = some ⟨oc, od, .func fd, osl⟩) ∧ FnG (lf % 2 = 0) P wd K mg base lv (G k) fd fi.ps (spF K G T lf lv k fi.ps.length) ∧ ∀ p ∈ fi.pats, BindF K G fd fi.ps p.1 p.2.1 p.2.2
  exc : ∀ k, C.ex.contains k = true → PySem.W.excIn K (G k) He.veBase "ValueError.__new__" = true ∧ PySem.W.keepIn K (.ref (G k)) = true ∧ PySem.W.subIn K (.ref (G k)) (.type "BaseException") = some true ∧ PySem.W.typeIn K (.ref (G k)) = some (.type "type")
  exm : ∀ k j b, C.exm.lookup (k, j) = some b → PySem.W.exmOne K (.ref (G k)) (.ref (G j)) = some b
  kit : ∀ k as, C.kit.lookup k = some as → ErrF K G k as
  gd : ∀ k fi w hs, C.fns[k]? = some fi → fi.gd = some (w, hs) → ∃ oc od osl pg bg sg dV kV doc pm an cdv ct a Ng, K.lookup (G k) = some ⟨oc, od, .func (PySem.W.fnOf fi.name fi.name pg bg sg dV kV doc pm an cdv ct), osl⟩ ∧ PySem.W.codeIn K cdv fi.name = true ∧
    L2.Binds K (PySem.W.fnOf fi.name fi.name pg bg sg dV kV doc pm an cdv ct) [a] [] ∧ FnScope Ng [a] sg ∧ (∀ (X : Cx) (qn : Str) (n : Nat), X.prog = P → X.w = wd → X.K = K → X.mg = mg → X.base = base → Room (n + 1) X.A → LamX.GivesTo X Ng fi.name sg (G k) cdv bg a qn (TTx K G w hs)) ∧ plainName a = true
  tab : ∀ x kvs, C.gl.lookup x = some (.tab kvs) → ∃ a, mg x = some (.ref a) ∧ ∀ z d, kvs.lookup z = some d → ∃ v, KDct K wd a z v ∧ ∀ w H, Rep K G w H d v
  tabI : ∀ x kvs, C.gl.lookup x = some (.tabI kvs) → ∃ a, mg x = some (.ref a) ∧ KDI K a kvs
  ow : Own G lf
/-- a place of the text where we evaluate -/
structure OkX (G : Gx) (T : List Fn) (lf : Nat) (C : Tx) (lv : Nat) (N : List Str) (sc : Scope) (X : Cx) (W : WX) : Prop where
  f : Facts X.prog X.w X.K X.mg X.base G T lf C lv
  hN : X.N = N
  nd : X.N.Nodup
  hsc : X.env.scope = sc
  calm : X.calm = true
  gu : lf % 2 = 0 → X.A.guards = some []
  room : Room lv X.A
  tk : Takes X W
  lam : lf % 2 = 0 → C.lams.contains N = true → ∃ c Pt, LamX.TabB X.base X.mg c Pt ∧ X.env.code = .ref c ∧ (Pt, X.env.qual ++ "<lambda>") ∈ G.tb ∧ ∀ p ∈ G.tb, p.1 = Pt → p.2 = X.env.qual ++ "<lambda>"
  lo : lf % 2 = 0 → ∀ lv', lv = lv' + 2 → Facts X.prog X.w X.K X.mg X.base G T (lf + 1) C lv'
theorem OkX.units {G : Gx} {T : List Fn} {lf : Nat} {C : Tx} {lv : Nat} {N : List Str} {sc : Scope} {X : Cx} {W : WX} (o : OkX G T lf C lv N sc X W) : X.A.units + 100 < cLine := by
  have := o.room.un
  omega
section
variable {X : Cx} {G : Gx} {cf : Cf} {W : WX}
/-! ### several values -/
theorem evEs_app {cf : Cf} {env : Env'} : ∀ {is js : IEs} {S : Store}, evEs cf (is.app js) env S = (evEs cf is env S).bind fun a S1 => (evEs cf js env S1).bind fun b S2 => .ok (a ++ b) S2
  | .nil, js, S => by
    simp only [IEs.app, evEs, Ev.R.bind]
    cases evEs cf js env S <;> rfl
  | .cons e r, js, S => by
    simp only [IEs.app, evEs, Ev.R.bind]
    cases evE cf e env S with
    | ok d S1 =>
      simp only
      rw [evEs_app (is := r)]
      simp only [Ev.R.bind]
      cases evEs cf r env S1 with
      | ok ds S2 =>
        simp only
        cases evEs cf js env S2 <;> rfl
      | exc _ _ => rfl
      | bad => rfl
    | exc _ _ => rfl
    | bad => rfl
theorem evEs_len {cf : Cf} {env : Env'} : ∀ {is : IEs} {S S1 : Store} {ds : List D}, evEs cf is env S = .ok ds S1 → ds.length = is.len
  | .nil, S, S1, ds, h => by cases h; rfl
  | .cons e r, S, S1, ds, h => by
    simp only [evEs, Ev.R.bind] at h
    cases h1 : evE cf e env S with
    | ok d S2 =>
      rw [h1] at h
      simp only at h
      cases h2 : evEs cf r env S2 with
      | ok ds' S3 =>
        rw [h2] at h
        cases h
        exact congrArg Nat.succ (evEs_len h2)
      | exc _ _ => rw [h2] at h; cases h
      | bad => rw [h2] at h; cases h
    | exc _ _ => rw [h1] at h; cases h
    | bad => rw [h1] at h; cases h
/-- keywords' values -/
def tKs (K : PySem.W.Frag) (G : Gx) (cf : Cf) (W : WX) (i : IEs) : TA := tEs K G cf W i
theorem PK.imp {kws : List Keyword} {t t' : TA} (h : PK X kws t) (k : ∀ σ H Q, t' σ H Q → t σ H Q) : PK X kws t' := ⟨fun pos pins s σ H Q I q => h.run pos pins s σ H Q I (k σ H Q q)⟩
theorem pk_nil1 : PK X [] (tEs X.K G cf W .nil) := PK.imp pk_nil fun σ H Q ⟨env, S, w, R, p⟩ => p [] H w (Ext.refl _ _) R.st .nil
theorem pk_cons1 {nm : Option Str} {e : Expr} {kpos : Pos} {kws : List Keyword} {ie : IE} {is : IEs} (ha : PE X e (tE X.K G cf W ie)) (hr : PK X kws (tEs X.K G cf W is)) : PK X (⟨nm, e, kpos⟩ :: kws) (tEs X.K G cf W (.cons ie is)) :=
  PK.imp (pk_cons ha hr) fun σ H Q ⟨env, S, w, R, p⟩ => by
    simp only [evEs] at p
    refine ⟨env, S, w, R, p.bind fun d1 S1 v1 H1 w1 _ e1 st1 r1 p1 => ?_⟩
    refine ⟨env, S1, w1, R.ext e1 st1, p1.bind fun d2 S2 v2 H2 w2 _ e2 st2 r2 p2 => ?_⟩
    exact p2 (v1 :: v2) H2 w2 (Ext.refl _ _) st2 (.cons (r1.ext e2) r2)
/-! ### a call of a def -/
/-! ### the cells that are handed on -/
theorem noDup_nd : ∀ {ls : List Nat}, noDup ls = true → ls.Nodup
  | [], _ => List.nodup_nil
  | l :: r, h => by
    simp only [noDup, Bool.and_eq_true, Bool.not_eq_true'] at h
    refine List.nodup_cons.mpr ⟨fun m => ?_, noDup_nd h.2⟩
    have := List.contains_iff_mem.mpr m
    rw [h.1] at this; cases this
theorem cells_at {S : Store} : ∀ {ls : List Nat} {S0 : Store}, cellsL S ls = some S0 → S0.length = ls.length ∧ ∀ (i l : Nat), ls[i]? = some l → ∃ c : List D, S0[i]? = some c ∧ S[l]? = some c
  | [], S0, h => by cases h; exact ⟨rfl, fun i l e => by simp at e⟩
  | l :: r, S0, h => by
    unfold cellsL at h
    split at h
    · rename_i c cs h1 h2
      cases h
      obtain ⟨i1, i2⟩ := cells_at h2
      refine ⟨by simp [i1], fun i m e => ?_⟩
      cases i with
      | zero => simp at e; subst e; exact ⟨c, rfl, h1⟩
      | succ i => simpa using i2 i m (by simpa using e)
    · cases h
theorem putL_len {S : Store} : ∀ {ls : List Nat} {T : Store}, (putL ls S T).length = S.length := by
  intro ls
  induction ls generalizing S with
  | nil => intro T; rfl
  | cons l r ih =>
    intro T
    cases T with
    | nil => rfl
    | cons c cs => show (putL r (S.set l c) cs).length = _; rw [ih, List.length_set]
theorem putL_out {l : Nat} : ∀ {ls : List Nat} {S T : Store}, l ∉ ls → (putL ls S T)[l]? = S[l]? := by
  intro ls
  induction ls with
  | nil => intro S T _; rfl
  | cons m r ih =>
    intro S T h
    cases T with
    | nil => rfl
    | cons c cs =>
      show (putL r (S.set m c) cs)[l]? = _
      rw [ih (fun z => h (List.mem_cons_of_mem _ z)), List.getElem?_set_ne (fun z => h (by rw [z]; exact List.mem_cons_self))]
theorem putL_in {l : Nat} : ∀ {ls : List Nat} {S T : Store} {i : Nat} {c : List D}, ls.Nodup → ls[i]? = some l → l < S.length → T[i]? = some c → (putL ls S T)[l]? = some c := by
  intro ls
  induction ls with
  | nil => intro S T i c _ h; simp at h
  | cons m r ih =>
    intro S T i c nd h hl ht
    cases T with
    | nil => simp at ht
    | cons d cs =>
      show (putL r (S.set m d) cs)[l]? = _
      rw [List.nodup_cons] at nd
      cases i with
      | zero =>
        simp at h ht
        subst h ht
        rw [putL_out nd.1, List.getElem?_set_self hl]
      | succ i => exact ih nd.2 (by simpa using h) (by rw [List.length_set]; exact hl) (by simpa using ht)
/-- the addresses of these cells; the others are kept back -/
def adrs (w : Wd) (ls : List Nat) : List Addr := ls.filterMap fun l => w.lo[l]?
def cutW (w : Wd) (ls : List Nat) : Wd := ⟨adrs w ls, w.hi ++ w.lo.filter fun a => !(adrs w ls).contains a⟩
section
variable {K : PySem.W.Frag} {G : Gx} {w w1 : Wd} {H H1 : Hp} {S S0 S1 : Store} {ls : List Nat}
theorem adrs_at (hall : ∀ l ∈ ls, l < w.lo.length) : ∀ {i l : Nat}, ls[i]? = some l → (adrs w ls)[i]? = w.lo[l]? := by
  induction ls with
  | nil => intro i l h; simp at h
  | cons m r ih =>
    intro i l h
    have hm : w.lo[m]? = some (w.lo[m]'(hall m List.mem_cons_self)) := List.getElem?_eq_getElem (hall m List.mem_cons_self)
    have e : adrs w (m :: r) = w.lo[m]'(hall m List.mem_cons_self) :: adrs w r := by
      unfold adrs; rw [List.filterMap_cons, hm]
    rw [e]
    cases i with
    | zero => simp at h; subst h; rw [hm]; rfl
    | succ i => simpa using ih (fun l hl => hall l (List.mem_cons_of_mem _ hl)) (i := i) (by simpa using h)
theorem adrs_len (hall : ∀ l ∈ ls, l < w.lo.length) : (adrs w ls).length = ls.length := by
  induction ls with
  | nil => rfl
  | cons m r ih =>
    have hm : w.lo[m]? = some (w.lo[m]'(hall m List.mem_cons_self)) := List.getElem?_eq_getElem (hall m List.mem_cons_self)
    have e : adrs w (m :: r) = w.lo[m]'(hall m List.mem_cons_self) :: adrs w r := by
      unfold adrs; rw [List.filterMap_cons, hm]
    rw [e, List.length_cons, List.length_cons, ih fun l hl => hall l (List.mem_cons_of_mem _ hl)]
theorem adrs_mem {a : Addr} (h : a ∈ adrs w ls) : ∃ l ∈ ls, w.lo[l]? = some a := by
  obtain ⟨l, h1, h2⟩ := List.mem_filterMap.mp h
  exact ⟨l, h1, h2⟩
theorem adrs_lo {a : Addr} (h : a ∈ adrs w ls) : a ∈ w.lo := let ⟨_, _, h2⟩ := adrs_mem h; List.mem_of_getElem? h2
theorem mem_hi {a : Addr} : a ∈ (cutW w ls).hi ↔ a ∈ w.hi ∨ (a ∈ w.lo ∧ a ∉ adrs w ls) := by
  show a ∈ w.hi ++ w.lo.filter (fun a => !(adrs w ls).contains a) ↔ _
  rw [List.mem_append, List.mem_filter]
  simp
theorem cutW_off {a : Addr} : (cutW w ls).off a ↔ w.off a := by
  unfold Wd.off
  rw [mem_hi]
  constructor
  · rintro ⟨h1, h2⟩
    refine ⟨fun m => h2 (.inr ⟨m, h1⟩), fun m => h2 (.inl m)⟩
  · rintro ⟨h1, h2⟩
    exact ⟨fun m => h1 (adrs_lo m), fun m => m.elim h2 fun z => h1 z.1⟩
theorem cells_lt (st : RepSt K G w H S) (hc : cellsL S ls = some S0) : ∀ l ∈ ls, l < w.lo.length := fun l hl => by
  obtain ⟨i, hi, e⟩ := List.mem_iff_getElem.mp hl
  obtain ⟨c, _, h2⟩ := (cells_at hc).2 i l (by rw [List.getElem?_eq_getElem hi, e])
  rw [st.len]
  exact (List.getElem?_eq_some_iff.mp h2).1
theorem cut_off (st : RepSt K G w H S) (hc : cellsL S ls = some S0) : ∀ a, (cutW w ls).off a ↔ w.off a := fun a => cutW_off
theorem adrs_inj (st : RepSt K G w H S) (hc : cellsL S ls = some S0) {l : Nat} {a : Addr} (h : w.lo[l]? = some a) (hm : a ∈ adrs w ls) : l ∈ ls := by
  obtain ⟨m, h1, h2⟩ := adrs_mem hm
  rw [nodup_at st.nd h h2]; exact h1
theorem adrs_nd (st : RepSt K G w H S) (hc : cellsL S ls = some S0) (hn : ls.Nodup) : (adrs w ls).Nodup := by
  have hall := cells_lt st hc
  rw [List.nodup_iff_pairwise_ne, List.pairwise_iff_getElem]
  intro i j hi hj hij e
  rw [adrs_len hall] at hi hj
  have e1 := adrs_at (w := w) hall (i := i) (l := ls[i]) (List.getElem?_eq_getElem hi)
  have e2 := adrs_at (w := w) hall (i := j) (l := ls[j]) (List.getElem?_eq_getElem hj)
  rw [List.getElem?_eq_getElem (by rw [adrs_len hall]; exact hi)] at e1
  rw [List.getElem?_eq_getElem (by rw [adrs_len hall]; exact hj), ← e] at e2
  have := nodup_at st.nd e1.symm e2.symm
  have := (List.getElem_inj hn).mp this
  omega
theorem cut_st (st : RepSt K G w H S) (hc : cellsL S ls = some S0) (hd : noDup ls = true) : RepSt K G (cutW w ls) H S0 where
  len := by
    show (adrs w ls).length = _
    rw [adrs_len (cells_lt st hc), (cells_at hc).1]
  nd := adrs_nd st hc (noDup_nd hd)
  cell := fun i ds e => by
    have hi : i < ls.length := by
      rw [← (cells_at hc).1]; exact (List.getElem?_eq_some_iff.mp e).1
    obtain ⟨c, h1, h2⟩ := (cells_at hc).2 i ls[i] (List.getElem?_eq_getElem hi)
    rw [e] at h1; cases h1
    obtain ⟨cm, a, h3, h4⟩ := st.cell _ ds h2
    refine ⟨cm, a, ?_, h4.calmer (fun a z => cutW_off.mpr z) cm⟩
    show (adrs w ls)[i]? = some a
    rw [adrs_at (cells_lt st hc) (List.getElem?_eq_getElem hi)]
    exact h3
  hid := fun a m => by
    rcases mem_hi.mp m with m | ⟨m, n⟩
    · obtain ⟨h1, h2⟩ := st.hid a m
      exact ⟨h1, fun z => h2 (adrs_lo z)⟩
    · exact ⟨st.lo_some m, n⟩
  tabs := st.tabs
theorem shr_reps (st : RepSt K G w H S) (ho : ∀ a, (cutW w ls).off a ↔ w.off a) {es es0 : List D} {xs : List V} (rx : Reps K G w H es xs) (h1 : shrD es 0 = some es0) (h2 : cellsL S (refsL es) = some S0) (h3 : noDup (refsL es) = true) : Reps K G (cutW w (refsL es)) H es0 xs := by
  have hall := cells_lt st h2
  have key : ∀ {es es0 : List D} {xs : List V} {n : Nat} (ms : List Nat), (∀ i l, (refsL es)[i]? = some l → ms[n + i]? = some l) → (∀ l ∈ ms, l < w.lo.length) → Reps K G w H es xs → shrD es n = some es0 → Reps K G (cutW w ms) H es0 xs := by
    intro es
    induction es with
    | nil => intro es0 xs n ms _ _ r h; cases h; cases r; exact .nil
    | cons d ds ih =>
      intro es0 xs n ms hm hal r h
      cases r with
      | cons r rs =>
        cases d with
        | ref l =>
          simp only [shrD, Option.map_eq_some_iff] at h
          obtain ⟨t, h, rfl⟩ := h
          refine .cons ?_ (ih ms (fun i m e => by rw [show n + 1 + i = n + (i + 1) by omega]; exact hm (i + 1) m (by simpa [refsL] using e)) hal rs h)
          cases r with
          | ref hr =>
            refine .ref ?_
            show (adrs w ms)[n]? = _
            have hq := hm 0 l (by simp [refsL])
            rw [Nat.add_zero] at hq
            rw [adrs_at hal hq]
            exact hr
        | _ =>
          simp only [shrD] at h
          split at h
          · rename_i hcalm
            simp only [Option.map_eq_some_iff] at h
            obtain ⟨t, h, rfl⟩ := h
            exact .cons (Rep.calmer (fun a z => cutW_off.mpr z) hcalm r) (ih ms (fun i m e => hm i m (by simpa [refsL] using e)) hal rs h)
          · cases h
  exact key (refsL es) (fun i l e => by rw [Nat.zero_add]; exact e) hall rx h1
theorem cut_ext (st : RepSt K G w H S) (hc : cellsL S ls = some S0) (e : Ext (cutW w ls) H w1 H1) : Ext w H w H1 :=
  ⟨fun _ _ h => h, fun a o h n f => ⟨(e.kept a o h n (fun m => f (adrs_lo m))).1, f, Iff.rfl⟩⟩
theorem cut_offs (st : RepSt K G w H S) (hc : cellsL S ls = some S0) (hd : noDup ls = true) (e : Ext (cutW w ls) H w1 H1) : ∀ a, w1.off a → w.off a := fun a f => cutW_off.mp (off_back e (cut_st st hc hd) a f)
/-- behind the call, with one more cell perhaps -/
theorem cut_put (st : RepSt K G w H S) (hc : cellsL S ls = some S0) (hd : noDup ls = true) (e : Ext (cutW w ls) H w1 H1) (r1 : RepSt K G w1 H1 S1) {w2 : Wd} {ex : List (List D)}
    (e2 : Ext w H w2 H1) (ho : ∀ a, w1.off a → w2.off a) (h1 : w2.lo = w.lo ++ w2.lo.drop w.lo.length) (h2 : w2.hi = w.hi) (hx : (w2.lo.drop w.lo.length).length = ex.length)
    (hnd : w2.lo.Nodup) (hh : ∀ a ∈ w2.hi, a ∉ w2.lo) (hcx : ∀ (i : Nat) (c : List D), ex[i]? = some c → ∃ (j : Nat) (a : Addr), (w2.lo.drop w.lo.length)[i]? = some a ∧ w1.lo[j]? = some a ∧ S1[j]? = some c) : RepSt K G w2 H1 (putL ls S S1 ++ ex) where
  len := by
    rw [List.length_append, putL_len, ← st.len, ← hx]
    conv => lhs; rw [h1]
    rw [List.length_append]
  nd := hnd
  cell := fun l ds h => by
    by_cases hl : l < S.length
    · rw [List.getElem?_append_left (by rw [putL_len]; exact hl)] at h
      have lo2 : ∀ a, w.lo[l]? = some a → w2.lo[l]? = some a := fun a q => e2.pre l a q
      by_cases hm : l ∈ ls
      · obtain ⟨i, hi, ei⟩ := List.mem_iff_getElem.mp hm
        have hi' : ls[i]? = some l := by rw [List.getElem?_eq_getElem hi, ei]
        have ha : (cutW w ls).lo[i]? = w.lo[l]? := adrs_at (cells_lt st hc) hi'
        have hw : w.lo[l]? = some (w.lo[l]'(by rw [st.len]; exact hl)) := List.getElem?_eq_getElem _
        rw [hw] at ha
        have h3 := e.pre i _ ha
        obtain ⟨es, q1, q2⟩ := r1.at_ h3
        rw [putL_in (noDup_nd hd) hi' hl q1] at h
        cases h
        have cm := (r1.cell i _ q1).1
        exact ⟨cm, _, lo2 _ hw, q2.calmer ho cm⟩
      · rw [putL_out hm] at h
        obtain ⟨cm, a, q1, q2⟩ := st.cell l ds h
        have na : a ∉ adrs w ls := fun z => hm (adrs_inj st hc q1 z)
        exact ⟨cm, a, lo2 a q1, q2.mov (fun o ho' hco => (e.kept a o ho' hco.nt na).1) e2.mov⟩
    · rw [List.getElem?_append_right (by rw [putL_len]; omega), putL_len] at h
      obtain ⟨j, a, q1, q2, q3⟩ := hcx _ _ h
      obtain ⟨cm, b, p1, p2⟩ := r1.cell j ds q3
      rw [q2] at p1; cases p1
      refine ⟨cm, a, ?_, p2.calmer ho cm⟩
      rw [h1, List.getElem?_append_right (by rw [st.len]; omega), st.len]
      rw [st.len] at q1
      exact q1
  hid := fun a m => by
    refine ⟨?_, hh a m⟩
    rw [h2] at m
    obtain ⟨⟨o, q1, hco⟩, q2⟩ := st.hid a m
    exact ⟨o, (e.kept a _ q1 hco.nt (fun z => q2 (adrs_lo z))).1, hco⟩
  tabs := r1.tabs
theorem drop_self {w : Wd} : w.lo.drop w.lo.length = [] := by simp
theorem cut_exc (st : RepSt K G w H S) (hc : cellsL S ls = some S0) (hd : noDup ls = true) (e : Ext (cutW w ls) H w1 H1) (r1 : RepSt K G w1 H1 S1) : Ext w H w H1 ∧ RepSt K G w H1 (putL ls S S1) := by
  have e2 := cut_ext st hc e
  refine ⟨e2, ?_⟩
  have := cut_put st hc hd e r1 (w2 := w) (ex := []) e2 (cut_offs st hc hd e) (by simp) rfl (by simp) st.nd (fun a m => (st.hid a m).2) (fun i c h => by simp at h)
  rw [List.append_nil] at this
  exact this
/-- a cell of the callee's own is no cell of ours -/
theorem own_off (st : RepSt K G w H S) (hc : cellsL S ls = some S0) (hd : noDup ls = true) (e : Ext (cutW w ls) H w1 H1) (r1 : RepSt K G w1 H1 S1) {j : Nat} {b : Addr} (hj : ls.length ≤ j) (hb : w1.lo[j]? = some b) : w.off b := by
  have bo : b ∉ adrs w ls := fun z => by
    obtain ⟨i, hi, ei⟩ := List.mem_iff_getElem.mp z
    have hi' : (cutW w ls).lo[i]? = some b := by
      show (adrs w ls)[i]? = _
      rw [List.getElem?_eq_getElem hi, ei]
    have := nodup_at r1.nd (e.pre i b hi') hb
    rw [adrs_len (cells_lt st hc)] at hi
    omega
  refine ⟨fun z => ?_, fun z => ?_⟩
  · obtain ⟨us, q, hco⟩ := st.lo_some z
    exact (e.kept b _ q hco.nt bo).2.1 (List.mem_of_getElem? hb)
  · obtain ⟨⟨us, q, hco⟩, _⟩ := st.hid b z
    exact (e.kept b _ q hco.nt bo).2.1 (List.mem_of_getElem? hb)
theorem thaw_both (st : RepSt K G w H S) (hc : cellsL S ls = some S0) (hd : noDup ls = true) (e : Ext (cutW w ls) H w1 H1) (r1 : RepSt K G w1 H1 S1) : ∀ (n : Nat), (∀ {d y : D} {v : V}, sizeOf d < n → Rep K G w1 H1 d v → d.thaw ls.length S1 = some y → Rep K G w H1 y v) ∧ (∀ {ds ys : List D} {vs : List V}, sizeOf ds < n → Reps K G w1 H1 ds vs → D.thaws ls.length S1 ds = some ys → Reps K G w H1 ys vs) := by
  intro n
  induction n with
  | zero => exact ⟨fun h => absurd h (Nat.not_lt_zero _), fun h => absurd h (Nat.not_lt_zero _)⟩
  | succ n ih =>
    refine ⟨fun {d y v} hn r h => ?_, fun {ds ys vs} hn r h => ?_⟩
    · cases r with
      | @ref b j hb =>
        rw [D.thaw] at h
        split at h
        · rename_i hj
          have ob := own_off st hc hd e r1 hj hb
          obtain ⟨cs, e1, e2⟩ := r1.at_ hb
          have cm := (r1.cell j _ e1).1
          rw [e1] at h
          rcases e2 with ⟨vs, q1, q2⟩ | ⟨es, kvs, rfl, q1, q2⟩ | ⟨es, kvs, rfl, q1, q2⟩
          · have h' : (lsO cs).map D.lst = some y := by
              cases q2 with
              | nil => exact h
              | cons r _ => cases r <;> exact h
            rw [q2.ls] at h'
            cases h'
            exact .lst ⟨q1, ob⟩ (Reps.calmer (cut_offs st hc hd e) cm q2)
          · cases h
            exact .dic (.inl q1) ob (Ent.calmer (cut_offs st hc hd e) (by simpa [D.calms, D.calm] using cm) q2)
          · cases h
            exact .dit (.inl q1) ob (EntN.calmer (cut_offs st hc hd e) (by simpa [D.calms, D.calm] using cm) q2)
        · cases h
      | tup h1 r o =>
        rw [D.thaw, Option.map_eq_some_iff] at h
        obtain ⟨ys, et, rfl⟩ := h
        exact .tup (h1.elim (fun z => .inl ⟨z.1, cut_offs st hc hd e _ z.2⟩) .inr) (ih.2 (by simp at hn; omega) r et) (fun q => ⟨(o q).1, cut_offs st hc hd e _ (o q).2⟩)
      | lst h1 r =>
        rw [D.thaw, Option.map_eq_some_iff] at h
        obtain ⟨ys, et, rfl⟩ := h
        exact .lst ⟨h1.1, cut_offs st hc hd e _ h1.2⟩ (ih.2 (by simp at hn; omega) r et)
      | frz h1 r =>
        rw [D.thaw, Option.map_eq_some_iff] at h
        obtain ⟨ys, et, rfl⟩ := h
        exact .frz (h1.elim (fun ⟨o, z⟩ => .inl ⟨o, z.1, cut_offs st hc hd e _ z.2⟩) .inr) (ih.2 (by simp at hn; omega) r et)
      | non => rw [D.thaw] at h; cases h; exact .non
      | bl b => rw [D.thaw] at h; cases h; exact .bl b
      | int i => rw [D.thaw] at h; cases h; exact .int i
      | str x => rw [D.thaw] at h; cases h; exact .str x
      | gl k => rw [D.thaw] at h; cases h; exact .gl k
      | ty t => rw [D.thaw] at h; cases h; exact .ty t
      | dct h1 f => rw [D.thaw] at h; cases h; exact .dct h1 (cut_offs st hc hd e _ f)
      | sz h1 f => rw [D.thaw] at h; cases h
      | exn h1 f _ => rw [D.thaw] at h; cases h
      | dic h1 f r =>
        rw [D.thaw] at h
        split at h
        · rename_i cm
          cases h
          exact .dic h1 (cut_offs st hc hd e _ f) (Ent.calmer (cut_offs st hc hd e) cm r)
        · cases h
      | rg h1 f => rw [D.thaw] at h; cases h; exact .rg h1 (cut_offs st hc hd e _ f)
      | dit h1 f r =>
        rw [D.thaw] at h
        split at h
        · rename_i cm
          cases h
          exact .dit h1 (cut_offs st hc hd e _ f) (EntN.calmer (cut_offs st hc hd e) cm r)
        · cases h
    · cases r with
      | nil => rw [D.thaws] at h; cases h; exact .nil
      | cons q qs =>
        rw [D.thaws] at h
        split at h
        · rename_i y zs h1 h2
          cases h
          exact .cons (ih.1 (by simp at hn; omega) q h1) (ih.2 (by simp at hn; omega) qs h2)
        · cases h
theorem thaw_ok (st : RepSt K G w H S) (hc : cellsL S ls = some S0) (hd : noDup ls = true) (e : Ext (cutW w ls) H w1 H1) (r1 : RepSt K G w1 H1 S1) {d y : D} {v : V} (r : Rep K G w1 H1 d v) (h : d.thaw ls.length S1 = some y) : Rep K G w H1 y v :=
  (thaw_both st hc hd e r1 (sizeOf d + 1)).1 (Nat.lt_succ_self _) r h
theorem cut_back (st : RepSt K G w H S) (hc : cellsL S ls = some S0) (hd : noDup ls = true) (e : Ext (cutW w ls) H w1 H1) (r1 : RepSt K G w1 H1 S1) {d : D} {v : V} (rd : Rep K G w1 H1 d v) (nb : backD ls S S1 d ≠ .bad) :
    ∃ (w2 : Wd) (dS : D × Store), Ext w H w2 H1 ∧ RepSt K G w2 H1 dS.2 ∧ Rep K G w2 H1 dS.1 v ∧ backD ls S S1 d = .ok dS.1 dS.2 := by
  obtain ⟨e2, r2⟩ := cut_exc st hc hd e r1
  by_cases hr : ∃ j, d = .ref j
  · obtain ⟨j, rfl⟩ := hr
    cases rd with
    | @ref b _ hb =>
    by_cases hj : j < ls.length
    · have hl : ls[j]? = some ls[j] := List.getElem?_eq_getElem hj
      refine ⟨w, (.ref ls[j], putL ls S S1), e2, r2, ?_, by simp only [backD, hl]⟩
      have hlt := cells_lt st hc ls[j] (List.getElem_mem hj)
      have ha : (cutW w ls).lo[j]? = w.lo[ls[j]]? := adrs_at (cells_lt st hc) hl
      rw [List.getElem?_eq_getElem hlt] at ha
      have h3 := e.pre j _ ha
      rw [hb] at h3
      cases h3
      exact .ref (List.getElem?_eq_getElem hlt)
    · have hl : ls[j]? = none := by rw [List.getElem?_eq_none_iff]; omega
      obtain ⟨es, q1, q2⟩ := r1.at_ hb
      have bo : b ∉ adrs w ls := fun z => by
        obtain ⟨i, hi, ei⟩ := List.mem_iff_getElem.mp z
        have hi' : (cutW w ls).lo[i]? = some b := by
          show (adrs w ls)[i]? = _
          rw [List.getElem?_eq_getElem hi, ei]
        have := nodup_at r1.nd (e.pre i b hi') hb
        rw [adrs_len (cells_lt st hc)] at hi
        omega
      have nolo : b ∉ w.lo := fun z => by
        obtain ⟨us, q, hco⟩ := st.lo_some z
        exact (e.kept b _ q hco.nt bo).2.1 (List.mem_of_getElem? hb)
      have nohi : b ∉ w.hi := fun z => by
        obtain ⟨⟨us, q, hco⟩, _⟩ := st.hid b z
        exact (e.kept b _ q hco.nt bo).2.1 (List.mem_of_getElem? hb)
      have e3 : Ext w H ⟨w.lo ++ [b], w.hi⟩ H1 := ⟨fun l a q => by
          show (w.lo ++ [b])[l]? = some a
          rw [List.getElem?_append_left (List.getElem?_eq_some_iff.mp q).1]; exact q, fun a o h n f => by
          have k := e.kept a o h n (fun m => f (adrs_lo m))
          refine ⟨k.1, fun m => ?_, Iff.rfl⟩
          rcases List.mem_append.mp m with m | m
          · exact f m
          · rw [List.mem_singleton] at m
            subst m
            exact k.2.1 (List.mem_of_getElem? hb)⟩
      have dr : (w.lo ++ [b]).drop w.lo.length = [b] := by simp
      refine ⟨⟨w.lo ++ [b], w.hi⟩, (.ref S.length, putL ls S S1 ++ [es]), e3, ?_, ?_, by simp only [backD, hl, q1]⟩
      · refine cut_put st hc hd e r1 (w2 := ⟨w.lo ++ [b], w.hi⟩) (ex := [es]) e3 (fun a f => ?_) (by rw [dr]) rfl (by rw [dr]; rfl) ?_ ?_ (fun i c h => ?_)
        · have f2 := cut_offs st hc hd e a f
          refine ⟨fun m => ?_, f2.2⟩
          rcases List.mem_append.mp m with m | m
          · exact f2.1 m
          · rw [List.mem_singleton] at m
            subst m
            exact f.1 (List.mem_of_getElem? hb)
        · show (w.lo ++ [b]).Nodup
          rw [List.nodup_append]
          exact ⟨st.nd, by simp, fun a ha c hc => by rw [List.mem_singleton] at hc; subst hc; exact fun z => nolo (z ▸ ha)⟩
        · intro a m z
          rcases List.mem_append.mp z with z | z
          · exact (st.hid a m).2 z
          · rw [List.mem_singleton] at z
            subst z
            exact nohi m
        · cases i with
          | zero => simp at h; subst h; exact ⟨j, b, by rw [dr]; rfl, hb, q1⟩
          | succ i => simp at h
      · refine .ref ?_
        show (w.lo ++ [b])[S.length]? = some b
        rw [← st.len, List.getElem?_append_right (Nat.le_refl _)]
        simp
  · have eb : backD ls S S1 d = if d.calm then .ok d (putL ls S S1) else (match d.thaw ls.length S1 with
        | some y => .ok y (putL ls S S1)
        | none => .bad) := by
      unfold backD
      split
      · rename_i j; exact absurd ⟨j, rfl⟩ hr
      · rfl
    rw [eb] at nb ⊢
    by_cases cm : d.calm = true
    · rw [if_pos cm] at nb ⊢
      exact ⟨w, (d, putL ls S S1), e2, r2, Rep.calmer (cut_offs st hc hd e) cm rd, rfl⟩
    · rw [if_neg cm] at nb ⊢
      cases et : d.thaw ls.length S1 with
      | none => rw [et] at nb; exact absurd rfl nb
      | some y => exact ⟨w, (y, putL ls S S1), e2, r2, thaw_ok st hc hd e r1 rd et, rfl⟩
end
theorem shrD_len : ∀ {ds es : List D} {n : Nat}, shrD ds n = some es → es.length = ds.length
  | [], es, n, h => by cases h; rfl
  | d :: r, es, n, h => by
    cases d with
    | ref l =>
      simp only [shrD, Option.map_eq_some_iff] at h
      obtain ⟨t, h, rfl⟩ := h
      exact congrArg Nat.succ (shrD_len h)
    | _ =>
      simp only [shrD] at h
      split at h
      · simp only [Option.map_eq_some_iff] at h
        obtain ⟨t, h, rfl⟩ := h
        exact congrArg Nat.succ (shrD_len h)
      · cases h
theorem PV.nb {K : PySem.W.Frag} {σ : L2.St} {r : Ev.R D} {w : Wd} {H : Hp} {Q} (p : PV K G W σ r w H Q) : r ≠ .bad := by
  rintro rfl
  exact p
theorem run_G {T : List Fn} {lf lv k : Nat} {f : Addr} {fd : FuncData} {ps ks : List Str} {n : Nat} {src : List Src} {pins : List (Addr × Obj)} {σ : L2.St} {H : Hp} {s : Shared} {Q : VK} {us ws : List Value} {vs : List V} {ds es : List D} {S : Store} {w : Wd}
    (F : FnG (lf % 2 = 0) X.prog X.w X.K X.mg X.base lv f fd ps (spF X.K G T lf lv k ps.length)) (hr : Room lv X.A) (hg : lf % 2 = 0 → X.A.guards = some []) (hb : BindF X.K G fd ps n ks src) (tk : Takes X W) (I : L2.Inv X pins σ H s) (r : Vals vs (us ++ ws)) (l1 : us.length = n) (l2 : ws.length = ks.length)
    (st : RepSt X.K G w H S) (rs : Reps X.K G w H ds vs) (es' : getSrc ds src = some es) (hl : es.length = ps.length) (p : PV X.K G W σ (cutCall (evF T lf lv k) es S) w H (fun _ _ v H' _ => Q v H')) :
    wpAny (model X.prog X.w) X.A (call (.ref f) us (ks.zip ws)) (EP X pins σ Q) X.xe s := by
  obtain ⟨g, hto, hrel⟩ := hb.ex
  obtain ⟨xs, rx, vx⟩ := hrel w H ds es vs (us ++ ws) rs r (by rw [rs.length, r.length, List.length_append, l1, l2]) es'
  have hsp : spF X.K G T lf lv k ps.length xs H Q (WE W σ) := by
    unfold cutCall at p
    split at p
    · rename_i es0 S0 h1 h2 h3
      have rx0 := shr_reps st (cut_off st h2) rx h1 h2 h3
      refine ⟨by rw [← rx.length]; exact hl, es0, S0, cutW w (refsL es), cut_st st h2 h3, rx0, ?_⟩
      cases e : evF T lf lv k es0 S0 with
      | ok d S' =>
        rw [e] at p
        replace p : PV X.K G W σ (backD (refsL es) S S' d) w H (fun _ _ v H' _ => Q v H') := p
        intro v H' w' e1 st1 r1
        obtain ⟨w2, dS, q2, q3, q4, q5⟩ := cut_back st h2 h3 e1 st1 r1 (PV.nb p)
        rw [q5] at p
        exact p v H' w2 q2 q3 q4
      | exc x S' =>
        rw [e] at p
        intro c dd H' w' e1 st1 r1
        obtain ⟨q2, q3⟩ := cut_exc st h2 h3 e1 st1
        exact p c dd H' w q2 q3 r1
      | bad => rw [e] at p; exact p
    · exact p.elim
  refine wpAny_call (codeAny_mono (F.run X.A X.stack s H ⟨us, ks.zip ws⟩ (g (us ++ ws)) xs Q (WE W σ) hr hg I.env0 (hto s us ws I.kIn l1 l2) vx hsp) fun r s' hq => ?_)
  cases r with
  | error e => exact passAt tk σ pins H s e s' I hq
  | ok fl =>
    cases fl with
    | ret u => exact I.after hq
    | next => exact False.elim hq
    | brk => exact False.elim hq
    | cont => exact False.elim hq
theorem vals_app : ∀ {vs zs : List V} {us ws : List Value}, Vals vs us → Vals zs ws → Vals (vs ++ zs) (us ++ ws) := fun a b => a.append b
theorem starEach_len {env : Env} : ∀ {es : List Expr}, (starEach es env).length = es.length
  | [] => by simp [starEach]
  | e :: es => by cases e <;> simp [starEach, starEach_len (es := es)]
theorem kwb {pos : Pos} {env : Env} : ∀ {kws : List Keyword} {ks : List Str}, kwNames kws = some ks → (backToKw pos (keywordEach kws env)).all (·.1.isSome) = true ∧ (backToKw pos (keywordEach kws env)).filterMap (·.1) = ks ∧ (backToKw pos (keywordEach kws env)).any (·.1.isNone) = false
  | [], ks, h => by cases h; exact ⟨rfl, rfl, rfl⟩
  | ⟨some n, v, p⟩ :: r, ks, h => by
    cases e : kwNames r with
    | none => simp [kwNames, e] at h
    | some l =>
      simp [kwNames, e] at h
      subst h
      obtain ⟨h1, h2, h3⟩ := kwb (pos := pos) (env := env) e
      refine ⟨?_, ?_, ?_⟩
      · simpa [keywordEach, backToKw] using h1
      · simpa [keywordEach, backToKw] using h2
      · simpa [keywordEach, backToKw] using h3
  | ⟨none, v, p⟩ :: r, ks, h => by cases h
theorem kwNames_len : ∀ {kws : List Keyword} {ks : List Str}, kwNames kws = some ks → ks.length = kws.length
  | [], ks, h => by cases h; rfl
  | ⟨some n, v, p⟩ :: r, ks, h => by
    cases e : kwNames r with
    | none => simp [kwNames, e] at h
    | some l =>
      simp [kwNames, e] at h
      subst h
      exact congrArg Nat.succ (kwNames_len e)
  | ⟨none, v, p⟩ :: r, ks, h => by cases h
theorem noStar {pos : Pos} {env : Env} : ∀ {es : List Expr}, es.all plainE = true → (backTo pos (starEach es env)).any (·.1) = false
  | [], _ => rfl
  | e :: es, h => by
    simp only [List.all_cons, Bool.and_eq_true] at h
    have ih := noStar (pos := pos) (env := env) h.2
    cases e <;> first
      | (simp [plainE] at h; done)
      | simpa [starEach, backTo] using ih
theorem star_cons {e : Expr} {es : List Expr} {env : Env} (h : plainE e = true) : starEach (e :: es) env = (false, eval e env) :: starEach es env := by
  cases e <;> first
    | (simp [plainE] at h; done)
    | rfl
theorem evF_len {T : List Fn} {lf lv k : Nat} {es : List D} {S : Store} : evF T lf lv k es S ≠ .bad → ∃ f, T[k]? = some f ∧ es.length = f.np := by
  intro h
  cases lv with
  | zero => exact absurd rfl h
  | succ m =>
    rw [evF_succ] at h
    cases e : T[k]? with
    | none => rw [e] at h; exact absurd rfl h
    | some f =>
      rw [e] at h
      simp only at h
      split at h
      · rename_i hl
        exact ⟨f, rfl, of_decide_eq_true hl⟩
      · exact absurd rfl h
theorem cut_len {T : List Fn} {lf lv k : Nat} {es : List D} {S : Store} (h : cutCall (evF T lf lv k) es S ≠ .bad) : ∃ f, T[k]? = some f ∧ es.length = f.np := by
  unfold cutCall at h
  split at h
  · rename_i es0 S0 h1 h2 h3
    have : evF T lf lv k es0 S0 ≠ .bad := fun z => by rw [z] at h; exact h rfl
    obtain ⟨f, e1, e2⟩ := evF_len this
    exact ⟨f, e1, by rw [← e2, shrD_len h1]⟩
  · exact absurd rfl h
theorem pe_call1 {lm : IE → Env' → Store → Ev.R D} {T : List Fn} {lf lv k : Nat} {f : Addr} {fd : FuncData} {ps ks : List Str} {n : Nat} {src : List Src} {x : Str} {p pos : Pos} {es : List Expr} {kws : List Keyword} {is js : IEs}
    (F : FnG (lf % 2 = 0) X.prog X.w X.K X.mg X.base lv f fd ps (spF X.K G T lf lv k ps.length)) (hT : ∀ fn, T[k]? = some fn → fn.np = ps.length) (hr : Room lv X.A) (hgu : lf % 2 = 0 → X.A.guards = some []) (hg : Gl X x) (hm : X.mg x = some (.ref f)) (hk : PySem.W.keepIn X.K (.ref f) = true) (hb : BindF X.K G fd ps n ks src) (tk : Takes X W)
    (ha : PA X es (tEs X.K G ⟨lf, evF T lf lv, lm⟩ W is)) (hkw : PK X kws (tEs X.K G ⟨lf, evF T lf lv, lm⟩ W js)) (hpl : es.all plainE = true) (hks : kwNames kws = some ks) (hn : es.length = n) (hil : is.len = n) (hjl : js.len = ks.length) (h0 : es = [] → kws = [])
    (hdb : (x == ("__debug__" : Str)) = false) :
    PE X (.Call (.Name x p) es kws pos) (tE X.K G ⟨lf, evF T lf lv, lm⟩ W (.callF k src (is.app js))) := by
  refine ⟨fun pins s σ H Q I ⟨env, S, w, R, q⟩ => ?_⟩
  refine wpAny_Call_Name_kw (ld_glob I hg hm ?_ hdb)
  simp only [evE, evEs_app] at q
  have fin : ∀ {H2 : Hp} {w2 : Wd} {S2 : Store} {s2 : Shared} {us ws : List Value} {ds es2 : List D} {vs zs : List V}, L2.Inv X pins σ H2 s2 → RepSt X.K G w2 H2 S2 → Reps X.K G w2 H2 ds vs → Reps X.K G w2 H2 es2 zs → Vals vs us → Vals zs ws → ds.length = n → es2.length = ks.length →
      PV X.K G W σ (match getSrc (ds ++ es2) src with | some l => cutCall (evF T lf lv k) l S2 | none => .bad) w2 H2 (fun _ _ v H' _ => Q v H') → wpAny (model X.prog X.w) X.A (call (.ref f) us (ks.zip ws)) (EP X pins σ Q) X.xe s2 := by
    intro H2 w2 S2 s2 us ws ds es2 vs zs I2 st2 r1 r2 v1 v2 l1 l2 q2
    cases eg : getSrc (ds ++ es2) src with
    | none => rw [eg] at q2; exact q2.elim
    | some l =>
      rw [eg] at q2
      obtain ⟨fn, e1, e2⟩ := cut_len (PV.nb q2)
      exact run_G F hr hgu hb tk I2 (v1.append v2) (by rw [← v1.length, ← r1.length, l1]) (by rw [← v2.length, ← r2.length, l2]) st2 (r1.append r2) eg (by rw [e2, hT fn e1]) q2
  obtain ⟨k1, k2, k3⟩ := kwb (pos := pos) (env := X.env) hks
  cases es with
  | nil =>
    have e0 := h0 rfl
    subst e0
    cases hks
    have ei : is = .nil := by cases is with | nil => rfl | cons _ _ => simp [IEs.len] at hil; subst hn; cases hil
    have ej : js = .nil := by cases js with | nil => rfl | cons _ _ => simp [IEs.len] at hjl
    subst ei ej
    simp only [evEs, Ev.R.bind] at q
    exact PySem.W.callWith_K0 I.kIn hk (fin (us := []) (ws := []) (ds := []) (es2 := []) I R.st .nil .nil .nil .nil hn rfl q)
  | cons e r =>
    simp only [List.all_cons, Bool.and_eq_true] at hpl
    refine PySem.W.callWith_KW (h₀ := X.base) I.ok.mod.kin hk k1 ?_ (by rw [noStar (by simp [List.all_cons, hpl.1, hpl.2]), k3]; rfl) (star_cons hpl.1)
    refine thn (ha.run pos pins s σ H (fun vs H1 => ∃ w1 S1 ds, Ext w H w1 H1 ∧ RepSt X.K G w1 H1 S1 ∧ Reps X.K G w1 H1 ds vs ∧ ds.length = n ∧
      PV X.K G W σ ((evEs ⟨lf, evF T lf lv, lm⟩ js env S1).bind fun b S2 => match getSrc (ds ++ b) src with | some l => cutCall (evF T lf lv k) l S2 | none => .bad) w1 H1 (fun _ _ v H' _ => Q v H')) I ⟨env, S, w, R, ?_⟩) fun us s1 ⟨vs, H1, I1, v1, w1, S1, ds, e1, st1, r1, l1, q1⟩ => ?_
    · have q' : PV X.K G W σ ((evEs ⟨lf, evF T lf lv, lm⟩ is env S).bind fun a S1 => (evEs ⟨lf, evF T lf lv, lm⟩ js env S1).bind fun b S2 => match getSrc (a ++ b) src with | some l => cutCall (evF T lf lv k) l S2 | none => .bad) w H (fun _ _ v H' _ => Q v H') := by
        have ee : ((evEs ⟨lf, evF T lf lv, lm⟩ is env S).bind fun a S1 => (evEs ⟨lf, evF T lf lv, lm⟩ js env S1).bind fun b S2 => match getSrc (a ++ b) src with | some l => cutCall (evF T lf lv k) l S2 | none => (.bad : Ev.R D)) =
            ((evEs ⟨lf, evF T lf lv, lm⟩ is env S).bind fun a S1 => (evEs ⟨lf, evF T lf lv, lm⟩ js env S1).bind fun b S2 => Ev.R.ok (a ++ b) S2).bind fun vs S1 => match getSrc vs src with | some ds => cutCall (evF T lf lv k) ds S1 | none => .bad := by
          cases evEs ⟨lf, evF T lf lv, lm⟩ is env S with
          | ok a S1 => simp only [Ev.R.bind]; cases evEs ⟨lf, evF T lf lv, lm⟩ js env S1 <;> rfl
          | exc _ _ => rfl
          | bad => rfl
        rw [ee]
        exact q
      exact PostG.bind (rep := Reps X.K G) q' fun ds S1 vs H1 w1 eq1 e1 st1 r1 p1 => ⟨w1, S1, ds, e1, st1, r1, by rw [evEs_len eq1]; exact hil, p1⟩
    · refine thn (hkw.run pos pins s1 σ H1 (fun zs H2 => ∃ w2 S2 es2, Ext w1 H1 w2 H2 ∧ RepSt X.K G w2 H2 S2 ∧ Reps X.K G w2 H2 es2 zs ∧ es2.length = ks.length ∧
        PV X.K G W σ (match getSrc (ds ++ es2) src with | some l => cutCall (evF T lf lv k) l S2 | none => .bad) w2 H2 (fun _ _ v H' _ => Q v H')) I1 ⟨env, S1, w1, R.ext e1 st1, ?_⟩) fun ws s2 ⟨zs, H2, I2, v2, w2, S2, es2, e2, st2, r2, l2, q2⟩ => ⟨I2.kIn, ?_⟩
      · exact PostG.bind (rep := Reps X.K G) q1 fun es2 S2 zs H2 w2 eq2 e2 st2 r2 p2 => ⟨w2, S2, es2, e2, st2, r2, by rw [evEs_len eq2]; exact hjl, p2⟩
      · rw [k2]
        exact fin I2 st2 (r1.ext e2) r2 v1 v2 l1 l2 q2
/-! ### a call by a local name -/
theorem pe_callL1 {lm : IE → Env' → Store → Ev.R D} {T : List Fn} {lf lv i n : Nat} {tbl : List (Nat × List Src)} {x : Str} {p pos : Pos} {e : Expr} {es : List Expr} {is : IEs}
    (F : ∀ k src, tbl.lookup k = some src → PySem.W.keepIn X.K (.ref (G k)) = true ∧ ∃ fd ps, FnG (lf % 2 = 0) X.prog X.w X.K X.mg X.base lv (G k) fd ps (spF X.K G T lf lv k ps.length) ∧ (∀ fn, T[k]? = some fn → fn.np = ps.length) ∧ BindF X.K G fd ps n [] src)
    (hr : Room lv X.A) (hgu : lf % 2 = 0 → X.A.guards = some []) (hN : X.N[i]? = some x) (hv : Vis X.env.scope x) (tk : Takes X W)
    (ha : PA X (e :: es) (tEs X.K G ⟨lf, evF T lf lv, lm⟩ W is)) (hpl : (e :: es).all plainE = true) (hil : is.len = n)
    (hdb : (x == ("__debug__" : Str)) = false) (hcd : (x == ("__classdict__" : Str)) = false) :
    PE X (.Call (.Name x p) (e :: es) [] pos) (tE X.K G ⟨lf, evF T lf lv, lm⟩ W (.callL i tbl is)) := by
  refine ⟨fun pins s σ H Q I ⟨env, S, w, R, q⟩ => ?_⟩
  simp only [evE] at q
  cases ek : env[i]? with
  | none => rw [ek] at q; exact q.elim
  | some o =>
  cases o with
  | none => rw [ek] at q; exact q.elim
  | some dd =>
  rw [ek] at q
  cases dd with
  | gl k =>
    simp only at q
    cases et : tbl.lookup k with
    | none => rw [et] at q; exact q.elim
    | some src =>
      rw [et] at q
      simp only at q
      obtain ⟨hk, fd, ps, F, hT, hb⟩ := F k src et
      obtain ⟨v, ev, rv⟩ := R.en.get i _ ek
      cases rv
      refine wpAny_Call_Name_kw (thn ((pe_var (pos := p) hN hv hdb hcd).run pins s σ H (fun v H1 => v = .ref (G k) ∧ H1 = H) I ⟨.ref (G k), ev, rfl, rfl⟩) fun u s1 ⟨v, H1, I1, r1, q1⟩ => ?_)
      obtain ⟨rfl, rfl⟩ := q1
      cases r1
      simp only [List.all_cons, Bool.and_eq_true] at hpl
      have hpl' : plainE e = true := hpl.1
      refine PySem.W.callWith_K (h₀ := X.base) I1.ok.mod.kin hk (thn (ha.run pos pins s1 σ H1 (fun vs H1 => ∃ w1 S1 ds, RepSt X.K G w1 H1 S1 ∧ Reps X.K G w1 H1 ds vs ∧ ds.length = n ∧
        PV X.K G W σ (match getSrc ds src with | some l => cutCall (evF T lf lv k) l S1 | none => .bad) w1 H1 (fun _ _ v H' _ => Q v H')) I1 ⟨env, S, w, R, ?_⟩) fun us s2 ⟨vs, H2, I2, v1, w1, S1, ds, st1, rs, l1, q2⟩ => ⟨I2.kIn, ?_⟩) (star_cons hpl') (noStar hpl.2)
      · exact PostG.bind (rep := Reps X.K G) q fun ds S1 vs H1 w1 eq1 e1 st1 r1 p1 => ⟨w1, S1, ds, st1, r1, by rw [evEs_len eq1]; exact hil, p1⟩
      · cases eg : getSrc ds src with
        | none => rw [eg] at q2; exact q2.elim
        | some l =>
          rw [eg] at q2
          obtain ⟨fn, e1, e2⟩ := cut_len (PV.nb q2)
          exact run_G (us := us) (ws := []) F hr hgu hb tk I2 (by rw [List.append_nil]; exact v1) (by rw [← v1.length, ← rs.length, l1]) rfl st1 rs eg (by rw [e2, hT fn e1]) q2
  | _ => exact q.elim
/-! ### displays of dicts -/
theorem cst_ex {e : Expr} (h : cstEx e = true) : (∃ i j p, e = .Constant (.int i) j p) ∨ ∃ x j p, e = .Constant (.str x) j p := by
  unfold cstEx at h
  split at h
  · exact .inl ⟨_, _, _, rfl⟩
  · exact .inr ⟨_, _, _, rfl⟩
  · cases h
theorem pps_cst {X : Cx} {pos : Pos} : ∀ {ks : List (Option Expr)} {vs : List Expr}, dctOk ks vs = true → ks.all (·.isSome) = true ∧ ks.length = vs.length ∧ ∃ (kvs : List (Key × V)) (trs : List (TE × TE)), kvs.length = ks.length ∧ PPs X pos ks vs trs ∧
    ∀ (σ : L2.St) (H : Hp) (Q : List (V × V) → Hp → Prop), Q (kvs.map fun kv => (L2.kV kv.1, kv.2)) H → tPairs trs σ H Q
  | [], [], _ => ⟨rfl, rfl, [], [], rfl, pps_nil, fun _ _ _ q => q⟩
  | some k :: ks, v :: vs, h => by
    simp only [dctOk, Bool.and_eq_true] at h
    obtain ⟨h1, h2, h3⟩ := h
    obtain ⟨i1, i2, kvs, trs, i3, i4, i5⟩ := pps_cst (X := X) (pos := pos) h3
    have key : ∃ kk : Key, PE X k (tC (L2.kV kk)) := by
      rcases cst_ex h1 with ⟨i, j, p, rfl⟩ | ⟨x, j, p, rfl⟩
      · exact ⟨.inl i, pe_int⟩
      · exact ⟨.inr x, pe_str⟩
    have val : ∃ u : V, PE X v (tC u) := by
      rcases cst_ex h2 with ⟨i, j, p, rfl⟩ | ⟨x, j, p, rfl⟩
      · exact ⟨_, pe_int⟩
      · exact ⟨_, pe_str⟩
    obtain ⟨kk, hk⟩ := key
    obtain ⟨u, hu⟩ := val
    refine ⟨by simp [i1], by simp [i2], (kk, u) :: kvs, (tC (L2.kV kk), tC u) :: trs, by simp [i3], pps_cons hk hu i4, fun σ H Q q => ?_⟩
    exact i5 σ H _ q
  | none :: _, _, h => by simp [dctOk] at h
  | some _ :: _, [], h => by simp [dctOk] at h
  | [], _ :: _, h => by simp [dctOk] at h
theorem pe_dct1 {keys : List (Option Expr)} {vals : List Expr} {pos : Pos} (h : dctOk keys vals = true) (h15 : keys.length ≤ 15) : PE X (.Dict keys vals pos) (tE X.K G cf W .dctE) := by
  obtain ⟨h1, h2, kvs, trs, h3, h4, h5⟩ := pps_cst (X := X) (pos := pos) h
  cases keys with
  | nil =>
    cases vals with
    | cons _ _ => simp [dctOk] at h
    | nil =>
      exact pe_dnewK.imp fun σ H Q ⟨env, S, w, R, q⟩ => fun p hp => q (.ref p) _ w (Ext.laid hp) (R.st.laid hp) (.dct upd_same (R.st.fresh hp))
  | cons a r =>
    refine (pe_disp h4 h1 h2 (by simp) h15).imp fun σ H Q ⟨env, S, w, R, q⟩ => fun p hp => h5 _ _ _ ⟨upd_same, kvs, rfl, by rw [h3]; exact h15, ?_⟩
    have eu : upd (upd H p (.dK [])) p (.dK (mergeK [] kvs)) = upd H p (.dK (mergeK [] kvs)) := by
      funext b
      by_cases hb : b = p
      · subst hb; rw [upd_same, upd_same]
      · rw [upd_ne hb, upd_ne hb, upd_ne hb]
    rw [eu]
    exact q (.ref p) _ w (Ext.laid hp) (R.st.laid hp) (.dct upd_same (R.st.fresh hp))
/-! ### a call of a built-in -/
theorem pe_bi {b : BI} {x : Str} {p pos : Pos} {e : Expr} {es : List Expr} {is : IEs} (hc : X.calm = true) (hgu : cf.lf % 2 = 0 → X.A.guards = some []) (hu : X.A.units + 100 < cLine) (hg : Gl X x) (hm : X.mg x = none) (hv : bootBuiltins x = some (biVal b)) (ha : PA X (e :: es) (tEs X.K G cf W is))
    (hn : x ≠ "__name__") (hdb : (x == ("__debug__" : Str)) = false) (hpl : (e :: es).all plainE = true) : PE X (.Call (.Name x p) (e :: es) [] pos) (tE X.K G cf W (.callB b is)) := by
  have key : ∀ σ H Q, tE X.K G cf W (.callB b is) σ H Q → tCB (rC X.K G (bcallR cf.lf b)) (tEs X.K G cf W is) σ H Q := by
    rintro σ H Q ⟨env, S, w, R, q⟩
    simp only [evE] at q
    refine ⟨env, S, w, R, q.bind fun ds S1 vs H1 w1 _ e1 st1 r1 p1 => ?_⟩
    obtain ⟨dd, ed, A⟩ := ans_of p1
    exact ⟨ds, dd, S1, w1, st1, r1, ed, A⟩
  simp only [List.all_cons, Bool.and_eq_true] at hpl
  have hr : CallR X (biVal b) (rC X.K G (bcallR cf.lf b)) := by
    by_cases hrp : rpOk b cf.lf = true
    · have e : bcallR cf.lf b = bcall b := by
        funext ds S
        unfold bcallR
        rw [if_pos hrp]
      rw [e]
      refine call_bi (X := X) (G := G) hc b (fun eb => hgu ?_) hu
      subst eb
      simpa [rpOk] using hrp
    · rintro pins s σ H xs us Q I rx ⟨ds, d, S, w, st, rs, h, q⟩
      unfold bcallR at h
      rw [if_neg hrp] at h
      cases h
  have hs := star_cons (es := es) (env := X.env) hpl.1
  have hp := noStar (pos := pos) (env := X.env) hpl.2
  cases b with
  | bool1 => exact (pe_callTy (T := "bool") hr hg hm hv ha hn hdb hs hp).imp key
  | int => exact (pe_callTy (T := "int") hr hg hm hv ha hn hdb hs hp).imp key
  | tuple => exact (pe_callTy (T := "tuple") hr hg hm hv ha hn hdb hs hp).imp key
  | list => exact (pe_callTy (T := "list") hr hg hm hv ha hn hdb hs hp).imp key
  | len => exact (pe_callB (id := "len") hr hg hm hv ha hn hdb hs hp).imp key
  | abs => exact (pe_callB (id := "abs") hr hg hm hv ha hn hdb hs hp).imp key
  | max2 => exact (pe_callB (id := "max") hr hg hm hv ha hn hdb hs hp).imp key
  | min2 => exact (pe_callB (id := "min") hr hg hm hv ha hn hdb hs hp).imp key
  | repr => exact (pe_callB (id := "repr") hr hg hm hv ha hn hdb hs hp).imp key
  | sum => exact (pe_callB (id := "sum") hr hg hm hv ha hn hdb hs hp).imp key
  | all => exact (pe_callB (id := "all") hr hg hm hv ha hn hdb hs hp).imp key
  | any => exact (pe_callB (id := "any") hr hg hm hv ha hn hdb hs hp).imp key
  | isI => exact (pe_callB (id := "isinstance") hr hg hm hv ha hn hdb hs hp).imp key
  | set => exact (pe_callTy (T := "set") hr hg hm hv ha hn hdb hs hp).imp key
  | max1 => exact (pe_callB (id := "max") hr hg hm hv ha hn hdb hs hp).imp key
  | min1 => exact (pe_callB (id := "min") hr hg hm hv ha hn hdb hs hp).imp key
  | sortI => exact (pe_callB (id := "sorted") hr hg hm hv ha hn hdb hs hp).imp key
  | divmod => exact (pe_callB (id := "divmod") hr hg hm hv ha hn hdb hs hp).imp key
/-- list(..) into a cell -/
theorem call_newL : CallR X (.type "list") (fun xs H Q => ∃ y x S w ys, RepSt X.K G w H S ∧ Rep X.K G w H y x ∧ xs = [x] ∧ itemsS S y = some ys ∧ ∀ p vs, H p = none → Reps X.K G w H ys vs → Q (.ref p) (upd H p (.lst vs))) := by
  rintro pins s σ H xs us Q I rx ⟨y, x, S, w, ys, st, r, rfl, ei, q⟩
  obtain ⟨a, vs, rfl, hs, qs⟩ := seq_of st r ei
  exact call_list_of pins s σ H _ us Q I rx ⟨a, vs, rfl, hs, fun p hp => q p vs hp qs⟩
theorem pe_newL1 {x : Str} {p pos : Pos} {e : Expr} {ie : IE} (hg : Gl X x) (hm : X.mg x = none) (hv : bootBuiltins x = some (.type "list")) (ha : PA X [e] (tEs X.K G cf W (.cons ie .nil)))
    (hn : x ≠ "__name__") (hdb : (x == ("__debug__" : Str)) = false) (hpl : plainE e = true) : PE X (.Call (.Name x p) [e] [] pos) (tE X.K G cf W (.newL ie)) := by
  refine (pe_callTy (T := "list") (call_newL (G := G)) hg hm hv ha hn hdb (star_cons hpl) (noStar rfl)).imp fun σ H Q ⟨env, S, w, R, q⟩ => ?_
  simp only [evE] at q
  have q' : PV X.K G W σ ((evEs cf (.cons ie .nil) env S).bind fun ds S1 => match ds with | [x] => (match itemsS S1 x with | some ds => mkL true ds S1 | none => .bad) | _ => .bad) w H (fun _ _ v H' _ => Q v H') := by
    have ee : (evEs cf (.cons ie .nil) env S).bind (fun ds S1 => match ds with | [x] => (match itemsS S1 x with | some ds => mkL true ds S1 | none => (.bad : Ev.R D)) | _ => .bad) = (evE cf ie env S).bind fun x S1 => match itemsS S1 x with | some ds => mkL true ds S1 | none => .bad := by
      simp only [evEs]
      cases evE cf ie env S <;> rfl
    rw [ee]; exact q
  refine ⟨env, S, w, R, PostG.bind (rep := Reps X.K G) q' fun ds S1 vs H1 w1 _ e1 st1 r1 p1 => ?_⟩
  match ds, r1, p1 with
  | [], _, p1 => exact p1.elim
  | _ :: _ :: _, _, p1 => exact p1.elim
  | [y], .cons r .nil, p1 =>
    simp only at p1
    cases ei : itemsS S1 y with
    | none => rw [ei] at p1; exact p1.elim
    | some ys =>
      rw [ei] at p1
      exact ⟨y, _, S1, w1, ys, st1, r, rfl, ei, fun p vs hp rs => mk_new p1 st1 rs p hp⟩
theorem boot_bi {x : Str} {n : Nat} {b : BI} (h : biOf x n = some b) : bootBuiltins x = some (biVal b) := by
  have one : ∀ {k : Nat} {y : Str} {c : BI} {o : Option BI}, (bootBuiltins y = some (biVal c)) → (if (n == k && x == y) = true then some c else o) = some b → (bootBuiltins x = some (biVal b) ∨ o = some b) := by
    intro k y c o hy hi
    by_cases hc : (n == k && x == y) = true
    · rw [if_pos hc] at hi
      rw [Bool.and_eq_true] at hc
      rw [eq_of_beq hc.2, ← Option.some.inj hi]
      exact .inl hy
    · rw [if_neg hc] at hi
      exact .inr hi
  unfold biOf at h
  rcases one (by decide +kernel) h with h | h
  · exact h
  rcases one (by decide +kernel) h with h | h
  · exact h
  rcases one (by decide +kernel) h with h | h
  · exact h
  rcases one (by decide +kernel) h with h | h
  · exact h
  rcases one (by decide +kernel) h with h | h
  · exact h
  rcases one (by decide +kernel) h with h | h
  · exact h
  rcases one (by decide +kernel) h with h | h
  · exact h
  rcases one (by decide +kernel) h with h | h
  · exact h
  rcases one (by decide +kernel) h with h | h
  · exact h
  rcases one (by decide +kernel) h with h | h
  · exact h
  rcases one (by decide +kernel) h with h | h
  · exact h
  rcases one (by decide +kernel) h with h | h
  · exact h
  rcases one (by decide +kernel) h with h | h
  · exact h
  rcases one (by decide +kernel) h with h | h
  · exact h
  rcases one (by decide +kernel) h with h | h
  · exact h
  rcases one (by decide +kernel) h with h | h
  · exact h
  rcases one (by decide +kernel) h with h | h
  · exact h
  rcases one (by decide +kernel) h with h | h
  · exact h
  cases h
/-! ### a method of a list, of an int -/
theorem recv_il {m : ME} {o : D} {S : Store} (hb : m ≠ .bits) (h : recvOk m o S = true) : (itemsL S o).isSome = true := by
  cases m with
  | bits => exact absurd rfl hb
  | count => exact h
  | index => exact h
  | append => cases o <;> first | exact h | cases h
  | pop => cases o <;> first | exact h | cases h
  | popAt => cases o <;> first | exact h | cases h
  | extend => cases o <;> first | exact h | cases h
theorem base_eq {o : Expr} {m : Str} {env : Env} (h : notCall0 o = true) : attributeBase o m env (eval o env) = eval o env := by
  cases o with
  | Call f es kws p =>
    cases es with
    | nil =>
      cases kws with
      | nil => cases h
      | cons _ _ => cases f <;> rfl
    | cons _ _ => cases f <;> rfl
  | _ => rfl
theorem pe_me (hu : X.A.units + 65 < cLine) {m : ME} {o : Expr} {x : Str} {ap pos : Pos} {es : List Expr} {io : IE} {is : IEs} (hm : meOf x es.length = some m) (ho : PE X o (tE X.K G cf W io)) (ha : PA X es (tEs X.K G cf W is)) (hbase : notCall0 o = true) (hline : (ap.endLine == pos.line) = true) (hfew : es.length < 20) (hpl : es.all plainE = true) (hil : is.len = es.length) :
    PE X (.Call (.Attribute o x ap) es [] pos) (tE X.K G cf W (.meth m io is)) := by
  have few : ∀ {e : Expr} {r : List Expr}, es = e :: r → ((backTo pos (starEach (e :: r) X.env)).all (fun x => !x.1) && (backToKw pos (keywordEach [] X.env)).all (fun x => x.1.isSome)
      && decide ((e :: r).length + ([] : List Keyword).length + (if ([] : List Keyword).isEmpty then 0 else 1) < 30)) = true := by
    intro e r ee
    subst ee
    have h1 := noStar (pos := pos) (env := X.env) hpl
    have h2 : (backTo pos (starEach (e :: r) X.env)).all (fun x => !x.1) = true := by
      rw [List.all_eq_true]
      intro z hz
      have := List.any_eq_false.mp h1 z hz
      simpa using this
    rw [h2]
    have h3 : (e :: r).length + 0 + 0 < 30 := by omega
    simp [backToKw, keywordEach]
    simp at h3
    omega
  have lst : ∀ {id : String} {r : V → List V → Hp → VK → Prop}, m ≠ .bits → (∀ σ H Q, tE X.K G cf W (.meth m io is) σ H Q → tBM X.K "list" (rM X.K G m) (tE X.K G cf W io) (tEs X.K G cf W is) σ H Q) := by
    rintro _ _ hb σ H Q ⟨env, S, w, R, q⟩
    simp only [evE] at q
    refine ⟨env, S, w, R, q.bind fun d1 S1 v1 H1 w1 _ e1 st1 r1 p1 => ?_⟩
    split at p1
    · rename_i hrc
      have hty : tyV X.K "list" v1 H1 := by
        have hil : (itemsL S1 d1).isSome = true := recv_il hb hrc
        obtain ⟨ys, e0⟩ := Option.isSome_iff_exists.mp hil
        obtain ⟨a, vs, rfl, e2, e3⟩ := lst_of st1 r1 e0
        exact .inl ⟨rfl, vs, e2⟩
      refine ⟨hty, env, S1, w1, R.ext e1 st1, p1.bind fun ds S2 vs H2 w2 _ e2 st2 r2 p2 => ?_⟩
      cases em : mcall m d1 ds S2 with
      | none => rw [em] at p2; exact p2.elim
      | some z =>
        obtain ⟨dd, S3⟩ := z
        rw [em] at p2
        exact ⟨d1, ds, dd, S2, S3, w2, st2, r1.ext e2, r2, em, fun v H' e st r => p2 v H' w2 e st r⟩
    · exact p1.elim
  have nilE : es = [] → is = .nil := by
    rintro rfl
    cases is with
    | nil => rfl
    | cons _ _ => simp [IEs.len] at hil
  have lst0 : m ≠ .bits → es = [] → (∀ σ H Q, tE X.K G cf W (.meth m io is) σ H Q → tBM0 X.K "list" (rM X.K G m) (tE X.K G cf W io) σ H Q) := by
    intro hb h0 σ H Q hq
    have hi := nilE h0
    subst hi
    obtain ⟨env, S, w, R, q⟩ := hq
    simp only [evE] at q
    refine ⟨env, S, w, R, q.bind fun d1 S1 v1 H1 w1 _ e1 st1 r1 p1 => ?_⟩
    split at p1
    · rename_i hrc
      have hty : tyV X.K "list" v1 H1 := by
        have hil : (itemsL S1 d1).isSome = true := recv_il hb hrc
        obtain ⟨ys, e0⟩ := Option.isSome_iff_exists.mp hil
        obtain ⟨a, vs, rfl, e2, e3⟩ := lst_of st1 r1 e0
        exact .inl ⟨rfl, vs, e2⟩
      refine ⟨hty, ?_⟩
      simp only [evEs, Ev.R.bind] at p1
      cases em : mcall m d1 [] S1 with
      | none => rw [em] at p1; exact p1.elim
      | some z =>
        obtain ⟨dd, S3⟩ := z
        rw [em] at p1
        exact ⟨d1, [], dd, S1, S3, w1, st1, r1, .nil, em, fun v H' e st r => p1 v H' w1 e st r⟩
    · exact p1.elim
  unfold meOf at hm
  split at hm
  · rename_i hc
    rw [Bool.and_eq_true] at hc
    have e := eq_of_beq hc.2
    subst e
    cases Option.some.inj hm
    cases es with
    | nil => simp at hc
    | cons a r =>
      have hpl' := hpl
      simp only [List.all_cons, Bool.and_eq_true] at hpl'
      exact (pe_bm (r := rM X.K G .append) PySem.F.plainAttrs_list PySem.F.slot_list_append PySem.F.type_list_append (mt_ok hu (by decide)) ho ha (base_eq hbase) (few rfl) hline (star_cons hpl'.1) (noStar hpl'.2)).imp (lst (id := "") (r := fun _ _ _ _ => True) (by decide))
  split at hm
  · rename_i _ hc
    rw [Bool.and_eq_true] at hc
    have e := eq_of_beq hc.2
    subst e
    cases Option.some.inj hm
    have h0 : es = [] := by
      cases es with
      | nil => rfl
      | cons _ _ => simp at hc
    have hi := nilE h0
    subst h0 hi
    refine (pe_bits ho (base_eq hbase) hline).imp fun σ H Q ⟨env, S, w, R, q⟩ => ?_
    simp only [evE] at q
    refine ⟨env, S, w, R, q.bind fun d1 S1 v1 H1 w1 _ e1 st1 r1 p1 => ?_⟩
    cases d1 with
    | int i => cases r1; exact ⟨i, rfl, p1 _ H1 w1 (Ext.refl _ _) st1 (.int _)⟩
    | _ => exact p1.elim
  split at hm
  · rename_i _ _ hc
    rw [Bool.and_eq_true] at hc
    have e := eq_of_beq hc.2
    subst e
    cases Option.some.inj hm
    have h0 : es = [] := by
      cases es with
      | nil => rfl
      | cons _ _ => simp at hc
    have hl := lst0 (by decide) h0
    subst h0
    exact (pe_bm0 (r := rM X.K G .pop) PySem.F.plainAttrs_list PySem.F.slot_list_pop PySem.F.type_list_pop (mt_ok hu (by decide)) ho (base_eq hbase) hline).imp hl
  split at hm
  · rename_i _ _ _ hc
    rw [Bool.and_eq_true] at hc
    have e := eq_of_beq hc.2
    subst e
    cases Option.some.inj hm
    cases es with
    | nil => simp at hc
    | cons a r =>
      have hpl' := hpl
      simp only [List.all_cons, Bool.and_eq_true] at hpl'
      exact (pe_bm (r := rM X.K G .popAt) PySem.F.plainAttrs_list PySem.F.slot_list_pop PySem.F.type_list_pop (mt_ok hu (by decide)) ho ha (base_eq hbase) (few rfl) hline (star_cons hpl'.1) (noStar hpl'.2)).imp (lst (id := "") (r := fun _ _ _ _ => True) (by decide))
  split at hm
  · rename_i hc
    rw [Bool.and_eq_true] at hc
    have e := eq_of_beq hc.2
    subst e
    cases Option.some.inj hm
    cases es with
    | nil => simp at hc
    | cons a r =>
      have hpl' := hpl
      simp only [List.all_cons, Bool.and_eq_true] at hpl'
      exact (pe_bm (r := rM X.K G .extend) PySem.F.plainAttrs_list PySem.F.slot_list_extend PySem.F.type_list_extend (mt_ok hu (by decide)) ho ha (base_eq hbase) (few rfl) hline (star_cons hpl'.1) (noStar hpl'.2)).imp (lst (id := "") (r := fun _ _ _ _ => True) (by decide))
  split at hm
  · rename_i hc
    rw [Bool.and_eq_true] at hc
    have e := eq_of_beq hc.2
    subst e
    cases Option.some.inj hm
    cases es with
    | nil => simp at hc
    | cons a r =>
      have hpl' := hpl
      simp only [List.all_cons, Bool.and_eq_true] at hpl'
      exact (pe_bm (r := rM X.K G .count) PySem.F.plainAttrs_list PySem.F.slot_list_count PySem.F.type_list_count (mt_ok hu (by decide)) ho ha (base_eq hbase) (few rfl) hline (star_cons hpl'.1) (noStar hpl'.2)).imp (lst (id := "") (r := fun _ _ _ _ => True) (by decide))
  split at hm
  · rename_i hc
    rw [Bool.and_eq_true] at hc
    have e := eq_of_beq hc.2
    subst e
    cases Option.some.inj hm
    cases es with
    | nil => simp at hc
    | cons a r =>
      have hpl' := hpl
      simp only [List.all_cons, Bool.and_eq_true] at hpl'
      exact (pe_bm (r := rM X.K G .index) PySem.F.plainAttrs_list PySem.F.slot_list_index PySem.F.type_list_index (mt_ok hu (by decide)) ho ha (base_eq hbase) (few rfl) hline (star_cons hpl'.1) (noStar hpl'.2)).imp (lst (id := "") (r := fun _ _ _ _ => True) (by decide))
  cases hm
/-! ### targets -/
theorem PG.imp {e : Expr} {t t' : TG} (h : PG X e t) (k : ∀ v σ H Q, t' v σ H Q → t v σ H Q) : PG X e t' := ⟨fun pins s σ H v u Q I r q => h.run pins s σ H v u Q I r (k v σ H Q q)⟩
theorem PGs.imp {e : List Expr} {t t' : TGs} (h : PGs X e t) (k : ∀ v σ H Q, t' v σ H Q → t v σ H Q) : PGs X e t' := ⟨fun pins s σ H v u Q I r q => h.run pins s σ H v u Q I r (k v σ H Q q)⟩
theorem wipe_set {σ : L2.St} {i : Nat} {o : Option V} : ∀ vs : List Nat, i ∈ vs → wipe (σ.set i o) vs = wipe σ vs
  | [], h => by cases h
  | j :: vs, h => by
    by_cases z : i ∈ vs
    · show (wipe (σ.set i o) vs).set j none = (wipe σ vs).set j none
      rw [wipe_set vs z]
    · have e : i = j := by
        rcases List.mem_cons.mp h with e | e
        · exact e
        · exact absurd e z
      subst e
      have key : ∀ us : List Nat, i ∉ us → wipe (σ.set i o) us = (wipe σ us).set i o := by
        intro us hu
        induction us with
        | nil => rfl
        | cons k us ih =>
          have h1 : i ≠ k := fun e => hu (e ▸ List.mem_cons_self)
          show (wipe (σ.set i o) us).set k none = ((wipe σ us).set k none).set i o
          rw [ih fun m => hu (List.mem_cons_of_mem _ m), List.set_comm _ _ h1]
      show (wipe (σ.set i o) vs).set i none = (wipe σ vs).set i none
      rw [key vs z, List.set_set]
theorem unp_of {S : Store} {g : IG} {d : D} {env env' : Env'} (h : bindG g d env = some env') : bindG g (unp S g d) env = some env' := by
  cases g with
  | nm i => exact h
  | tup gs =>
    cases d with
    | ref l => cases h
    | _ => exact h
/-- the target takes d: the slots behind it -/
def tG (K : PySem.W.Frag) (G : Gx) (g : IG) : TG := fun v σ H Q => ∃ d env env' S w, Rel K G w σ H env S ∧ Rep K G w H d v ∧ bindG g (unp S g d) env = some env' ∧ ∀ σ', RepEnv K G w H env' σ' → (∀ vs, (∀ i ∈ gslots g, i ∈ vs) → wipe σ' vs = wipe σ vs) → Q σ' H
def tGs (K : PySem.W.Frag) (G : Gx) (g : IGs) : TGs := fun vs σ H Q => ∃ ds env env' S w, Rel K G w σ H env S ∧ Reps K G w H ds vs ∧ bindGs g ds env = some env' ∧ ∀ σ', RepEnv K G w H env' σ' → (∀ vs, (∀ i ∈ gslots.gslotss g, i ∈ vs) → wipe σ' vs = wipe σ vs) → Q σ' H
theorem pg_nm {i : Nat} {x : Str} {pos : Pos} (hN : X.N.Nodup) (hi : X.N[i]? = some x) (hx : Loc X.env.scope x) (hf : X.fn x = true ∨ X.env.scope.names.lookup x = some .local) : PG X (.Name x pos) (tG X.K G (.nm i)) :=
  PG.imp (pg_name hN hi hx hf) fun v σ H Q ⟨d, env, env', S, w, R, r, h, k⟩ => by
    cases Option.some.inj h
    exact k _ (R.en.set r) fun vs hv => wipe_set vs (hv i (by simp [gslots]))
theorem pgs_nil1 : PGs X [] (tGs X.K G .nil) := PGs.imp pgs_nil fun vs σ H Q ⟨ds, env, env', S, w, R, r, h, k⟩ => by
  cases r with
  | nil => cases Option.some.inj h; exact ⟨rfl, k σ R.en fun _ _ => rfl⟩
  | cons _ _ => cases h
theorem assign_cons {e : Expr} {es : List Expr} {env : Env} (h : plainE e = true) : (assignEach (e :: es) env).map (·.2) = assign e env :: (assignEach es env).map (·.2) ∧ (assignEach (e :: es) env).map (·.1) = false :: (assignEach es env).map (·.1) := by
  cases e <;> first
    | (simp [plainE] at h; done)
    | exact ⟨rfl, rfl⟩
theorem pgs_cons1 {e : Expr} {es : List Expr} {g : IG} {gs : IGs} (h1 : PG X e (tG X.K G g)) (h2 : PGs X es (tGs X.K G gs)) (hp : plainE e = true) : PGs X (e :: es) (tGs X.K G (.cons g gs)) :=
  PGs.imp (pgs_cons h1 h2 (assign_cons hp).1) fun vs σ H Q ⟨ds, env, env', S, w, R, r, h, k⟩ => by
    cases r with
    | nil => cases h
    | @cons d v ds' vs' r1 r2 =>
      simp only [bindGs] at h
      cases e1 : bindG g d env with
      | none => rw [e1] at h; cases h
      | some env1 =>
        rw [e1] at h
        exact ⟨v, vs', rfl, d, env, env1, S, w, R, r1, unp_of e1, fun σ' R' w1 => ⟨ds', env1, env', S, w, ⟨R.st, R'⟩, r2, h, fun σ2 R2 w2 => k σ2 R2 fun us hu => (w2 us fun i m => hu i (by simp [gslots.gslotss, m])).trans (w1 us fun i m => hu i (by simp [gslots.gslotss, m]))⟩⟩
theorem bindGs_len : ∀ {gs : IGs} {ds : List D} {env env' : Env'} , bindGs gs ds env = some env' → ∀ n, (∀ es2 : List D, ∀ e1 e2, bindGs gs es2 e1 = some e2 → es2.length = n) → ds.length = n := fun h n k => k _ _ _ h
def IGs.len : IGs → Nat
  | .nil => 0
  | .cons _ r => r.len + 1
theorem bindGs_n : ∀ {gs : IGs} {ds : List D} {env env' : Env'}, bindGs gs ds env = some env' → ds.length = gs.len
  | .nil, [], _, _, _ => rfl
  | .nil, _ :: _, _, _, h => by cases h
  | .cons g r, [], _, _, h => by cases h
  | .cons g r, d :: ds, env, env', h => by
    simp only [bindGs] at h
    cases e1 : bindG g d env with
    | none => rw [e1] at h; cases h
    | some env1 =>
      rw [e1] at h
      exact congrArg Nat.succ (bindGs_n h)
theorem assign_plain {env : Env} : ∀ {es : List Expr}, es.all plainE = true → (assignEach es env).length = es.length ∧ (assignEach es env).findIdx? (·.1) = none
  | [], _ => ⟨rfl, rfl⟩
  | e :: es, h => by
    simp only [List.all_cons, Bool.and_eq_true] at h
    obtain ⟨h1, h2⟩ := assign_plain (env := env) h.2
    have c : assignEach (e :: es) env = (false, assign e env) :: assignEach es env := by
      cases e <;> first
        | (simp [plainE] at h; done)
        | rfl
    rw [c]
    refine ⟨by simp [h1], ?_⟩
    rw [List.findIdx?_cons]
    simp [h2]
theorem pg_or {tg : Expr} {t1 t2 : TG} (h1 : PG X tg t1) (h2 : PG X tg t2) : PG X tg (fun v σ H Q => t1 v σ H Q ∨ t2 v σ H Q) :=
  ⟨fun pins s σ H v u Q I r q => q.elim (h1.run pins s σ H v u Q I r) (h2.run pins s σ H v u Q I r)⟩
theorem pg_tup1 {es : List Expr} {k : Nat} {pos : Pos} {gs : IGs} (hc : X.calm = true) (h : PGs X es (tGs X.K G gs)) (hp : es.all plainE = true) (hl : gs.len = es.length) : PG X (.Tuple es k pos) (tG X.K G (.tup gs)) :=
  PG.imp (pg_or (pg_tup (n := es.length) hc h (assign_plain hp).1 (assign_plain hp).2) (pg_unl (n := es.length) hc h (assign_plain hp).1 (assign_plain hp).2)) fun v σ H Q ⟨d, env, env', S, w, R, r, h, k⟩ => by
    cases r with
    | tup h1 h2 =>
      have hn := bindGs_n (gs := gs) h
      exact .inl ⟨_, _, rfl, h1.sq, by rw [← h2.length, hn, hl], _, env, env', S, w, R, h2, h, fun σ' R' q => k σ' R' fun us hu => q us fun i m => hu i (by simpa [gslots] using m)⟩
    | lst h1 h2 =>
      have hn := bindGs_n (gs := gs) h
      exact .inr ⟨_, _, rfl, h1.sq, by rw [← h2.length, hn, hl], _, env, env', S, w, R, h2, h, fun σ' R' q => k σ' R' fun us hu => q us fun i m => hu i (by simpa [gslots] using m)⟩
    | @ref a l h1 =>
      have h' : bindG (.tup gs) (match cel S l with | some xs => .lst xs | none => .ref l) env = some env' := h
      cases ec : cel S l with
      | none => rw [ec] at h'; cases h'
      | some xs =>
        rw [ec] at h'
        obtain ⟨vs, _, e2, e3⟩ := R.st.at3 h1 ec
        have hn := bindGs_n (gs := gs) h'
        exact .inr ⟨_, _, rfl, SqL.of e2, by rw [← e3.length, hn, hl], _, env, env', S, w, R, e3, h', fun σ' R' q => k σ' R' fun us hu => q us fun i m => hu i (by simpa [gslots] using m)⟩
    | _ => cases h
/-! ### what is walked -/
/-- the iterator J gives these items, wherever the world has gone to -/
def ItOk (K : PySem.W.Frag) (G : Gx) (J : It) (it : It') (w : Wd) (H : Hp) : Prop :=
  match it with
  | .st ds => ∀ (w' : Wd) (H' : Hp) (S' : Store), Ext w H w' H' → RepSt K G w' H' S' → ∀ i, (∀ d, ds[i]? = some d → J.go i H' ∧ ∀ x H'', J.yld i H' x H'' → Ext w' H' w' H'' ∧ RepSt K G w' H'' S' ∧ Rep K G w' H'' d x) ∧ (ds[i]? = none → J.stop i H')
  | .dyn l => ∀ (w' : Wd) (H' : Hp) (S' : Store), Ext w H w' H' → RepSt K G w' H' S' → ∀ i ds, cel S' l = some ds → (∀ d, ds[i]? = some d → J.go i H' ∧ ∀ x H'', J.yld i H' x H'' → Ext w' H' w' H'' ∧ RepSt K G w' H'' S' ∧ Rep K G w' H'' d x) ∧ (ds[i]? = none → J.stop i H')
theorem ItOk.ext {K : PySem.W.Frag} {J : It} {it : It'} {w w1 : Wd} {H H1 : Hp} (h : ItOk K G J it w H) (e : Ext w H w1 H1) : ItOk K G J it w1 H1 := by
  cases it with
  | st ds => exact fun w' H' S' e' st => h w' H' S' (e.trans e') st
  | dyn l => exact fun w' H' S' e' st => h w' H' S' (e.trans e') st
def tI (K : PySem.W.Frag) (G : Gx) (cf : Cf) (W : WX) (i : II) : TI := fun σ H R =>
  ∃ env S w, Rel K G w σ H env S ∧ PostG (α := It') (β := It) K G W σ (fun w H it J => ItOk K G J it w H) (evI cf i env S) w H (fun _ _ J H' _ => R J H')
theorem PI.imp {tg e : Expr} {t t' : TI} (h : PI X tg e t) (k : ∀ σ H Q, t' σ H Q → t σ H Q) : PI X tg e t' := ⟨fun pins s σ H Q I q => h.run pins s σ H Q I (k σ H Q q)⟩
theorem PI.alt {tg e : Expr} {t t' : TI} (h : PI X tg e t) (h' : PI X tg e t') : PI X tg e (fun σ H Q => t σ H Q ∨ t' σ H Q) := ⟨fun pins s σ H Q I q => q.elim (h.run pins s σ H Q I) (h'.run pins s σ H Q I)⟩
end
end Ev
/-! Ev, part Zp: zip where each of the two is a list or a tuple. -/
namespace EvZp
open PySem PySem.Spec PyProof.Rows L2
section
variable {prog : Program} {w : World} {A : Around} {E : Value → Shared → Prop} {s : Shared}
/-- at l a tuple (b) or a list -/
def Sq (b : Bool) (h : Heap) (l : Addr) (xs : Array Value) : Prop := if b then h.IsTuple l xs else h.IsList l xs
/-- at it an iterator of such, k items on -/
def Nx (b : Bool) (h : Heap) (it l : Addr) (k : Nat) : Prop := if b then h.IsTupleIter it l k else h.IsListIter it l k
theorem Sq.eb {b : Bool} {c l : Addr} {xs : Array Value} {h h' : Heap} (q : Sq b h l xs) (e : Heap.ExtBut c h h') (n : l ≠ c) : Sq b h' l xs := by
  cases b
  · exact Heap.IsList.extBut (show h.IsList l xs from q) e n
  · exact Heap.IsTuple.extBut (show h.IsTuple l xs from q) e n
theorem Nx.eb {b : Bool} {c it l : Addr} {k : Nat} {h h' : Heap} (q : Nx b h it l k) (e : Heap.ExtBut c h h') (n : it ≠ c) : Nx b h' it l k := by
  cases b
  · exact Heap.IsListIter.extBut (show h.IsListIter it l k from q) e n
  · exact Heap.IsTupleIter.extBut (show h.IsTupleIter it l k from q) e n
theorem Nx.at_ {b : Bool} {it l : Addr} {k : Nat} {h h' : Heap} (q : Nx b h it l k) (e : ∀ o, h.get? it = some o → h'.get? it = some o) : Nx b h' it l k := by
  cases b
  · exact Heap.IsListIter.at (show h.IsListIter it l k from q) e
  · exact Heap.IsTupleIter.at (show h.IsTupleIter it l k from q) e
theorem Nx.lt {b : Bool} {it l : Addr} {k : Nat} {h : Heap} (q : Nx b h it l k) : it < h.objs.size := by
  cases b
  · obtain ⟨_, e, _⟩ := (show h.IsListIter it l k from q); exact Heap.lt_size e
  · obtain ⟨_, e, _⟩ := (show h.IsTupleIter it l k from q); exact Heap.lt_size e
theorem Nx.ob {b : Bool} {it l : Addr} {k : Nat} {h : Heap} (q : Nx b h it l k) : ∃ o fs, h.get? it = some o ∧ o.data = .fields fs := by
  cases b
  · obtain ⟨o, e, _, d⟩ := (show h.IsListIter it l k from q); exact ⟨o, _, e, d⟩
  · obtain ⟨o, e, _, d⟩ := (show h.IsTupleIter it l k from q); exact ⟨o, _, e, d⟩
theorem step {b : Bool} {it l : Addr} {k : Nat} {xs : Array Value} {x : Value} {Q : Value → Shared → Prop} (hi : Nx b s.heap it l k) (hl : Sq b s.heap l xs) (hx : xs[k]? = some x)
    (q : ∀ h', Nx b h' it l (k + 1) → Heap.SameBut it s.heap h' → Q x { s with heap := h' }) : wpAny (model prog w) A (Builtin.SmallTypes.nextOf (.ref it)) Q E s := by
  cases b
  · exact wpAny_nextOf_list_item (show s.heap.IsListIter it l k from hi) (show s.heap.IsList l xs from hl) hx q
  · exact RZ.nextOf_tuple_item (show s.heap.IsTupleIter it l k from hi) (show s.heap.IsTuple l xs from hl) hx q
theorem stop {b : Bool} {it l : Addr} {k : Nat} {xs : Array Value} {Q : Value → Shared → Prop} (hh : A.handled = none) (hi : Nx b s.heap it l k) (hl : Sq b s.heap l xs) (hx : xs[k]? = none)
    (q : ∀ h' e, Heap.ExtBut it s.heap h' → (∃ o, h'.get? e = some o ∧ o.cls = .type "StopIteration") → E (.ref e) { s with heap := h' }) : wpAny (model prog w) A (Builtin.SmallTypes.nextOf (.ref it)) Q E s := by
  cases b
  · exact wpAny_nextOf_list_end hh (show s.heap.IsListIter it l k from hi) (show s.heap.IsList l xs from hl) hx q
  · exact RZ.nextOf_tuple_end hh (show s.heap.IsTupleIter it l k from hi) (show s.heap.IsTuple l xs from hl) hx q
variable {b1 b2 : Bool} {z TI TO i1 i2 l1 l2 : Addr} {k1 k2 : Nat} {xs ys : Array Value}
/-- what a zip of the two is, at such a turn -/
structure Zp (b1 b2 : Bool) (h : Heap) (z TI TO i1 i2 l1 l2 : Addr) (k1 k2 : Nat) (f0 c d : Value) : Prop where
  zp : IsZip h z TI TO f0
  ti : IsPair h TI (.ref i1) (.ref i2)
  to : IsPair h TO c d
  n1 : Nx b1 h i1 l1 k1
  n2 : Nx b2 h i2 l2 k2
theorem turn (D : ZipApart z TI TO i1 i2 l1 l2) {c d x y : Value} (Z : Zp b1 b2 s.heap z TI TO i1 i2 l1 l2 k1 k2 .none c d) (q1 : Sq b1 s.heap l1 xs) (q2 : Sq b2 s.heap l2 ys) (hx : xs[k1]? = some x) (hy : ys[k2]? = some y) {Q : Value → Shared → Prop}
    (hq : ∀ h', Zp b1 b2 h' z TI TO i1 i2 l1 l2 (k1 + 1) (k2 + 1) (rawInt s.heap.objs.size) x y → IsPair h' s.heap.objs.size x y → h'.objs.size = s.heap.objs.size + 1 → (∀ a o, a ≠ z → a ≠ TO → a ≠ i1 → a ≠ i2 → s.heap.get? a = some o → h'.get? a = some o) → Q (.ref s.heap.objs.size) { s with heap := h' }) :
    wpAny (model prog w) A (Builtin.«zip.__next__» ⟨[.ref z], []⟩) (fun fin s' => ∃ v, fin = .done (.ret v) ∧ Q v s') E s := by
  obtain ⟨zp, ti, to, n1, n2⟩ := Z
  show wpAny _ _ (field (.ref z) 2 >>= _) _ _ _
  refine wpAny_bind (wpAny_field zp rfl (x := .bool false) rfl (show wpAny _ _ (field (.ref z) 3 >>= _) _ _ _ from wpAny_bind (wpAny_field zp rfl (x := .ref TI) rfl (wpAny_bind (wpAny_seqItems ti rfl ?_)))))
  show wpAny _ _ (Builtin.SmallTypes.ownedTupleIsFree (.ref z) >>= _) _ _ _
  unfold Builtin.SmallTypes.ownedTupleIsFree
  refine wpAny_bind (wpAny_bind (wpAny_field zp rfl (x := .none) rfl (wpAny_pure ?_)))
  rw [if_pos rfl]
  refine wpAny_bind (wpAny_rule (wpAny_bind (wpAny_field zp rfl (x := .ref TO) rfl (wpAny_bind (wpAny_setField_rec zp (by simp) fun g1 zp1 s1 => ?_)))))
  replace zp1 : IsZip g1 z TI TO .ellipsis := zp1
  refine wpAny_bind ?_
  simp only [List.zipIdx_cons, List.zipIdx_nil, List.forIn_cons, List.forIn_nil]
  refine wpAny_bind (wpAny_bind (wpAny_onRaise (show wpAny _ _ (Builtin.SmallTypes.nextOf (.ref i1) >>= _) _ _ _ from wpAny_bind (step (n1.eb s1.extBut D.i1z) (q1.eb s1.extBut D.l1z) hx fun g2 m1 s2 => wpAny_pure ?_))))
  have to2 : IsPair g2 TO c d := s2.extBut _ _ D.TOi1 (s1.extBut _ _ D.TOz to)
  refine wpAny_bind (wpAny_seqItems to2 rfl (wpAny_bind (wpAny_updateSeq_pair to2 fun g3 to3 s3 => wpAny_bind (wpAny_letGo (wpAny_pure ?_)))))
  replace to3 : IsPair g3 TO x d := to3
  refine wpAny_bind (wpAny_bind (wpAny_onRaise (show wpAny _ _ (Builtin.SmallTypes.nextOf (.ref i2) >>= _) _ _ _ from wpAny_bind (step (((n2.eb s1.extBut D.i2z).eb s2.extBut D.i12.symm).eb s3.extBut D.TOi2.symm) (((q2.eb s1.extBut D.l2z).eb s2.extBut D.l2i1).eb s3.extBut D.l2TO) hy fun g4 m2 s4 => wpAny_pure ?_))))
  have to4 : IsPair g4 TO x d := s4.extBut _ _ D.TOi2 to3
  refine wpAny_bind (wpAny_seqItems to4 rfl (wpAny_bind (wpAny_updateSeq_pair to4 fun g5 to5 s5 => wpAny_bind (wpAny_letGo (wpAny_pure (wpAny_pure ?_))))))
  replace to5 : IsPair g5 TO x y := to5
  have sz : g5.objs.size = s.heap.objs.size := by rw [s5.1, s4.1, s3.1, s2.1, s1.1]
  have zp5 : IsZip g5 z TI TO .ellipsis := s5.extBut _ _ D.TOz.symm (s4.extBut _ _ D.i2z.symm (s3.extBut _ _ D.TOz.symm (s2.extBut _ _ D.i1z.symm zp1)))
  have kp : ∀ a o, a ≠ z → a ≠ TO → a ≠ i1 → a ≠ i2 → s.heap.get? a = some o → g5.get? a = some o := fun a o c1 c2 c3 c4 e => s5.extBut _ _ c2 (s4.extBut _ _ c4 (s3.extBut _ _ c2 (s2.extBut _ _ c3 (s1.extBut _ _ c1 e))))
  have m1' : Nx b1 g5 i1 l1 (k1 + 1) := ((m1.eb s3.extBut D.TOi1.symm).eb s4.extBut D.i12).eb s5.extBut D.TOi1.symm
  have m2' : Nx b2 g5 i2 l2 (k2 + 1) := m2.eb s5.extBut D.TOi2.symm
  have zlt := Heap.lt_size zp5
  refine wpAny_bind (wpAny_seqItems to5 rfl (wpAny_bind (wpAny_newTuple ?_)))
  show wpAny _ _ (Builtin.SmallTypes.ownedTupleHandOut (.ref z) (.ref g5.objs.size) >>= _) _ _ _
  unfold Builtin.SmallTypes.ownedTupleHandOut
  have zp6 : IsZip (g5.push { cls := .type "tuple", data := .seq #[x, y] }) z TI TO .ellipsis := Heap.get?_push_of_some _ zp5
  refine wpAny_bind (wpAny_bind (wpAny_setField_rec zp6 (by simp) fun g7 zp7 s7 => ?_))
  replace zp7 : IsZip g7 z TI TO (rawInt g5.objs.size) := zp7
  refine wpAny_setField_rec zp7 (by simp) fun g8 zp8 s8 => ?_
  replace zp8 : IsZip g8 z TI TO (rawInt g5.objs.size) := zp8
  have up : ∀ a o, a ≠ z → g5.get? a = some o → g8.get? a = some o := fun a o n e => s8.extBut _ _ n (s7.extBut _ _ n (Heap.get?_push_of_some _ e))
  have new : IsPair g8 g5.objs.size x y := s8.extBut _ _ (Nat.ne_of_gt zlt) (s7.extBut _ _ (Nat.ne_of_gt zlt) (Heap.get?_push_size _ rfl))
  have sz8 : g8.objs.size = g5.objs.size + 1 := by rw [s8.1, s7.1, Heap.size_push]
  rw [sz] at zp8 new sz8
  refine wpAny_pure ⟨_, rfl, ?_⟩
  show Q (.ref g5.objs.size) _
  rw [sz]
  have ti5 : IsPair g5 TI (.ref i1) (.ref i2) := kp _ _ D.TIz D.TITO D.TIi1 D.TIi2 ti
  exact hq g8 ⟨zp8, up _ _ D.TIz ti5, up _ _ D.TOz to5, m1'.at_ fun o e => up _ o D.i1z e, m2'.at_ fun o e => up _ o D.i2z e⟩ new sz8 fun a o c1 c2 c3 c4 e => up a o c1 (kp a o c1 c2 c3 c4 e)
theorem over (hh : A.handled = none) (D : ZipApart z TI TO i1 i2 l1 l2) {c d : Value} (Z : Zp b1 b2 s.heap z TI TO i1 i2 l1 l2 k1 k2 .none c d) (q1 : Sq b1 s.heap l1 xs) (q2 : Sq b2 s.heap l2 ys) (he : xs[k1]? = none ∨ ys[k2]? = none) {Q : Fin → Shared → Prop}
    (hq : ∀ h' e, (∀ a o, a ≠ z → a ≠ TO → a ≠ i1 → a ≠ i2 → s.heap.get? a = some o → h'.get? a = some o) → (∃ o, h'.get? e = some o ∧ o.cls = .type "StopIteration") → E (.ref e) { s with heap := h' }) :
    wpAny (model prog w) A (Builtin.«zip.__next__» ⟨[.ref z], []⟩) Q E s := by
  obtain ⟨zp, ti, to, n1, n2⟩ := Z
  show wpAny _ _ (field (.ref z) 2 >>= _) _ _ _
  refine wpAny_bind (wpAny_field zp rfl (x := .bool false) rfl (show wpAny _ _ (field (.ref z) 3 >>= _) _ _ _ from wpAny_bind (wpAny_field zp rfl (x := .ref TI) rfl (wpAny_bind (wpAny_seqItems ti rfl ?_)))))
  show wpAny _ _ (Builtin.SmallTypes.ownedTupleIsFree (.ref z) >>= _) _ _ _
  unfold Builtin.SmallTypes.ownedTupleIsFree
  refine wpAny_bind (wpAny_bind (wpAny_field zp rfl (x := .none) rfl (wpAny_pure ?_)))
  rw [if_pos rfl]
  refine wpAny_bind (wpAny_rule (wpAny_bind (wpAny_field zp rfl (x := .ref TO) rfl (wpAny_bind (wpAny_setField_rec zp (by simp) fun g1 zp1 s1 => ?_)))))
  replace zp1 : IsZip g1 z TI TO .ellipsis := zp1
  refine wpAny_bind ?_
  simp only [List.zipIdx_cons, List.zipIdx_nil, List.forIn_cons, List.forIn_nil]
  refine wpAny_bind (wpAny_bind (wpAny_onRaise (show wpAny _ _ (Builtin.SmallTypes.nextOf (.ref i1) >>= _) _ _ _ from wpAny_bind ?_)))
  cases hx : xs[k1]? with
  | none =>
    refine stop hh (n1.eb s1.extBut D.i1z) (q1.eb s1.extBut D.l1z) hx fun g2 e s2 ⟨oe, ge, ce⟩ => ?_
    have zp2 : IsZip g2 z TI TO .ellipsis := s2 _ _ D.i1z.symm zp1
    have ne : e ≠ z := fun t => by subst t; rw [zp2] at ge; cases ge; simp at ce
    exact wpAny_setField_rec zp2 (by simp) fun g3 _ s3 => hq g3 e (fun a o c1 _ c3 _ t => s3.extBut _ _ c1 (s2 _ _ c3 (s1.extBut _ _ c1 t))) ⟨oe, s3.extBut _ _ ne ge, ce⟩
  | some x =>
    have hy : ys[k2]? = none := he.resolve_left (by rw [hx]; simp)
    refine step (n1.eb s1.extBut D.i1z) (q1.eb s1.extBut D.l1z) hx fun g2 m1 s2 => wpAny_pure ?_
    have to2 : IsPair g2 TO c d := s2.extBut _ _ D.TOi1 (s1.extBut _ _ D.TOz to)
    refine wpAny_bind (wpAny_seqItems to2 rfl (wpAny_bind (wpAny_updateSeq_pair to2 fun g3 to3 s3 => wpAny_bind (wpAny_letGo (wpAny_pure ?_)))))
    refine wpAny_bind (wpAny_bind (wpAny_onRaise (show wpAny _ _ (Builtin.SmallTypes.nextOf (.ref i2) >>= _) _ _ _ from wpAny_bind (stop hh (((n2.eb s1.extBut D.i2z).eb s2.extBut D.i12.symm).eb s3.extBut D.TOi2.symm) (((q2.eb s1.extBut D.l2z).eb s2.extBut D.l2i1).eb s3.extBut D.l2TO) hy fun g4 e s4 ⟨oe, ge, ce⟩ => ?_))))
    have zp4 : IsZip g4 z TI TO .ellipsis := s4 _ _ D.i2z.symm (s3.extBut _ _ D.TOz.symm (s2.extBut _ _ D.i1z.symm zp1))
    have ne : e ≠ z := fun t => by subst t; rw [zp4] at ge; cases ge; simp at ce
    exact wpAny_setField_rec zp4 (by simp) fun g5 _ s5 => hq g5 e (fun a o c1 c2 c3 c4 t => s5.extBut _ _ c1 (s4 _ _ c4 (s3.extBut _ _ c2 (s2.extBut _ _ c3 (s1.extBut _ _ c1 t))))) ⟨oe, s5.extBut _ _ ne ge, ce⟩
theorem nextZ (D : ZipApart z TI TO i1 i2 l1 l2) {c d x y : Value} (Z : Zp b1 b2 s.heap z TI TO i1 i2 l1 l2 k1 k2 .none c d) (q1 : Sq b1 s.heap l1 xs) (q2 : Sq b2 s.heap l2 ys) (hx : xs[k1]? = some x) (hy : ys[k2]? = some y) {Q : Option Value → Shared → Prop}
    (hq : ∀ h', Zp b1 b2 h' z TI TO i1 i2 l1 l2 (k1 + 1) (k2 + 1) (rawInt s.heap.objs.size) x y → IsPair h' s.heap.objs.size x y → h'.objs.size = s.heap.objs.size + 1 → (∀ a o, a ≠ z → a ≠ TO → a ≠ i1 → a ≠ i2 → s.heap.get? a = some o → h'.get? a = some o) → Q (some (.ref s.heap.objs.size)) { s with heap := h' }) :
    wpAny (model prog w) A (pyNext (.ref z)) Q E s := by
  have ty : s.TypeIs (.ref z) "zip" := ⟨_, Z.zp, rfl⟩
  exact wpAny_bind (wpAny_attempt (wpAny_callSpecial?_slot (name := Str.ofString "__next__") ty F.slot_zip_next (wpAny_call_entry F.slot_zip_next ty F.entry_zip_next (turn D Z q1 q2 hx hy fun h' p1 p2 p3 p4 => wpAny_pure (hq h' p1 p2 p3 p4)) (F.args_zip_next_1 _))))
theorem nextEnd (hh : A.handled = none) (D : ZipApart z TI TO i1 i2 l1 l2) {c d : Value} (Z : Zp b1 b2 s.heap z TI TO i1 i2 l1 l2 k1 k2 .none c d) (q1 : Sq b1 s.heap l1 xs) (q2 : Sq b2 s.heap l2 ys) (he : xs[k1]? = none ∨ ys[k2]? = none) {Q : Option Value → Shared → Prop}
    (hq : ∀ h', (∀ a o, a ≠ z → a ≠ TO → a ≠ i1 → a ≠ i2 → s.heap.get? a = some o → h'.get? a = some o) → Q none { s with heap := h' }) : wpAny (model prog w) A (pyNext (.ref z)) Q E s := by
  have ty : s.TypeIs (.ref z) "zip" := ⟨_, Z.zp, rfl⟩
  refine wpAny_bind (wpAny_attempt (wpAny_callSpecial?_slot (name := Str.ofString "__next__") ty F.slot_zip_next (wpAny_call_entry F.slot_zip_next ty F.entry_zip_next (over (A := A.in1) (show A.in1.handled = none from hh) D Z q1 q2 he fun h' e kp ⟨oe, ge, ce⟩ => ?_) (F.args_zip_next_1 _))))
  exact wpAny_bind (wpAny_isInstance (T := "StopIteration") (b := true) ⟨oe, ge, ce⟩ isSubtype_stop (wpAny_pure (hq _ kp)))
end
/-! ### such a zip is made -/
def cn (b : Bool) : Value := .type (if b then "tuple_iterator" else "list_iterator")
abbrev itO (b : Bool) (l : Addr) : Obj := { cls := cn b, data := .fields #[.ref l, .int 0 0] }
abbrev hZ (b1 b2 : Bool) (h : Heap) (l1 l2 : Addr) : Heap :=
  let h1 := h.push (itO b1 l1)
  let h2 := h1.push (itO b2 l2)
  let h3 := h2.push { cls := .type "tuple", data := .seq #[.ref h.objs.size, .ref h1.objs.size] }
  let h4 := h3.push { cls := .type "tuple", data := .seq #[.none, .none] }
  h4.push { cls := .type "zip", data := .fields #[.none, .bool false, .bool false, .ref h2.objs.size, .ref h3.objs.size] }
theorem Sq.push {b : Bool} {h : Heap} {l : Addr} {xs : Array Value} (q : Sq b h l xs) (o : Obj) : Sq b (h.push o) l xs := by
  cases b
  · exact Heap.IsList.push (show h.IsList l xs from q) o
  · exact Heap.IsTuple.push (show h.IsTuple l xs from q) o
abbrev h4 (b1 b2 : Bool) (h : Heap) (l1 l2 : Addr) : Heap :=
  ((((h.push (itO b1 l1)).push (itO b2 l2)).push { cls := .type "tuple", data := .seq #[.ref h.objs.size, .ref (h.push (itO b1 l1)).objs.size] }).push { cls := .type "tuple", data := .seq #[.none, .none] })
theorem made (b1 b2 : Bool) (l1 l2 : Addr) (xs ys : Array Value) :
    Meets (Builtin.«zip.__new__» ⟨[.type "zip", .ref l1, .ref l2], []⟩) (fun _ R s => Sq b1 s.heap l1 xs ∧ Sq b2 s.heap l2 ys ∧
      R (.ok (.ret (.ref (h4 b1 b2 s.heap l1 l2).objs.size))) { s with heap := hZ b1 b2 s.heap l1 l2 }) := by
  cases b1 <;> cases b2
  · exact meets_zip_new l1 l2 xs ys
  · refine .of_wp fun prog w A R s h => ?_
    obtain ⟨hp, g, d, tk, os⟩ := s
    obtain ⟨q1, q2, h⟩ := h
    have hs := sub_zip
    have t1 : Heap.IsList (Shared.heap ⟨hp, g, d, tk, os⟩) l1 xs := q1
    have t2 : Heap.IsTuple (Shared.heap ⟨hp.push { cls := .type "list_iterator", data := .fields #[.ref l1, .int 0 0] }, g, d, tk, os⟩) l2 ys := Heap.IsTuple.push (show hp.IsTuple l2 ys from q2) _
    wp_walk using wpAny_pyIter_list t1, wpAny_pyIter_tuple t2
    exact ⟨_, rfl, h⟩
  · refine .of_wp fun prog w A R s h => ?_
    obtain ⟨hp, g, d, tk, os⟩ := s
    obtain ⟨q1, q2, h⟩ := h
    have hs := sub_zip
    have t1 : Heap.IsTuple (Shared.heap ⟨hp, g, d, tk, os⟩) l1 xs := q1
    have t2 : Heap.IsList (Shared.heap ⟨hp.push { cls := .type "tuple_iterator", data := .fields #[.ref l1, .int 0 0] }, g, d, tk, os⟩) l2 ys := Heap.IsList.push (show hp.IsList l2 ys from q2) _
    wp_walk using wpAny_pyIter_tuple t1, wpAny_pyIter_list t2
    exact ⟨_, rfl, h⟩
  · exact RZ.meets_zipT_new l1 l2 xs ys
section
variable {prog : Program} {w : World} {A : Around} {E : Value → Shared → Prop} {s : Shared} {b1 b2 : Bool}
theorem nx0 {b : Bool} {h : Heap} {it l : Addr} (e : h.get? it = some (itO b l)) : Nx b h it l 0 := by
  cases b
  · exact ⟨_, e, rfl, rfl⟩
  · exact ⟨_, e, rfl, rfl⟩
theorem zipped {l1 l2 : Addr} {xs ys : Array Value} {Q : Value → Shared → Prop} (q1 : Sq b1 s.heap l1 xs) (q2 : Sq b2 s.heap l2 ys)
    (hq : ∀ h', Zp b1 b2 h' (s.heap.objs.size + 4) (s.heap.objs.size + 2) (s.heap.objs.size + 3) s.heap.objs.size (s.heap.objs.size + 1) l1 l2 0 0 .none .none .none → h'.objs.size = s.heap.objs.size + 5 → (∀ a o, s.heap.get? a = some o → h'.get? a = some o) → Q (.ref (s.heap.objs.size + 4)) { s with heap := h' }) :
    wpAny (model prog w) A (call (.type "zip") [.ref l1, .ref l2]) Q E s := by
  refine callType_new F.called_zip (by decide) (F.typeCall_zip_2 _ _) (F.newCall_zip_2 _ _) (fun obj => F.args_object_init_3 obj _ _) F.entry_zip_new (made b1 b2 l1 l2 xs ys) ⟨q1, q2, ?_⟩
  generalize eh : s.heap = hp at *
  have a1 : (hp.push (itO b1 l1)).objs.size = hp.objs.size + 1 := Heap.size_push ..
  have a2 : ((hp.push (itO b1 l1)).push (itO b2 l2)).objs.size = hp.objs.size + 2 := by rw [Heap.size_push, a1]
  generalize e1 : hp.push (itO b1 l1) = p1 at *
  generalize e2 : p1.push (itO b2 l2) = p2 at *
  have hh : hZ b1 b2 hp l1 l2 = ((p2.push { cls := .type "tuple", data := .seq #[.ref hp.objs.size, .ref p1.objs.size] }).push { cls := .type "tuple", data := .seq #[.none, .none] }).push { cls := .type "zip", data := .fields #[.none, .bool false, .bool false, .ref p2.objs.size, .ref (p2.push { cls := .type "tuple", data := .seq #[.ref hp.objs.size, .ref p1.objs.size] }).objs.size] } := by
    rw [← e2, ← e1]
  have a3 : (p2.push { cls := .type "tuple", data := .seq #[.ref hp.objs.size, .ref p1.objs.size] }).objs.size = hp.objs.size + 3 := by rw [Heap.size_push, a2]
  generalize e3 : p2.push { cls := .type "tuple", data := .seq #[.ref hp.objs.size, .ref p1.objs.size] } = p3 at *
  have a4 : (p3.push { cls := .type "tuple", data := .seq #[.none, .none] }).objs.size = hp.objs.size + 4 := by rw [Heap.size_push, a3]
  generalize e4 : p3.push { cls := .type "tuple", data := .seq #[.none, .none] } = p4 at *
  have h4e : (h4 b1 b2 hp l1 l2).objs.size = hp.objs.size + 4 := by
    show (Heap.push _ _).objs.size = _
    rw [e1, e2, e3, e4, a4]
  rw [hh, h4e]
  generalize e5 : p4.push { cls := .type "zip", data := .fields #[.none, .bool false, .bool false, .ref p2.objs.size, .ref p3.objs.size] } = p5
  have a5 : p5.objs.size = hp.objs.size + 5 := by rw [← e5, Heap.size_push, a4]
  have o1 : p1.get? hp.objs.size = some (itO b1 l1) := by rw [← e1]; exact Heap.get?_push_size _ rfl
  have o2 : p2.get? (hp.objs.size + 1) = some (itO b2 l2) := by rw [← e2, ← a1]; exact Heap.get?_push_size _ rfl
  have o3 : p3.get? (hp.objs.size + 2) = some { cls := .type "tuple", data := .seq #[.ref hp.objs.size, .ref p1.objs.size] } := by rw [← e3, ← a2]; exact Heap.get?_push_size _ rfl
  have o4 : p4.get? (hp.objs.size + 3) = some { cls := .type "tuple", data := .seq #[.none, .none] } := by rw [← e4, ← a3]; exact Heap.get?_push_size _ rfl
  have o5 : p5.get? (hp.objs.size + 4) = some { cls := .type "zip", data := .fields #[.none, .bool false, .bool false, .ref p2.objs.size, .ref p3.objs.size] } := by rw [← e5, ← a4]; exact Heap.get?_push_size _ rfl
  have u1 : ∀ a o, hp.get? a = some o → p1.get? a = some o := fun a o x => by rw [← e1]; exact Heap.get?_push_of_some _ x
  have u2 : ∀ a o, p1.get? a = some o → p2.get? a = some o := fun a o x => by rw [← e2]; exact Heap.get?_push_of_some _ x
  have u3 : ∀ a o, p2.get? a = some o → p3.get? a = some o := fun a o x => by rw [← e3]; exact Heap.get?_push_of_some _ x
  have u4 : ∀ a o, p3.get? a = some o → p4.get? a = some o := fun a o x => by rw [← e4]; exact Heap.get?_push_of_some _ x
  have u5 : ∀ a o, p4.get? a = some o → p5.get? a = some o := fun a o x => by rw [← e5]; exact Heap.get?_push_of_some _ x
  rw [a1] at o3
  rw [a2, a3] at o5
  show _ ∧ _
  exact ⟨⟨_, o5, rfl⟩, hq p5 ⟨o5, u5 _ _ (u4 _ _ o3), u5 _ _ o4, nx0 (u5 _ _ (u4 _ _ (u3 _ _ (u2 _ _ o1)))), nx0 (u5 _ _ (u4 _ _ (u3 _ _ o2)))⟩ a5 fun a o x => u5 _ _ (u4 _ _ (u3 _ _ (u2 _ _ (u1 _ _ x))))⟩
end
end EvZp
namespace EvZp
open PySem PySem.Spec PyProof.Rows L2
/-! ### over the layer -/
def SqX (b : Bool) (K : PySem.W.Frag) (H : Hp) (a : Addr) (xs : List V) : Prop := if b then SqT K H a xs else SqL K H a xs
theorem sqx {X : Cx} {pins : List (Addr × Obj)} {σ : L2.St} {H : Hp} {s : Shared} {b : Bool} {a : Addr} {xs : List V} (I : Inv X pins σ H s) (h : SqX b X.K H a xs) : ∃ its : List Value, Vals xs its ∧ Sq b s.heap a its.toArray ∧ a < s.heap.objs.size := by
  cases b
  · obtain ⟨its, r, p, _⟩ := I.list (show SqL X.K H a xs from h)
    exact ⟨its, r, p.isList, p.lt⟩
  · obtain ⟨its, r, p, _⟩ := I.tuple (show SqT X.K H a xs from h)
    obtain ⟨o, e, _⟩ := id p
    exact ⟨its, r, p, Heap.lt_size e⟩
theorem sqx_inj {X : Cx} {pins : List (Addr × Obj)} {σ : L2.St} {H : Hp} {s : Shared} {b : Bool} {a : Addr} {xs ys : List V} (I : Inv X pins σ H s) (h : SqX b X.K H a xs) (k : SqX b X.K H a ys) : xs = ys := by
  cases b
  · exact I.list_inj h k
  · exact I.tuple_inj h k
/-- what stands at a and b at each turn, in new pairs -/
def ItX (b1 b2 : Bool) (K : PySem.W.Frag) (a b : Addr) : It where
  go := fun i H => ∃ (xs ys : List V) (x y : V), SqX b1 K H a xs ∧ SqX b2 K H b ys ∧ xs[i]? = some x ∧ ys[i]? = some y
  yld := fun i H v H' => ∃ T x y, v = .ref T ∧ H T = none ∧ H' = upd H T (.tup [x, y]) ∧ (∀ xs, SqX b1 K H a xs → xs[i]? = some x) ∧ ∀ ys, SqX b2 K H b ys → ys[i]? = some y
  stop := fun i H => ∃ xs ys : List V, SqX b1 K H a xs ∧ SqX b2 K H b ys ∧ (xs.length ≤ i ∨ ys.length ≤ i)
theorem turnX {P : Program} {w : World} {K : PySem.W.Frag} {b1 b2 : Bool} {elts : List Expr} {kk : Nat} {tpos : Pos} {a b z TI TO i1 i2 : Addr} (D : ZipApart z TI TO i1 i2 a b) :
    Turn P w K (.Tuple elts kk tpos) (ItX b1 b2 K a b) [z, TI, TO, i1, i2] z (fun i h => ∃ x y, Zp b1 b2 h z TI TO i1 i2 a b i i .none x y) where
  mem := by simp
  obj := fun i h ⟨x, y, Z⟩ c hc => by
    simp only [List.mem_cons, List.not_mem_nil, _root_.or_false] at hc
    obtain ⟨o1, f1, e1, d1⟩ := Z.n1.ob
    obtain ⟨o2, f2, e2, d2⟩ := Z.n2.ob
    rcases hc with rfl | rfl | rfl | rfl | rfl
    · exact ⟨_, Z.zp, fun v q => nomatch q⟩
    · exact ⟨_, Z.ti, fun v q => nomatch q⟩
    · exact ⟨_, Z.to, fun v q => nomatch q⟩
    · exact ⟨o1, e1, fun v q => by rw [d1] at q; cases q⟩
    · exact ⟨o2, e2, fun v q => by rw [d2] at q; cases q⟩
  keep := fun i h h' ⟨x, y, Z⟩ k => ⟨x, y, k z (by simp) _ Z.zp, k TI (by simp) _ Z.ti, k TO (by simp) _ Z.to, Z.n1.at_ fun o q => k i1 (by simp) o q, Z.n2.at_ fun o q => k i2 (by simp) o q⟩
  item := by
    intro X hP hw hK hc i pins s σ H E I hf ⟨x0, y0, Z⟩ hg
    subst hP hw hK
    obtain ⟨xs, ys, x, y, qx, qy, ex, ey⟩ := hg
    obtain ⟨its, rv, p, _⟩ := sqx I qx
    obtain ⟨jts, rw', p2, _⟩ := sqx I qy
    obtain ⟨u, hu, ru⟩ := rv.get ex
    obtain ⟨u2, hu2, ru2⟩ := rw'.get ey
    have zl : z < s.heap.objs.size := Heap.lt_size Z.zp
    refine nextZ D Z p p2 (x := u) (y := u2) (by simpa using hu) (by simpa using hu2) fun g Zg nw sz kp => ⟨_, rfl, wpAny_letOwnedTupleGo_zip (s := { s with heap := g }) Zg.zp fun g2 zp2 sb => ?_⟩
    have nw2 : g2.get? s.heap.objs.size = some { cls := .type "tuple", data := .seq #[u, u2] } := (sb.2 _ (Nat.ne_of_gt zl)).trans nw
    have new : ObjOk X.prog X.w (upd H s.heap.objs.size (.tup [x, y])) g2 s.heap.objs.size (.tup [x, y]) := ⟨(by show 2 ≤ sizeLine; decide), [u, u2], .cons ru (.cons ru2 .nil), ⟨_, nw2, rfl, _, rfl⟩⟩
    have kp2 : ∀ c o, c ∉ [z, TI, TO, i1, i2] → s.heap.get? c = some o → g2.get? c = some o := fun c o hb q => by
      simp only [List.mem_cons, List.not_mem_nil, _root_.or_false, not_or] at hb
      exact (sb.2 c hb.1).trans (kp c o hb.1 hb.2.2.1 hb.2.2.2.1 hb.2.2.2.2 q)
    have I1 := I.turnedNew (t' := s.toks) kp2 hf (Nat.le_refl _) new
    refine ⟨.ref s.heap.objs.size, _, I1, rfl, ⟨_, x, y, rfl, I.hok.fresh (Nat.le_refl _), rfl, fun l hl => by rw [sqx_inj I hl qx]; exact ex, fun l hl => by rw [sqx_inj I hl qy]; exact ey⟩, ⟨u, u2, zp2, ?_, ?_, ?_, ?_⟩, fun c hcm => ?_⟩
    · exact (sb.2 _ D.TIz).trans Zg.ti
    · exact (sb.2 _ D.TOz).trans Zg.to
    · exact Zg.n1.at_ fun o q => (sb.2 _ D.i1z).trans q
    · exact Zg.n2.at_ fun o q => (sb.2 _ D.i2z).trans q
    · have hlt : c < s.heap.objs.size := by
        simp only [List.mem_cons, List.not_mem_nil, _root_.or_false] at hcm
        rcases hcm with rfl | rfl | rfl | rfl | rfl
        · exact zl
        · exact Heap.lt_size Z.ti
        · exact Heap.lt_size Z.to
        · exact Z.n1.lt
        · exact Z.n2.lt
      rw [upd_ne (Nat.ne_of_lt hlt)]
      exact (hf c hcm).1
  done := by
    intro X hP hw hK hc i pins s σ H E I hf ⟨x0, y0, Z⟩ hg
    subst hP hw hK
    obtain ⟨xs, ys, qx, qy, he⟩ := hg
    obtain ⟨its, rv, p, _⟩ := sqx I qx
    obtain ⟨jts, rw', p2, _⟩ := sqx I qy
    have l1 := rv.length
    have l2 := rw'.length
    have hend : its.toArray[i]? = none ∨ jts.toArray[i]? = none := he.imp (fun q => by simp; omega) (fun q => by simp; omega)
    refine nextEnd (I.ok.hd hc) D Z p p2 hend fun g kp => ⟨rfl, I.turnedL (t' := s.toks) (ch := [z, TI, TO, i1, i2]) (fun c o hb q => ?_) hf⟩
    simp only [List.mem_cons, List.not_mem_nil, _root_.or_false, not_or] at hb
    exact kp c o hb.1 hb.2.2.1 hb.2.2.2.1 hb.2.2.2.2 q
  self := fun A i s Q E ⟨x, y, Z⟩ h => wpAny_pyIter_zip Z.zp h
def iZipX (K : PySem.W.Frag) (ta : TA) : TI := fun σ H R => ta σ H fun vs H1 => ∃ b1 b2 a b xs ys, vs = [.ref a, .ref b] ∧ SqX b1 K H1 a xs ∧ SqX b2 K H1 b ys ∧ R (ItX b1 b2 K a b) H1
theorem pi_zipX {X : Cx} {e e2 : Expr} {ta : TA} {p pos tpos : Pos} {elts : List Expr} {kk : Nat} (hg : Gl X "zip") (hm : X.mg "zip" = none) (ha : PA X [e, e2] ta)
    (hs : starEach [e, e2] X.env = (false, eval e X.env) :: starEach [e2] X.env) (hpl : (backTo pos (starEach [e2] X.env)).any (·.1) = false) : PI X (.Tuple elts kk tpos) (.Call (.Name "zip" p) [e, e2] [] pos) (iZipX X.K ta) := by
  refine ⟨fun pins s σ H R I h => Call_ (ld_blt I hg hm PyProof.Rows.boot_zip (PyProof.Rows.callWith_type1 (thn (ha.run pos pins s σ H _ I h) fun us s1 ⟨vs, H1, I1, r1, q1⟩ => ?_) hs hpl))⟩
  obtain ⟨b1, b2, a, b, xs, ys, rfl, qx, qy, q⟩ := q1
  cases r1 with
  | cons ra rr =>
  cases rr with
  | cons rb rn =>
  cases rn
  cases ra
  cases rb
  obtain ⟨its, rv, p1, la⟩ := sqx I1 qx
  obtain ⟨jts, rw', p2, lb⟩ := sqx I1 qy
  have fr : ∀ c, c ∈ [s1.heap.objs.size + 4, s1.heap.objs.size + 2, s1.heap.objs.size + 3, s1.heap.objs.size, s1.heap.objs.size + 1] → FpOk X pins H1 c := fun c hcm => by
    have le : s1.heap.objs.size ≤ c := by
      generalize s1.heap.objs.size = n at *
      simp only [List.mem_cons, List.not_mem_nil, _root_.or_false] at hcm
      rcases hcm with h | h | h | h | h <;> subst h <;> first | exact Nat.le_refl _ | exact Nat.le_add_right _ _
    exact I1.fpOk le (I1.hok.fresh le)
  refine zipped p1 p2 fun g Z sz kp => wpAny_pyIter_zip Z.zp ?_
  have I2 : Inv X pins σ H1 { s1 with heap := g } := I1.kept (t' := s1.toks) kp
  exact ⟨s1.heap.objs.size + 4, _, _, _, H1, rfl, I2, turnX (PySem.W.ktu_apart s1.heap.objs.size a b la lb), ⟨_, _, Z⟩, fr, q⟩
end EvZp
/-! Ev, part H: what is walked; comprehensions. -/
namespace Ev
open PySem PySem.Spec PyProof.Rows L2
section
variable {K : PySem.W.Frag} {G : Gx} {w w' : Wd} {H H' : Hp} {S : Store}
/-- the walk over a list that stands: its items -/
theorem it_list {a : Addr} {vs : List V} {ds : List D} {i : Nat} (st : RepSt K G w H S) (q : SqL K H a vs) (r : Reps K G w H ds vs) :
    (∀ d, ds[i]? = some d → (Itl K a).go i H ∧ ∀ x H'', (Itl K a).yld i H x H'' → Ext w H w H'' ∧ RepSt K G w H'' S ∧ Rep K G w H'' d x) ∧ (ds[i]? = none → (Itl K a).stop i H) := by
  refine ⟨fun d hd => ?_, fun hn => ⟨vs, q, by
    have := r.get_none hn
    exact List.getElem?_eq_none_iff.mp this⟩⟩
  obtain ⟨v, h1, h2⟩ := r.get hd
  refine ⟨⟨vs, v, q, h1⟩, fun x H'' y => ?_⟩
  obtain ⟨e, y⟩ := y
  subst e
  have e2 := y vs q
  rw [h1] at e2
  cases Option.some.inj e2
  exact ⟨Ext.refl _ _, st, h2⟩
theorem it_tup {a : Addr} {vs : List V} {ds : List D} {i : Nat} (st : RepSt K G w H S) (q : SqT K H a vs) (r : Reps K G w H ds vs) :
    (∀ d, ds[i]? = some d → (Itt K a).go i H ∧ ∀ x H'', (Itt K a).yld i H x H'' → Ext w H w H'' ∧ RepSt K G w H'' S ∧ Rep K G w H'' d x) ∧ (ds[i]? = none → (Itt K a).stop i H) := by
  refine ⟨fun d hd => ?_, fun hn => ⟨vs, q, by
    have := r.get_none hn
    exact List.getElem?_eq_none_iff.mp this⟩⟩
  obtain ⟨v, h1, h2⟩ := r.get hd
  refine ⟨⟨vs, v, q, h1⟩, fun x H'' y => ?_⟩
  obtain ⟨e, y⟩ := y
  subst e
  have e2 := y vs q
  rw [h1] at e2
  cases Option.some.inj e2
  exact ⟨Ext.refl _ _, st, h2⟩
theorem upto_get {lo hi : Int} {i : Nat} : (i < (hi - lo).toNat → (upto lo hi)[i]? = some (.int (lo + (i : Nat)))) ∧ (¬ i < (hi - lo).toNat → (upto lo hi)[i]? = none) := by
  unfold upto
  refine ⟨fun h => ?_, fun h => ?_⟩
  · rw [List.getElem?_map, List.getElem?_range h]; rfl
  · rw [List.getElem?_eq_none]
    simpa using h
theorem downto_get {lo hi : Int} {i : Nat} : (i < (hi - lo).toNat → (downto lo hi)[i]? = some (.int (lo + (((hi - lo).toNat : Nat) : Int) - 1 + (i : Nat) * (-1)))) ∧ (¬ i < (hi - lo).toNat → (downto lo hi)[i]? = none) := by
  unfold downto
  refine ⟨fun h => ?_, fun h => ?_⟩
  · rw [List.getElem?_map, List.getElem?_range h]; rfl
  · rw [List.getElem?_eq_none]
    simpa using h
theorem it_rng {lo hi : Int} {i : Nat} (st : RepSt K G w H S) :
    (∀ d, (upto lo hi)[i]? = some d → (Itr lo (hi - lo).toNat).go i H ∧ ∀ x H'', (Itr lo (hi - lo).toNat).yld i H x H'' → Ext w H w H'' ∧ RepSt K G w H'' S ∧ Rep K G w H'' d x) ∧ ((upto lo hi)[i]? = none → (Itr lo (hi - lo).toNat).stop i H) := by
  by_cases hl : i < (hi - lo).toNat
  · have e := upto_get.1 hl
    refine ⟨fun d hd => ⟨hl, fun x H'' y => ?_⟩, fun hn => ?_⟩
    · obtain ⟨e1, e2⟩ := y
      rw [e] at hd
      cases Option.some.inj hd
      subst e1 e2
      exact ⟨Ext.refl _ _, st, .int _⟩
    · rw [e] at hn; cases hn
  · have e := upto_get.2 hl
    refine ⟨fun d hd => ?_, fun _ => Nat.le_of_not_lt hl⟩
    rw [e] at hd; cases hd
theorem it_rev {lo hi : Int} {i : Nat} (st : RepSt K G w H S) :
    (∀ d, (downto lo hi)[i]? = some d → (Itc (lo + (((hi - lo).toNat : Nat) : Int) - 1) (-1) (hi - lo).toNat).go i H ∧ ∀ x H'', (Itc (lo + (((hi - lo).toNat : Nat) : Int) - 1) (-1) (hi - lo).toNat).yld i H x H'' → Ext w H w H'' ∧ RepSt K G w H'' S ∧ Rep K G w H'' d x) ∧
      ((downto lo hi)[i]? = none → (Itc (lo + (((hi - lo).toNat : Nat) : Int) - 1) (-1) (hi - lo).toNat).stop i H) := by
  by_cases hl : i < (hi - lo).toNat
  · have e := downto_get.1 hl
    refine ⟨fun d hd => ⟨hl, fun x H'' y => ?_⟩, fun hn => ?_⟩
    · obtain ⟨e1, e2⟩ := y
      rw [e] at hd
      cases Option.some.inj hd
      subst e1 e2
      exact ⟨Ext.refl _ _, st, .int _⟩
    · rw [e] at hn; cases hn
  · have e := downto_get.2 hl
    refine ⟨fun d hd => ?_, fun _ => Nat.le_of_not_lt hl⟩
    rw [e] at hd; cases hd
theorem it_str {z : Str} {i : Nat} (st : RepSt K G w H S) :
    (∀ d, (z.cps.toList.map fun c => D.str ⟨#[c]⟩)[i]? = some d → (Its z).go i H ∧ ∀ x H'', (Its z).yld i H x H'' → Ext w H w H'' ∧ RepSt K G w H'' S ∧ Rep K G w H'' d x) ∧ ((z.cps.toList.map fun c => D.str ⟨#[c]⟩)[i]? = none → (Its z).stop i H) := by
  refine ⟨fun d hd => ?_, fun hn => ?_⟩
  · rw [List.getElem?_map] at hd
    cases e : z.cps.toList[i]? with
    | none => rw [e] at hd; cases hd
    | some c =>
      rw [e] at hd
      cases Option.some.inj hd
      have hl := (List.getElem?_eq_some_iff.mp e).1
      refine ⟨(show i < z.cps.size by simpa using hl), fun x H'' y => ?_⟩
      obtain ⟨e1, c', e2, e3⟩ := y
      subst e1 e3
      rw [← Array.getElem?_toList, e] at e2
      cases Option.some.inj e2
      exact ⟨Ext.refl _ _, st, .str _⟩
  · rw [List.getElem?_eq_none_iff] at hn
    exact (show z.cps.size ≤ i by simpa using hn)
end
section
variable {X : Cx} {G : Gx} {cf : Cf} {W : WX}
theorem okR_of {i j : Int} (h : okR i j = true) : -(2 ^ 62) ≤ i ∧ i < 2 ^ 62 ∧ -(2 ^ 62) ≤ j ∧ j < 2 ^ 62 := by
  simp only [okR, Bool.and_eq_true, decide_eq_true_eq] at h
  exact ⟨h.1, h.2.1, h.2.2.1, h.2.2.2⟩
theorem pi_seq1 {tg e : Expr} {ie : IE} (he : PE X e (tE X.K G cf W ie)) : PI X tg e (tI X.K G cf W (.seq ie)) := by
  refine PI.imp (PI.alt (pi_list he) (PI.alt (pi_tup he) (PI.alt (pi_str he) (EvNr.pi_rgV he)))) fun σ H Q ⟨env, S, w, R, p⟩ => ?_
  simp only [evI] at p
  cases h : evE cf ie env S with
  | bad => rw [h] at p; exact p.elim
  | exc x S1 => rw [h] at p; exact .inl ⟨env, S, w, R, by rw [h]; exact p⟩
  | ok d S1 =>
    rw [h] at p
    simp only [Ev.R.bind] at p
    cases d with
    | tup ds =>
      refine .inr (.inl ⟨env, S, w, R, ?_⟩)
      rw [h]
      intro v H1 w1 e1 st1 r1
      cases r1 with
      | tup h1 h2 => exact ⟨_, rfl, ⟨_, h1.sq⟩, p _ H1 w1 e1 st1 fun w' H' S' e' st' i => it_tup st' (h1.mov e'.mov).sq (h2.ext e')⟩
    | lst ds =>
      refine .inl ⟨env, S, w, R, ?_⟩
      rw [h]
      intro v H1 w1 e1 st1 r1
      cases r1 with
      | lst h1 h2 => exact ⟨_, rfl, ⟨_, h1.sq⟩, p _ H1 w1 e1 st1 fun w' H' S' e' st' i => it_list st' (h1.mov e'.mov).sq (h2.ext e')⟩
    | frz ds =>
      refine .inl ⟨env, S, w, R, ?_⟩
      rw [h]
      intro v H1 w1 e1 st1 r1
      cases r1 with
      | frz h1 h2 => exact ⟨_, rfl, ⟨_, h1.sq⟩, p _ H1 w1 e1 st1 fun w' H' S' e' st' i => it_list st' (h1.mov e'.mov).sq (h2.ext e')⟩
    | ref l =>
      simp only [isSt] at p
      split at p
      · rename_i hc
        obtain ⟨es, hes⟩ := Option.isSome_iff_exists.mp hc
        refine .inl ⟨env, S, w, R, ?_⟩
        rw [h]
        intro v H1 w1 e1 st1 r1
        cases r1 with
        | ref h1 =>
          obtain ⟨vs, _, e2, _⟩ := st1.at3 h1 hes
          refine ⟨_, rfl, ⟨_, SqL.of e2⟩, p _ H1 w1 e1 st1 fun w' H' S' e' st' i ds hds => ?_⟩
          obtain ⟨vs', g1, g2, g3⟩ := st'.at3 (e'.pre _ _ h1) hds
          exact it_list st' (SqL.of g2) g3
      · exact p.elim
    | str z =>
      simp only [isSt] at p
      refine .inr (.inr (.inl ⟨env, S, w, R, ?_⟩))
      rw [h]
      intro v H1 w1 e1 st1 r1
      cases r1
      split at p
      · exact ⟨z, rfl, p _ H1 w1 e1 st1 fun w' H' S' e' st' i => it_str st'⟩
      · exact p.elim
    | rg i j =>
      simp only [isSt] at p
      refine .inr (.inr (.inr ⟨env, S, w, R, ?_⟩))
      rw [h]
      intro v H1 w1 e1 st1 r1
      cases r1 with
      | rg h1 h2 =>
        split at p
        · rename_i hz
          exact ⟨_, i, j, rfl, h1, okR_of hz, p _ H1 w1 e1 st1 fun w' H' S' e' st' i => it_rng st'⟩
        · exact p.elim
    | _ => exact p.elim
theorem pi_rng1 {tg a : Expr} {ia : IE} {p pos : Pos} (hg : Gl X "range") (hm : X.mg "range" = none) (ha : PE X a (tE X.K G cf W ia)) (hp : plainE a = true) : PI X tg (.Call (.Name "range" p) [a] [] pos) (tI X.K G cf W (.rng (.cst (.int 0)) ia)) := by
  refine PI.imp (pi_range1 hg hm (pa_cons1 ha pa_nil1 (star_cons hp)) (star_cons hp)) fun σ H Q ⟨env, S, w, R, q⟩ => ?_
  simp only [evI, evE, Ev.R.bind] at q
  refine ⟨env, S, w, R, ?_⟩
  simp only [evEs, Ev.R.bind]
  cases h : evE cf ia env S with
  | bad => rw [h] at q; exact q.elim
  | exc x S1 => rw [h] at q; exact q
  | ok d S1 =>
    rw [h] at q
    intro vs H1 w1 e1 st1 r1
    obtain ⟨v, rfl, r⟩ := reps1 r1
    cases d with
    | int j =>
      cases r
      simp only at q
      split at q
      · rename_i hz
        obtain ⟨_, _, h3, h4⟩ := okR_of hz
        have e0 : j - 0 = j := by omega
        refine ⟨j, rfl, h3, h4, q _ H1 w1 e1 st1 fun w' H' S' e' st' i => ?_⟩
        have := it_rng (K := X.K) (G := G) (lo := 0) (hi := j) (i := i) st'
        rw [e0] at this
        exact this
      · exact q.elim
    | _ => exact q.elim
theorem pi_rng2 {tg a b : Expr} {ia ib : IE} {p pos : Pos} (hg : Gl X "range") (hm : X.mg "range" = none) (ha : PE X a (tE X.K G cf W ia)) (hb : PE X b (tE X.K G cf W ib)) (hp : plainE a = true) (hp2 : plainE b = true) : PI X tg (.Call (.Name "range" p) [a, b] [] pos) (tI X.K G cf W (.rng ia ib)) := by
  refine PI.imp (pi_range2 hg hm (pa_cons1 ha (pa_cons1 hb pa_nil1 (star_cons hp2)) (star_cons hp)) (by rw [star_cons hp, star_cons hp2]; rfl) (star_cons hp2)) fun σ H Q ⟨env, S, w, R, q⟩ => ?_
  simp only [evI] at q
  refine ⟨env, S, w, R, ?_⟩
  simp only [evEs, Ev.R.bind] at q ⊢
  cases h : evE cf ia env S with
  | bad => rw [h] at q; exact q.elim
  | exc x S1 => rw [h] at q; exact q
  | ok d S1 =>
    rw [h] at q
    simp only at q ⊢
    cases h2 : evE cf ib env S1 with
    | bad => rw [h2] at q; exact q.elim
    | exc x S2 => rw [h2] at q; exact q
    | ok d2 S2 =>
      rw [h2] at q
      simp only at q ⊢
      intro vs H1 w1 e1 st1 r1
      obtain ⟨v, u, rfl, r, r'⟩ := reps2 r1
      cases d with
      | int i =>
        cases d2 with
        | int j =>
          cases r; cases r'
          simp only at q
          split at q
          · rename_i hz
            exact ⟨i, j, rfl, okR_of hz, q _ H1 w1 e1 st1 fun w' H' S' e' st' k => it_rng st'⟩
          · exact q.elim
        | _ => exact q.elim
      | _ => exact q.elim
theorem pi_rev1 {tg a : Expr} {ia : IE} {p p2 pos pos2 : Pos} (hg : Gl X "reversed") (hm : X.mg "reversed" = none) (hg2 : Gl X "range") (hm2 : X.mg "range" = none) (ha : PE X a (tE X.K G cf W ia)) (hp : plainE a = true) :
    PI X tg (.Call (.Name "reversed" p) [.Call (.Name "range" p2) [a] [] pos2] [] pos) (tI X.K G cf W (.rev (.cst (.int 0)) ia)) := by
  refine PI.imp (pi_revR hg hm (prg_1 hg2 hm2 ha (star_cons hp))) fun σ H Q ⟨env, S, w, R, q⟩ => ?_
  simp only [evI, evE, Ev.R.bind] at q
  refine ⟨env, S, w, R, ?_⟩
  cases h : evE cf ia env S with
  | bad => rw [h] at q; exact q.elim
  | exc x S1 => rw [h] at q; exact q
  | ok d S1 =>
    rw [h] at q
    intro v H1 w1 e1 st1 r
    cases d with
    | int j =>
      cases r
      simp only at q
      split at q
      · rename_i hz
        obtain ⟨h1, h2, h3, h4⟩ := okR_of hz
        exact ⟨j, rfl, h1, h2, h3, h4, q _ H1 w1 e1 st1 fun w' H' S' e' st' i => it_rev st'⟩
      · exact q.elim
    | _ => exact q.elim
theorem pi_rev2 {tg a b : Expr} {ia ib : IE} {p p2 pos pos2 : Pos} (hg : Gl X "reversed") (hm : X.mg "reversed" = none) (hg2 : Gl X "range") (hm2 : X.mg "range" = none) (ha : PE X a (tE X.K G cf W ia)) (hb : PE X b (tE X.K G cf W ib)) (hp : plainE a = true) (hp2 : plainE b = true) :
    PI X tg (.Call (.Name "reversed" p) [.Call (.Name "range" p2) [a, b] [] pos2] [] pos) (tI X.K G cf W (.rev ia ib)) := by
  refine PI.imp (pi_revR hg hm (prg_2 hg2 hm2 ha hb (star_cons hp) (star_cons hp2) (by rw [star_cons hp2]; rfl))) fun σ H Q ⟨env, S, w, R, q⟩ => ?_
  simp only [evI] at q
  refine ⟨env, S, w, R, PostG.bind (rep := Rep X.K G) q fun d1 S1 v1 H1 w1 _ e1 st1 r1 q1 => ?_⟩
  refine ⟨env, S1, w1, R.ext e1 st1, q1.bind fun d2 S2 v2 H2 w2 _ e2 st2 r2 q2 => ?_⟩
  cases d1 with
  | int i =>
    cases d2 with
    | int j =>
      cases r1; cases r2
      simp only at q2
      split at q2
      · rename_i hz
        obtain ⟨h1, h2, h3, h4⟩ := okR_of hz
        exact ⟨i, j, rfl, rfl, h1, h2, h3, h4, q2 _ H2 w2 (Ext.refl _ _) st2 fun w' H' S' e' st' k => it_rev st'⟩
      · exact q2.elim
    | _ => exact q2.elim
  | _ => exact q2.elim
/-! ### zip -/
theorem zip_none {a b : List D} {i : Nat} (h : (zipD a b)[i]? = none) : a.length ≤ i ∨ b.length ≤ i := by
  unfold zipD at h
  rw [List.getElem?_eq_none_iff, List.length_map, List.length_zip] at h
  omega
theorem zip_some {a b : List D} {i : Nat} {d : D} (h : (zipD a b)[i]? = some d) : ∃ x y, a[i]? = some x ∧ b[i]? = some y ∧ d = .tup [x, y] := by
  unfold zipD at h
  rw [List.getElem?_map] at h
  cases e : (a.zip b)[i]? with
  | none => rw [e] at h; cases h
  | some p =>
    rw [e] at h
    cases Option.some.inj h
    obtain ⟨h1, h2⟩ := List.getElem?_zip_eq_some.mp e
    exact ⟨p.1, p.2, h1, h2, rfl⟩
section
variable {K : PySem.W.Frag} {w : Wd} {H : Hp} {S : Store}
theorem it_zipT {a b : Addr} {xs ys : List V} {ds es : List D} {i : Nat} (st : RepSt K G w H S) (h1 : SqT K H a xs) (h2 : SqT K H b ys) (r1 : Reps K G w H ds xs) (r2 : Reps K G w H es ys) :
    (∀ d, (zipD ds es)[i]? = some d → (RZ.ItzT K a b).go i H ∧ ∀ x H'', (RZ.ItzT K a b).yld i H x H'' → Ext w H w H'' ∧ RepSt K G w H'' S ∧ Rep K G w H'' d x) ∧ ((zipD ds es)[i]? = none → (RZ.ItzT K a b).stop i H) := by
  refine ⟨fun d hd => ?_, fun hn => ⟨xs, ys, h1, h2, ?_⟩⟩
  · obtain ⟨x, y, e1, e2, rfl⟩ := zip_some hd
    obtain ⟨u, g1, q1⟩ := r1.get e1
    obtain ⟨v, g2, q2⟩ := r2.get e2
    refine ⟨⟨xs, ys, u, v, h1, h2, g1, g2⟩, fun z H'' yl => ?_⟩
    obtain ⟨T, u', v', rfl, hT, rfl, k1, k2⟩ := yl
    have z1 := k1 xs h1
    have z2 := k2 ys h2
    rw [g1] at z1
    rw [g2] at z2
    cases z1; cases z2
    exact ⟨Ext.laid hT, st.laid hT, tup_new st hT (.cons q1 (.cons q2 .nil))⟩
  · rw [← r1.length, ← r2.length]
    exact zip_none hn
theorem it_zipX {b1 b2 : Bool} {a b : Addr} {xs ys : List V} {ds es : List D} {i : Nat} (st : RepSt K G w H S) (h1 : EvZp.SqX b1 K H a xs) (h2 : EvZp.SqX b2 K H b ys) (r1 : Reps K G w H ds xs) (r2 : Reps K G w H es ys) :
    (∀ d, (zipD ds es)[i]? = some d → (EvZp.ItX b1 b2 K a b).go i H ∧ ∀ x H'', (EvZp.ItX b1 b2 K a b).yld i H x H'' → Ext w H w H'' ∧ RepSt K G w H'' S ∧ Rep K G w H'' d x) ∧ ((zipD ds es)[i]? = none → (EvZp.ItX b1 b2 K a b).stop i H) := by
  refine ⟨fun d hd => ?_, fun hn => ⟨xs, ys, h1, h2, ?_⟩⟩
  · obtain ⟨x, y, e1, e2, rfl⟩ := zip_some hd
    obtain ⟨u, g1, q1⟩ := r1.get e1
    obtain ⟨v, g2, q2⟩ := r2.get e2
    refine ⟨⟨xs, ys, u, v, h1, h2, g1, g2⟩, fun z H'' yl => ?_⟩
    obtain ⟨T, u', v', rfl, hT, rfl, k1, k2⟩ := yl
    have z1 := k1 xs h1
    have z2 := k2 ys h2
    rw [g1] at z1
    rw [g2] at z2
    cases z1; cases z2
    exact ⟨Ext.laid hT, st.laid hT, tup_new st hT (.cons q1 (.cons q2 .nil))⟩
  · rw [← r1.length, ← r2.length]
    exact zip_none hn
theorem seqX_of {d : D} {v : V} {xs : List D} (r : Rep K G w H d v) (h : itemsP d = some xs) : ∃ b a vs, v = .ref a ∧ (∀ w' H', Mov w H w' H' → EvZp.SqX b K H' a vs) ∧ Reps K G w H xs vs := by
  cases r with
  | tup h1 r => cases Option.some.inj h; exact ⟨true, _, _, rfl, fun w' H' m => (h1.mov m).sq, r⟩
  | lst h1 r => cases Option.some.inj h; exact ⟨false, _, _, rfl, fun w' H' m => (h1.mov m).sq, r⟩
  | frz h1 r => cases Option.some.inj h; exact ⟨false, _, _, rfl, fun w' H' m => (h1.mov m).sq, r⟩
  | _ => cases h
theorem it_zipL {a b : Addr} {xs ys : List V} {ds es : List D} {i : Nat} (st : RepSt K G w H S) (h1 : SqL K H a xs) (h2 : SqL K H b ys) (r1 : Reps K G w H ds xs) (r2 : Reps K G w H es ys) :
    (∀ d, (zipD ds es)[i]? = some d → (Itz K a b).go i H ∧ ∀ x H'', (Itz K a b).yld i H x H'' → Ext w H w H'' ∧ RepSt K G w H'' S ∧ Rep K G w H'' d x) ∧ ((zipD ds es)[i]? = none → (Itz K a b).stop i H) := by
  refine ⟨fun d hd => ?_, fun hn => ⟨xs, ys, h1, h2, ?_⟩⟩
  · obtain ⟨x, y, e1, e2, rfl⟩ := zip_some hd
    obtain ⟨u, g1, q1⟩ := r1.get e1
    obtain ⟨v, g2, q2⟩ := r2.get e2
    refine ⟨⟨xs, ys, u, v, h1, h2, g1, g2⟩, fun z H'' yl => ?_⟩
    obtain ⟨T, u', v', rfl, hT, rfl, k1, k2⟩ := yl
    have z1 := k1 xs h1
    have z2 := k2 ys h2
    rw [g1] at z1
    rw [g2] at z2
    cases z1; cases z2
    exact ⟨Ext.laid hT, st.laid hT, tup_new st hT (.cons q1 (.cons q2 .nil))⟩
  · rw [← r1.length, ← r2.length]
    exact zip_none hn
end
theorem pi_zip1 {elts : List Expr} {kk : Nat} {tpos : Pos} {a b : Expr} {ia ib : IE} {p pos : Pos} (hg : Gl X "zip") (hm : X.mg "zip" = none) (ha : PE X a (tE X.K G cf W ia)) (hb : PE X b (tE X.K G cf W ib)) (hp : plainE a = true) (hp2 : plainE b = true) : PI X (.Tuple elts kk tpos) (.Call (.Name "zip" p) [a, b] [] pos) (tI X.K G cf W (.zip ia ib)) := by
  refine PI.imp (EvZp.pi_zipX hg hm (pa_cons1 ha (pa_cons1 hb pa_nil1 (star_cons hp2)) (star_cons hp)) (by rw [star_cons hp]) (noStar (es := [b]) (by simp [hp2]))) fun σ H Q ⟨env, S, w, R, q⟩ => ?_
  simp only [evI] at q
  refine ⟨env, S, w, R, ?_⟩
  simp only [evEs, Ev.R.bind] at q ⊢
  cases h : evE cf ia env S with
  | bad => rw [h] at q; exact q.elim
  | exc x S1 => rw [h] at q; exact q
  | ok d S1 =>
    rw [h] at q
    simp only at q ⊢
    cases h2 : evE cf ib env S1 with
    | bad => rw [h2] at q; exact q.elim
    | exc x S2 => rw [h2] at q; exact q
    | ok d2 S2 =>
      rw [h2] at q
      simp only at q ⊢
      intro vs H1 w1 e1 st1 rs
      obtain ⟨x, y, rfl, r, r'⟩ := reps2 rs
      cases i1 : itemsP d with
      | none => rw [i1] at q; exact q.elim
      | some xs =>
        cases i2 : itemsP d2 with
        | none => rw [i1, i2] at q; exact q.elim
        | some ys =>
          rw [i1, i2] at q
          obtain ⟨b1, a1, us1, rfl, m1, g1⟩ := seqX_of r i1
          obtain ⟨b2, a2, us2, rfl, m2, g2⟩ := seqX_of r' i2
          have m0 : Mov w1 H1 w1 H1 := ⟨fun _ _ h => h, fun _ _ h _ f => ⟨h, f⟩⟩
          exact ⟨b1, b2, a1, a2, us1, us2, rfl, m1 _ _ m0, m2 _ _ m0, q _ H1 w1 e1 st1 fun w' H' S' e' st' i => it_zipX st' (m1 _ _ e'.mov) (m2 _ _ e'.mov) (g1.ext e') (g2.ext e')⟩
/-! ### comprehensions -/
theorem wipe_wipe {σ : L2.St} (vs : List Nat) : wipe (wipe σ vs) vs = wipe σ vs := by
  have key : ∀ us : List Nat, (∀ i ∈ us, i ∈ vs) → wipe (wipe σ us) vs = wipe σ vs := by
    intro us
    induction us with
    | nil => intro _; rfl
    | cons i us ih =>
      intro h
      show wipe ((wipe σ us).set i none) vs = wipe σ vs
      rw [wipe_set vs (h i List.mem_cons_self)]
      exact ih fun j m => h j (List.mem_cons_of_mem _ m)
  exact key vs fun _ m => m
theorem own2_map {N : List Str} : ∀ {is : List Nat} {own : List (Str × Nat)}, own2 N is = some own → own.map (·.2) = is
  | [], own, h => by cases h; rfl
  | i :: r, own, h => by
    simp only [own2] at h
    cases e1 : N[i]? with
    | none => rw [e1] at h; cases h
    | some x =>
      cases e2 : own2 N r with
      | none => rw [e1, e2] at h; cases h
      | some l =>
        rw [e1, e2] at h
        cases Option.some.inj h
        simp [own2_map e2]
/-- a list that is being made at D is kept back -/
theorem hide_ext {w : Wd} {H : Hp} {D' : Addr} (h : H D' = none) : Ext w H ⟨w.lo, D' :: w.hi⟩ H :=
  ⟨fun _ _ e => e, fun a o e _ f => ⟨e, f, by
    show a ∈ D' :: w.hi ↔ a ∈ w.hi
    rw [List.mem_cons]
    exact ⟨fun z => z.elim (fun q => by subst q; rw [h] at e; cases e) _root_.id, .inr⟩⟩⟩
theorem hide_st {K : PySem.W.Frag} {w : Wd} {H : Hp} {S : Store} {D' : Addr} {o : List V} (st : RepSt K G w H S) (h : H D' = none) : RepSt K G ⟨w.lo, D' :: w.hi⟩ (upd H D' (.lst o)) S where
  len := st.len
  nd := st.nd
  cell := fun l ds e => by
    obtain ⟨c, a, h1, h3⟩ := st.cell l ds e
    have mv : Mov w H ⟨w.lo, D' :: w.hi⟩ (upd H D' (.lst o)) := ⟨fun _ _ e => e, fun b u eb _ fb => ⟨by rw [upd_ne (ne_of_none eb h)]; exact eb, fb.1, by
      show b ∉ D' :: w.hi
      rw [List.mem_cons]
      rintro (z | z)
      · subst z; rw [h] at eb; cases eb
      · exact fb.2 z⟩⟩
    exact ⟨c, a, h1, h3.mov (fun u e _ => by rw [upd_ne (ne_of_none e h)]; exact e) mv⟩
  hid := fun a m => by
    rcases List.mem_cons.mp m with z | z
    · subst z; exact ⟨⟨_, upd_same, .lst⟩, (st.fresh h).1⟩
    · obtain ⟨⟨u, e, hc⟩, f⟩ := st.hid a z
      exact ⟨⟨u, by rw [upd_ne (ne_of_none e h)]; exact e, hc⟩, f⟩
  tabs := st.tabs.ext fun b u e => by rw [upd_ne (ne_of_none e h)]; exact e
/-- the list at D, kept back, grows -/
theorem grow_mov {w : Wd} {H : Hp} {D' : Addr} {o : HO} (h : D' ∈ w.hi) : Mov w H w (upd H D' o) :=
  ⟨fun _ _ e => e, fun b u eb _ fb => ⟨by rw [upd_ne (fun z : b = D' => fb.2 (by rw [z]; exact h))]; exact eb, fb⟩⟩
theorem grow_st {K : PySem.W.Frag} {w : Wd} {H : Hp} {S : Store} {D' : Addr} {o : List V} (st : RepSt K G w H S) (h : D' ∈ w.hi) : RepSt K G w (upd H D' (.lst o)) S where
  len := st.len
  nd := st.nd
  cell := fun l ds e => by
    obtain ⟨c, a, h1, h3⟩ := st.cell l ds e
    have nf := (st.hid D' h).2
    exact ⟨c, a, h1, h3.mov (fun u e _ => by rw [upd_ne (fun z : a = D' => nf (by rw [← z]; exact List.mem_of_getElem? h1))]; exact e) (grow_mov h)⟩
  hid := fun a m => by
    obtain ⟨⟨u, e, hc⟩, f⟩ := st.hid a m
    by_cases z : a = D'
    · subst z; exact ⟨⟨_, upd_same, .lst⟩, f⟩
    · exact ⟨⟨u, by rw [upd_ne z]; exact e, hc⟩, f⟩
  tabs := by
    obtain ⟨⟨u, e, hc⟩, _⟩ := st.hid D' h
    exact tabs_cell e hc st.tabs
theorem grow_ext {w1 w : Wd} {H1 H : Hp} {D' : Addr} {o : HO} (e : Ext w1 H1 w H) (h : H1 D' = none) : Ext w1 H1 w (upd H D' o) :=
  ⟨e.pre, fun a u ea nt fa => let q := e.kept a u ea nt fa; ⟨by rw [upd_ne (ne_of_none ea h)]; exact q.1, q.2⟩⟩
/-- it is done: no longer kept back -/
theorem show_st {K : PySem.W.Frag} {w1 w : Wd} {H1 H : Hp} {S1 S : Store} (e : Ext w1 H1 w H) (st1 : RepSt K G w1 H1 S1) (st : RepSt K G w H S) : RepSt K G ⟨w.lo, w1.hi⟩ H S ∧ (∀ a, w.off a → Wd.off ⟨w.lo, w1.hi⟩ a) ∧ Ext w1 H1 ⟨w.lo, w1.hi⟩ H := by
  have off : ∀ a, w.off a → Wd.off ⟨w.lo, w1.hi⟩ a := fun a f => ⟨f.1, fun m => by
    obtain ⟨⟨o, h1, hc⟩, h2⟩ := st1.hid a m
    exact f.2 ((e.kept a _ h1 hc.nt h2).2.2.mpr m)⟩
  refine ⟨⟨st.len, st.nd, fun l ds h => ?_, fun a m => ?_, st.tabs⟩, off, ⟨e.pre, fun a o h n f => let q := e.kept a o h n f; ⟨q.1, q.2.1, Iff.rfl⟩⟩⟩
  · obtain ⟨c, a, h1, h3⟩ := st.cell l ds h
    have mv : Mov w H ⟨w.lo, w1.hi⟩ H := ⟨fun _ _ e => e, fun b u eb _ fb => ⟨eb, off b fb⟩⟩
    exact ⟨c, a, h1, h3.mov (fun _ e _ => e) mv⟩
  · obtain ⟨⟨o, h1, hc⟩, h2⟩ := st1.hid a m
    exact ⟨⟨o, (e.kept a _ h1 hc.nt h2).1, hc⟩, (e.kept a _ h1 hc.nt h2).2.1⟩
/-- what is left to do of a comprehension's walk -/
def left (h : D → Store → Ev.R (Option D)) (it : It') (i m : Nat) (acc : List D) (S : Store) : Ev.R (List D) :=
  match it with
  | .st ds => compL h (ds.drop i) acc S
  | .dyn l => compR h l m i acc S
def mOk (it : It') (i m : Nat) : Prop :=
  match it with
  | .st ds => i + m = ds.length
  | .dyn _ => True
/-- one turn of what is left: it stops, or the next item is done -/
theorem left_step {h : D → Store → Ev.R (Option D)} {it : It'} {i m : Nat} {acc : List D} {S SF : Store} {dsF : List D} (hm : mOk it i m) (hl : left h it i m acc S = .ok dsF SF) :
    ((match it with | .st ds => ds[i]? = none | .dyn l => ∃ ds, cel S l = some ds ∧ ds[i]? = none) ∧ dsF = acc ∧ SF = S) ∨
    ∃ d o S2 m', (match it with | .st ds => ds[i]? = some d | .dyn l => ∃ ds, cel S l = some ds ∧ ds[i]? = some d) ∧ h d S = .ok o S2 ∧ acc.length < sizeLine ∧ m = m' + 1 ∧ mOk it (i + 1) m' ∧ left h it (i + 1) m' (appO acc o) S2 = .ok dsF SF := by
  cases it with
  | st ds =>
    have hm : i + m = ds.length := hm
    cases m with
    | zero =>
      left
      have hi : ds.length ≤ i := by omega
      have e : ds.drop i = [] := List.drop_eq_nil_of_le hi
      simp only [Ev.left, e, compL] at hl
      injection hl with h1 h2
      exact ⟨List.getElem?_eq_none hi, h1.symm, h2.symm⟩
    | succ m =>
      right
      have hi : i < ds.length := by omega
      have e : ds.drop i = ds[i] :: ds.drop (i + 1) := List.drop_eq_getElem_cons hi
      simp only [Ev.left, e, compL] at hl
      cases e1 : h ds[i] S with
      | bad => rw [e1] at hl; cases hl
      | exc _ _ => rw [e1] at hl; cases hl
      | ok o S2 =>
        rw [e1] at hl
        simp only [Ev.R.bind] at hl
        split at hl
        · rename_i hz
          exact ⟨ds[i], o, S2, m, List.getElem?_eq_getElem hi, e1, of_decide_eq_true hz, rfl, (show i + 1 + m = ds.length by omega), hl⟩
        · cases hl
  | dyn l =>
    cases m with
    | zero => cases hl
    | succ m =>
      simp only [Ev.left, compR] at hl
      cases e0 : cel S l with
      | none => rw [e0] at hl; cases hl
      | some xs =>
        rw [e0] at hl
        simp only at hl
        cases e2 : xs[i]? with
        | none =>
          rw [e2] at hl
          simp only at hl
          injection hl with h1 h2
          exact .inl ⟨⟨xs, e0, e2⟩, h1.symm, h2.symm⟩
        | some d =>
          rw [e2] at hl
          simp only at hl
          cases e1 : h d S with
          | bad => rw [e1] at hl; cases hl
          | exc _ _ => rw [e1] at hl; cases hl
          | ok o S2 =>
            rw [e1] at hl
            simp only [Ev.R.bind] at hl
            split at hl
            · rename_i hz
              exact .inr ⟨d, o, S2, m, ⟨xs, e0, e2⟩, e1, of_decide_eq_true hz, rfl, trivial, hl⟩
            · cases hl
/-- the reading of a comprehension -/
theorem lc_reading {mu : Bool} {vs : List Nat} {g : IG} {it : II} {ifs : IO} {x : IE} (hv : vs = gslots g) {K : PySem.W.Frag} {σ : L2.St} {H : Hp} {Q : VK} (hq : tE K G cf W (.comp mu vs g it ifs x) σ H Q) :
    tLc (tI K G cf W it) (tG K G g) (tCc K G cf (fun _ _ _ _ => False) ifs) (tE K G cf (fun _ _ _ _ => False) x) vs σ H Q := by
  obtain ⟨env, S, w, R, p⟩ := hq
  simp only [evE] at p
  refine ⟨env, S, w, R, p.bind fun J' S1 J H1 w1 _ e1 st1 itok p1 => ?_⟩
  clear p
  intro D' hD
  generalize hh : (fun d S2 => match bindG g d (wipeE env vs) with
      | none => (.bad : Ev.R (Option D))
      | some env2 => (evC cf ifs env2 S2).bind fun b S3 => if b then (evE cf x env2 S3).bind fun y S4 => .ok (some y) S4 else .ok none S3) = h at p1
  have hstart : ∃ m, mOk J' 0 m ∧ compI cf.lf h J' S1 = left h J' 0 m [] S1 := by
    cases J' with
    | st ds => exact ⟨ds.length, (show 0 + ds.length = ds.length by omega), by simp [compI, Ev.left]⟩
    | dyn l => exact ⟨cf.lf, trivial, rfl⟩
  obtain ⟨m0, hm0, em0⟩ := hstart
  rw [em0] at p1
  cases eF : left h J' 0 m0 [] S1 with
  | bad => rw [eF] at p1; exact p1.elim
  | exc _ _ => rw [eF] at p1; exact p1.elim
  | ok dsF SF =>
    rw [eF] at p1
    simp only at p1
    have eh := hide_ext (w := w1) hD
    refine ⟨fun i m H => ∃ S' w' acc accV, Ext w1 H1 w' H ∧ D' ∈ w'.hi ∧ RepSt K G w' H S' ∧ H D' = some (.lst accV) ∧ Reps K G w' H acc accV ∧ mOk J' i m ∧ left h J' i m acc S' = .ok dsF SF,
      ⟨m0, S1, ⟨w1.lo, D' :: w1.hi⟩, [], [], ?_, List.mem_cons_self, hide_st st1 hD, upd_same, .nil, hm0, eF⟩, ?_⟩
    · exact ⟨fun _ _ e => e, fun a u ea nt fa => ⟨by rw [upd_ne (ne_of_none ea hD)]; exact ea, (eh.kept a u ea nt fa).2⟩⟩
    · rintro i m H2 ⟨S', w', acc, accV, e2, hd2, st2, hl2, r2, hm, el⟩
      have ok := itok
      rcases left_step hm el with ⟨stop, ea, es⟩ | ⟨d, o, S3, m', hd, eo, hz, em, hm', el'⟩
      · left
        rw [ea, es] at p1
        obtain ⟨st3, off3, e3⟩ := show_st e2 st1 st2
        have hnl : D' ∉ w'.lo := (st2.hid D' hd2).2
        have hs : J.stop i H2 := by
          cases J' with
          | st ds => exact (ok w' H2 S' e2 st2 i).2 stop
          | dyn l => obtain ⟨ds, h1, h2⟩ := stop; exact (ok w' H2 S' e2 st2 i ds h1).2 h2
        refine ⟨hs, ?_⟩
        have mv : Mov w' H2 ⟨w'.lo, w1.hi⟩ H2 := ⟨fun _ _ e => e, fun b u eb _ fb => ⟨eb, off3 b fb⟩⟩
        have r3 : Reps K G ⟨w'.lo, w1.hi⟩ H2 acc accV := r2.mov mv
        have hoff : Wd.off ⟨w'.lo, w1.hi⟩ D' := ⟨hnl, fun m => by
          obtain ⟨⟨u, e, _⟩, _⟩ := st1.hid D' m
          rw [hD] at e; cases e⟩
        unfold mkL at p1
        cases mu with
        | false => exact p1 (.ref D') H2 ⟨w'.lo, w1.hi⟩ e3 st3 (.lst ⟨hl2, hoff⟩ r3)
        | true =>
          simp only [if_true] at p1
          split at p1
          · rename_i hc
            have e4 : Ext w1 H1 ⟨w'.lo ++ [D'], w1.hi⟩ H2 := ⟨fun l a h => by
              have h5 := e2.pre l a h
              show (w'.lo ++ [D'])[l]? = some a
              rw [List.getElem?_append_left (List.getElem?_eq_some_iff.mp h5).1]; exact h5, fun a u ea nt fa => ⟨(e2.kept a u ea nt fa).1, (by
              show a ∉ w'.lo ++ [D']
              rw [List.mem_append, List.mem_singleton]
              rintro (z | z)
              · exact (e2.kept a u ea nt fa).2.1 z
              · subst z; rw [hD] at ea; cases ea), Iff.rfl⟩⟩
            have mv2 : Mov ⟨w'.lo, w1.hi⟩ H2 ⟨w'.lo, w1.hi⟩ H2 := ⟨fun _ _ e => e, fun b u eb _ fb => ⟨eb, fb⟩⟩
            have mv5 : Mov w' H2 ⟨w'.lo ++ [D'], w1.hi⟩ H2 := ⟨fun l a h5 => by
              show (w'.lo ++ [D'])[l]? = some a
              rw [List.getElem?_append_left (List.getElem?_eq_some_iff.mp h5).1]; exact h5, fun b u eb _ fb => ⟨eb, (by
              show b ∉ w'.lo ++ [D']
              rw [List.mem_append, List.mem_singleton]
              rintro (z | z)
              · exact fb.1 z
              · subst z; exact fb.2 hd2), (off3 b fb).2⟩⟩
            have st5 : RepSt K G ⟨w'.lo ++ [D'], w1.hi⟩ H2 (S' ++ [acc]) := by
              refine ⟨?_, ?_, fun l ds e => ?_, fun a m => ?_, st2.tabs⟩
              · show (w'.lo ++ [D']).length = _
                rw [List.length_append, List.length_append, st2.len]; rfl
              · show (w'.lo ++ [D']).Nodup
                rw [List.nodup_append]
                refine ⟨st2.nd, by simp, fun a ha b hb => ?_⟩
                rw [List.mem_singleton] at hb
                subst hb
                exact fun z => hnl (z ▸ ha)
              · by_cases hl : l < S'.length
                · rw [List.getElem?_append_left hl] at e
                  obtain ⟨c', a, h1, h3⟩ := st2.cell l ds e
                  refine ⟨c', a, ?_, h3.mov (fun _ e _ => e) mv5⟩
                  show (w'.lo ++ [D'])[l]? = some a
                  rw [List.getElem?_append_left (List.getElem?_eq_some_iff.mp h1).1]; exact h1
                · rw [List.getElem?_append_right (by omega)] at e
                  have hz' : l = S'.length := by
                    have := (List.getElem?_eq_some_iff.mp e).1
                    simp at this; omega
                  subst hz'
                  simp at e
                  subst e
                  refine ⟨hc, D', ?_, .inl ⟨accV, hl2, r2.mov mv5⟩⟩
                  show (w'.lo ++ [D'])[S'.length]? = some D'
                  rw [← st2.len, List.getElem?_append_right (Nat.le_refl _)]
                  simp
              · obtain ⟨h5, h6⟩ := st3.hid a m
                refine ⟨h5, ?_⟩
                show a ∉ w'.lo ++ [D']
                rw [List.mem_append, List.mem_singleton]
                rintro (z | z)
                · exact h6 z
                · subst z; exact hoff.2 m
            refine p1 (.ref D') H2 ⟨w'.lo ++ [D'], w1.hi⟩ e4 st5 (.ref ?_)
            show (w'.lo ++ [D'])[S'.length]? = some D'
            rw [← st2.len, List.getElem?_append_right (Nat.le_refl _)]
            simp
          · exact p1.elim
      · right
        have gy : J.go i H2 ∧ ∀ x H'', J.yld i H2 x H'' → Ext w' H2 w' H'' ∧ RepSt K G w' H'' S' ∧ Rep K G w' H'' d x := by
          cases J' with
          | st ds => exact (ok w' H2 S' e2 st2 i).1 d hd
          | dyn l => obtain ⟨ds, h1, h2⟩ := hd; exact (ok w' H2 S' e2 st2 i ds h1).1 d h2
        refine ⟨gy.1, fun H' => ∃ S' w' acc accV, Ext w1 H1 w' H' ∧ D' ∈ w'.hi ∧ RepSt K G w' H' S' ∧ H' D' = some (.lst accV) ∧ Reps K G w' H' acc accV ∧ mOk J' (i + 1) m' ∧ left h J' (i + 1) m' acc S' = .ok dsF SF, fun H' z => ⟨m', by omega, z⟩, fun xv H3 y => ?_⟩
        obtain ⟨e3, st3, r3⟩ := gy.2 xv H3 y
        have hl3 : H3 D' = some (.lst accV) ∧ D' ∉ w'.lo := ⟨(e3.kept D' _ hl2 .lst (st2.hid D' hd2).2).1, (st2.hid D' hd2).2⟩
        have en3 : RepEnv K G w' H3 (wipeE env vs) (wipe σ vs) := ((R.en.ext e1).ext (e2.trans e3)).wipe vs
        -- the item is taken apart
        rw [← hh] at eo
        simp only at eo
        cases eb : bindG g d (wipeE env vs) with
        | none => rw [eb] at eo; cases eo
        | some env2 =>
          rw [eb] at eo
          simp only at eo
          refine ⟨d, wipeE env vs, env2, S', w', ⟨st3, en3⟩, r3, unp_of eb, fun σ2 R2 hw2 => ⟨?_, ?_⟩⟩
          · exact (hw2 vs (by rw [hv]; exact fun i m => m)).trans (wipe_wipe vs)
          · cases ec : evC cf ifs env2 S' with
            | bad => rw [ec] at eo; cases eo
            | exc _ _ => rw [ec] at eo; cases eo
            | ok b S4 =>
              rw [ec] at eo
              simp only [Ev.R.bind] at eo
              refine ⟨env2, S', w', ⟨st3, R2⟩, ?_⟩
              rw [ec]
              intro b' H4 w4 e4 st4 hb'
              subst hb'
              have hl4 : H4 D' = some (.lst accV) ∧ D' ∉ w4.lo ∧ D' ∈ w4.hi := by
                have q := e4.kept D' _ hl3.1 .lst hl3.2
                exact ⟨q.1, q.2.1, q.2.2.mpr hd2⟩
              cases b with
              | false =>
                rw [if_neg Bool.false_ne_true] at eo ⊢
                cases eo
                exact ⟨S3, w4, acc, accV, e2.trans (e3.trans e4), hl4.2.2, st4, hl4.1, r2.ext (e3.trans e4), hm', el'⟩
              | true =>
                rw [if_pos rfl] at eo ⊢
                cases ey : evE cf x env2 S4 with
                | bad => rw [ey] at eo; cases eo
                | exc _ _ => rw [ey] at eo; cases eo
                | ok yd S5 =>
                  rw [ey] at eo
                  cases eo
                  refine ⟨env2, S4, w4, ⟨st4, R2.ext e4⟩, ?_⟩
                  rw [ey]
                  intro yv H5 w5 e5 st5 ry
                  have hl5 : H5 D' = some (.lst accV) ∧ D' ∉ w5.lo ∧ D' ∈ w5.hi := by
                    have q := e5.kept D' _ hl4.1 .lst hl4.2.1
                    exact ⟨q.1, q.2.1, q.2.2.mpr hl4.2.2⟩
                  have r5 := r2.ext (e3.trans (e4.trans e5))
                  refine ⟨accV, hl5.1, by rw [← r5.length]; exact hz, S3, w5, acc ++ [yd], accV ++ [yv], grow_ext (e2.trans (e3.trans (e4.trans e5))) hD, hl5.2.2, grow_st st5 hl5.2.2, upd_same, (r5.append (.cons ry .nil)).mov (grow_mov hl5.2.2), hm', el'⟩
theorem pts_none1 : PTs X [] (tCc X.K G cf W .none) := ⟨fun pins s σ H Q I ⟨env, S, w, R, p⟩ => pts_nil.run pins s σ H Q I (p true H w (Ext.refl _ _) R.st rfl)⟩
theorem pts_some1 {c : Expr} {ic : IE} (h : PT X c (tTt X.K G cf W ic)) : PTs X [c] (tCc X.K G cf W (.some ic)) := ⟨fun pins s σ H Q I ⟨env, S, w, R, p⟩ => (pts_one h).run pins s σ H Q I (by
  simp only [evC] at p
  refine ⟨env, S, w, R, p.bind fun d1 S1 v1 H1 w1 _ e1 st1 r1 p1 => ?_⟩
  cases et : truth S1 d1 with
  | none => rw [et] at p1; exact p1.elim
  | some k => rw [et] at p1; exact ⟨k, rfl, p1 k H1 w1 (Ext.refl _ _) st1 rfl⟩)⟩
end
end Ev
/-! Ev, part Hd: displays of dicts that become cells. -/
namespace Ev
open PySem PySem.Spec PyProof.Rows L2
theorem hide_stC {K : PySem.W.Frag} {G : Gx} {w : Wd} {H : Hp} {S : Store} {D' : Addr} {o : HO} (co : CellO o) (st : RepSt K G w H S) (h : H D' = none) : RepSt K G ⟨w.lo, D' :: w.hi⟩ (upd H D' o) S where
  len := st.len
  nd := st.nd
  cell := fun l ds e => by
    obtain ⟨c, a, h1, h3⟩ := st.cell l ds e
    have mv : Mov w H ⟨w.lo, D' :: w.hi⟩ (upd H D' o) := ⟨fun _ _ e => e, fun b u eb _ fb => ⟨by rw [upd_ne (ne_of_none eb h)]; exact eb, fb.1, by
      show b ∉ D' :: w.hi
      rw [List.mem_cons]
      rintro (z | z)
      · subst z; rw [h] at eb; cases eb
      · exact fb.2 z⟩⟩
    exact ⟨c, a, h1, h3.mov (fun u e _ => by rw [upd_ne (ne_of_none e h)]; exact e) mv⟩
  hid := fun a m => by
    rcases List.mem_cons.mp m with z | z
    · subst z; exact ⟨⟨_, upd_same, co⟩, (st.fresh h).1⟩
    · obtain ⟨⟨u, e, hc⟩, f⟩ := st.hid a z
      exact ⟨⟨u, by rw [upd_ne (ne_of_none e h)]; exact e, hc⟩, f⟩
  tabs := st.tabs.ext fun b u e => by rw [upd_ne (ne_of_none e h)]; exact e
theorem grow_stC {K : PySem.W.Frag} {G : Gx} {w : Wd} {H : Hp} {S : Store} {D' : Addr} {o : HO} (co : CellO o) (st : RepSt K G w H S) (h : D' ∈ w.hi) : RepSt K G w (upd H D' o) S where
  len := st.len
  nd := st.nd
  cell := fun l ds e => by
    obtain ⟨c, a, h1, h3⟩ := st.cell l ds e
    have nf := (st.hid D' h).2
    exact ⟨c, a, h1, h3.mov (fun u e _ => by rw [upd_ne (fun z : a = D' => nf (by rw [← z]; exact List.mem_of_getElem? h1))]; exact e) (grow_mov h)⟩
  hid := fun a m => by
    obtain ⟨⟨u, e, hc⟩, f⟩ := st.hid a m
    by_cases z : a = D'
    · subst z; exact ⟨⟨_, upd_same, co⟩, f⟩
    · exact ⟨⟨u, by rw [upd_ne z]; exact e, hc⟩, f⟩
  tabs := by
    obtain ⟨⟨u, e, hc⟩, _⟩ := st.hid D' h
    exact tabs_cell e hc st.tabs
/-- what was kept back becomes a cell -/
theorem show_cell {K : PySem.W.Frag} {G : Gx} {w1 w' : Wd} {H1 H2 : Hp} {S1 S' : Store} {D' : Addr} {ds : List D} (e2 : Ext w1 H1 w' H2) (st1 : RepSt K G w1 H1 S1) (st2 : RepSt K G w' H2 S') (hD : H1 D' = none) (hd2 : D' ∈ w'.hi) (hc : D.calms ds = true)
    (q : CellR K G w' H2 ds D') : RepSt K G ⟨w'.lo ++ [D'], w1.hi⟩ H2 (S' ++ [ds]) ∧ Ext w1 H1 ⟨w'.lo ++ [D'], w1.hi⟩ H2 ∧ Rep K G ⟨w'.lo ++ [D'], w1.hi⟩ H2 (.ref S'.length) (.ref D') := by
  obtain ⟨st3, off3, e3⟩ := show_st e2 st1 st2
  have hnl : D' ∉ w'.lo := (st2.hid D' hd2).2
  have hoff : Wd.off ⟨w'.lo, w1.hi⟩ D' := ⟨hnl, fun m => by
    obtain ⟨⟨u, e, _⟩, _⟩ := st1.hid D' m
    rw [hD] at e; cases e⟩
  have e4 : Ext w1 H1 ⟨w'.lo ++ [D'], w1.hi⟩ H2 := ⟨fun l a h => by
    have h5 := e2.pre l a h
    show (w'.lo ++ [D'])[l]? = some a
    rw [List.getElem?_append_left (List.getElem?_eq_some_iff.mp h5).1]; exact h5, fun a u ea nt fa => ⟨(e2.kept a u ea nt fa).1, (by
    show a ∉ w'.lo ++ [D']
    rw [List.mem_append, List.mem_singleton]
    rintro (z | z)
    · exact (e2.kept a u ea nt fa).2.1 z
    · subst z; rw [hD] at ea; cases ea), Iff.rfl⟩⟩
  have mv5 : Mov w' H2 ⟨w'.lo ++ [D'], w1.hi⟩ H2 := ⟨fun l a h5 => by
    show (w'.lo ++ [D'])[l]? = some a
    rw [List.getElem?_append_left (List.getElem?_eq_some_iff.mp h5).1]; exact h5, fun b u eb _ fb => ⟨eb, (by
    show b ∉ w'.lo ++ [D']
    rw [List.mem_append, List.mem_singleton]
    rintro (z | z)
    · exact fb.1 z
    · subst z; exact fb.2 hd2), (off3 b fb).2⟩⟩
  refine ⟨⟨?_, ?_, fun l ds e => ?_, fun a m => ?_, st2.tabs⟩, e4, .ref ?_⟩
  · show (w'.lo ++ [D']).length = _
    rw [List.length_append, List.length_append, st2.len]; rfl
  · show (w'.lo ++ [D']).Nodup
    rw [List.nodup_append]
    refine ⟨st2.nd, by simp, fun a ha b hb => ?_⟩
    rw [List.mem_singleton] at hb
    subst hb
    exact fun z => hnl (z ▸ ha)
  · by_cases hl : l < S'.length
    · rw [List.getElem?_append_left hl] at e
      obtain ⟨c', a, h1, h3⟩ := st2.cell l ds e
      refine ⟨c', a, ?_, h3.mov (fun _ e _ => e) mv5⟩
      show (w'.lo ++ [D'])[l]? = some a
      rw [List.getElem?_append_left (List.getElem?_eq_some_iff.mp h1).1]; exact h1
    · rw [List.getElem?_append_right (by omega)] at e
      have hz' : l = S'.length := by
        have := (List.getElem?_eq_some_iff.mp e).1
        simp at this; omega
      subst hz'
      simp at e
      subst e
      refine ⟨hc, D', ?_, q.mov (fun _ e _ => e) mv5⟩
      show (w'.lo ++ [D'])[S'.length]? = some D'
      rw [← st2.len, List.getElem?_append_right (Nat.le_refl _)]
      simp
  · obtain ⟨h5, h6⟩ := st3.hid a m
    refine ⟨h5, ?_⟩
    show a ∉ w'.lo ++ [D']
    rw [List.mem_append, List.mem_singleton]
    rintro (z | z)
    · exact h6 z
    · subst z; exact hoff.2 m
  · show (w'.lo ++ [D'])[S'.length]? = some D'
    rw [← st2.len, List.getElem?_append_right (Nat.le_refl _)]
    simp
/-! ### displays -/
section
variable {X : Cx} {G : Gx} {cf : Cf} {W : WX}
theorem dKey_of {k : Expr} {d : D} (h : dKey k = some d) : ∃ kk : Key, d = keyD kk ∧ PE X k (tC (L2.kV kk)) := by
  unfold dKey at h
  split at h
  · cases h; exact ⟨.inl _, rfl, pe_int⟩
  · cases h; exact ⟨.inr _, rfl, pe_str⟩
  · cases h
/-- the pairs: constant keys, values by our evaluation -/
inductive Prs (K : PySem.W.Frag) (G : Gx) (cf : Cf) (W : WX) : List Key → IEs → List (TE × TE) → Prop
  | nil : Prs K G cf W [] .nil []
  | cons {k : Key} {ks : List Key} {i : IE} {is : IEs} {trs : List (TE × TE)} : Prs K G cf W ks is trs → Prs K G cf W (k :: ks) (.cons i is) ((tC (L2.kV k), tE K G cf W i) :: trs)
theorem prs_of {pos : Pos} {f : Expr → Option IE} (hf : ∀ e i, f e = some i → PE X e (tE X.K G cf W i)) : ∀ {keys : List (Option Expr)} {vals : List Expr} {ks : List D} {is : IEs}, keys.length = vals.length → dKeys keys = some ks → mapE f vals = some is →
    ∃ kk trs, ks = kk.map keyD ∧ keys.all (·.isSome) = true ∧ PPs X pos keys vals trs ∧ Prs X.K G cf W kk is trs ∧ kk.length = keys.length
  | [], [], ks, is, _, h1, h2 => by cases h1; cases h2; exact ⟨[], [], rfl, rfl, pps_nil, .nil, rfl⟩
  | [], _ :: _, ks, is, hl, h1, h2 => by simp at hl
  | _ :: _, [], ks, is, hl, h1, h2 => by simp at hl
  | none :: _, v :: vs, ks, is, hl, h1, h2 => by simp [dKeys] at h1
  | some k :: r, v :: vs, ks, is, hl, h1, h2 => by
    simp only [dKeys] at h1
    split at h1
    · rename_i d ds e1 e2
      cases h1
      simp only [mapE] at h2
      split at h2
      · rename_i i is' e3 e4
        cases h2
        obtain ⟨kk, trs, p1, p2, p3, p4, p5⟩ := prs_of (pos := pos) hf (by simpa using hl) e2 e4
        obtain ⟨kx, q1, q2⟩ := dKey_of (X := X) e1
        subst p1 q1
        exact ⟨kx :: kk, _, rfl, by simp [p2], pps_cons q2 (hf _ _ e3) p3, .cons p4, by simp [p5]⟩
      · cases h2
    · cases h1
theorem tp_of {K : PySem.W.Frag} {σ : L2.St} {env : Env'} : ∀ {kk : List Key} {is : IEs} {trs : List (TE × TE)}, Prs K G cf W kk is trs → ∀ {H : Hp} {S : Store} {w : Wd} {Q : List (V × V) → Hp → Prop}, Rel K G w σ H env S →
    PVs K G W σ (evEs cf is env S) w H (fun ds S' vs H' w' => ds.length = kk.length → Q ((kk.zip vs).map fun kv => (L2.kV kv.1, kv.2)) H') → tPairs trs σ H Q
  | _, _, _, .nil, H, S, w, Q, R, p => by
    simp only [evEs] at p
    exact p [] H w (Ext.refl _ _) R.st .nil rfl
  | _, _, _, .cons (k := k) (ks := ks) h, H, S, w, Q, R, p => by
    simp only [evEs] at p
    refine ⟨env, S, w, R, p.bind fun d S1 v H1 w1 _ e1 st1 r1 p1 => ?_⟩
    refine tp_of h (R.ext e1 st1) (p1.bind fun ds S2 vs H2 w2 _ e2 st2 r2 p2 => fun hl => ?_)
    exact p2 (v :: vs) H2 w2 (Ext.refl _ _) st2 (.cons (r1.ext e2) r2) (by simp [hl])
theorem evEs_lenK : ∀ {kk : List Key} {is : IEs} {trs : List (TE × TE)} {K : PySem.W.Frag}, Prs K G cf W kk is trs → ∀ {env : Env'} {S S' : Store} {ds : List D}, evEs cf is env S = .ok ds S' → ds.length = kk.length
  | _, _, _, _, .nil, env, S, S', ds, h => by simp only [evEs] at h; cases h; rfl
  | _, _, _, _, .cons (i := i) (is := is) hp, env, S, S', ds, h => by
    simp only [evEs] at h
    cases e1 : evE cf i env S with
    | ok d S1 =>
      rw [e1] at h
      simp only [R.bind] at h
      cases e2 : evEs cf is env S1 with
      | ok ds' S2 =>
        rw [e2] at h
        simp only [R.bind] at h
        cases h
        simp [evEs_lenK hp e2]
      | exc _ _ => rw [e2] at h; cases h
      | bad => rw [e2] at h; cases h
    | exc _ _ => rw [e1] at h; cases h
    | bad => rw [e1] at h; cases h
theorem pe_dsp1 {f : Expr → Option IE} (hf : ∀ e i, f e = some i → PE X e (tE X.K G cf W i)) {keys : List (Option Expr)} {vals : List Expr} {ks : List D} {is : IEs} {pos : Pos} (hl : keys.length = vals.length) (h0 : keys ≠ []) (h15 : keys.length ≤ 15)
    (h1 : dKeys keys = some ks) (h2 : mapE f vals = some is) : PE X (.Dict keys vals pos) (tE X.K G cf W (.dsp ks is)) := by
  obtain ⟨kk, trs, rfl, p2, p3, p4, p5⟩ := prs_of (pos := pos) hf hl h1 h2
  refine (pe_disp p3 p2 hl h0 h15).imp fun σ H Q ⟨env, S, w, R, q⟩ => fun D' hD => ?_
  simp only [evE] at q
  have st1 := hide_stC (o := .dK []) .dK R.st hD
  have eh : Ext w H ⟨w.lo, D' :: w.hi⟩ (upd H D' (.dK [])) := ⟨fun _ _ e => e, fun a u ea nt fa => ⟨by rw [upd_ne (ne_of_none ea hD)]; exact ea, ((hide_ext hD).kept a u ea nt fa).2⟩⟩
  refine tp_of p4 ⟨st1, R.en.ext eh⟩ ?_
  cases er : evEs cf is env S with
  | bad => rw [er] at q; exact q.elim
  | exc x SF =>
    rw [er] at q
    exact PostG.ext (r := (.exc x SF : Ev.R (List D))) (rep := Reps X.K G) (Q := fun _ _ _ _ _ => True) q eh
  | ok ds S1 =>
    rw [er] at q
    simp only [Ev.R.bind] at q
    refine fun vs H2 w2 e2 st2 r2 hlen => ?_
    split at q
    · rename_i hc
      have hd2 : D' ∈ w2.hi := ((e2.kept D' _ upd_same CellO.dK.nt (by exact (R.st.fresh hD).1)).2.2).mpr List.mem_cons_self
      have hH2 : H2 D' = some (.dK []) := (e2.kept D' _ upd_same CellO.dK.nt (by exact (R.st.fresh hD).1)).1
      obtain ⟨en, ce⟩ := Ent.made (ks := kk) hc r2 (es := []) (kvs := []) rfl .nil
      have hz : (kk.zip vs).length ≤ 15 := by
        rw [List.length_zip]; omega
      refine ⟨hH2, kk.zip vs, rfl, hz, ?_⟩
      have st3 : RepSt X.K G w2 (upd H2 D' (.dK (mergeK [] (kk.zip vs)))) S1 := grow_stC .dK st2 hd2
      have e3 : Ext w H w2 (upd H2 D' (.dK (mergeK [] (kk.zip vs)))) := ⟨fun l a h => e2.pre l a h, fun a u ea nt fa => by
        have k1 := (hide_ext hD).kept a u ea nt fa
        have k2 := e2.kept a u (by rw [upd_ne (ne_of_none ea hD)]; exact ea) nt k1.2.1
        exact ⟨by rw [upd_ne (ne_of_none ea hD)]; exact k2.1, k2.2.1, k2.2.2.trans k1.2.2⟩⟩
      obtain ⟨st4, e4, r4⟩ := show_cell (ds := .mk false :: dmk (kk.map keyD) ds []) e3 R.st st3 hD hd2 (by simpa [D.calms, D.calm] using ce) (.inr (.inl ⟨_, _, rfl, upd_same, en.mov (grow_mov hd2)⟩))
      exact q (.ref D') _ _ e4 st4 r4
    · exact q.elim
end
end Ev
/-! Ev, part He: starred displays, enumerate, dict comprehensions with tuples as keys. -/
namespace Ev
open PySem PySem.Spec PyProof.Rows L2
section
variable {X : Cx} {G : Gx} {cf : Cf} {W : WX}
def tSpl (K : PySem.W.Frag) (G : Gx) (cf : Cf) (W : WX) (is : IEs) (st : List Bool) : TA := fun σ H Q =>
  ∃ env S w, Rel K G w σ H env S ∧ PVs K G W σ (evEs cf is env S) w H (fun ds _ vs H' w' => ∃ xs, splD st ds = some xs ∧ ∀ us, Reps K G w' H' xs us → Q us H')
theorem pa_spl {f : Expr → Option IE} (hf : ∀ e i, f e = some i → PE X e (tE X.K G cf W i)) : ∀ {es : List Expr} {is : IEs}, mapS f es = some is → (strip es).1.all plainE = true → PA X es (tSpl X.K G cf W is (strip es).2)
  | [], is, h, _ => by
    cases h
    exact pa_nil.imp fun σ H Q ⟨env, S, w, R, p⟩ => by
      simp only [evEs] at p
      obtain ⟨xs, e, k⟩ := p [] H w (Ext.refl _ _) R.st .nil
      cases e
      exact k [] .nil
  | e :: r, is, h, hp => by
    by_cases hs : ∃ e' p, e = .Starred e' p
    · obtain ⟨e', p, rfl⟩ := hs
      have hp1 : (e' :: (strip r).1).all plainE = true := hp
      simp only [mapS] at h
      split at h
      · rename_i i is' g1 g2
        cases h
        simp only [List.all_cons, Bool.and_eq_true] at hp1
        have ih := pa_spl hf (es := r) g2 hp1.2
        refine (StX.pa_star (hf _ _ g1) ih rfl).imp fun σ H Q ⟨env, S, w, R, q⟩ => ?_
        simp only [evEs, evE] at q
        refine ⟨env, S, w, R, ?_⟩
        cases ed : evE cf i env S with
        | bad => rw [ed] at q; exact q.elim
        | exc x S1 => rw [ed] at q; exact q
        | ok d S1 =>
          rw [ed] at q
          by_cases hi : (itemsP d).isSome = true
          · have q0 : PVs X.K G W σ ((evEs cf is' env S1).bind fun ds S2 => .ok (d :: ds) S2) w H (fun ds _ vs H' w' => ∃ xs, splD (strip (e'.Starred p :: r)).2 ds = some xs ∧ ∀ us, Reps X.K G w' H' xs us → Q us H') := by
              have e0 : ((Ev.R.ok d S1 : Ev.R D).bind fun d S1 => if (itemsP d).isSome = true then Ev.R.ok d S1 else Ev.R.bad) = .ok d S1 := by
                show (if (itemsP d).isSome = true then Ev.R.ok d S1 else Ev.R.bad) = _
                rw [if_pos hi]
              rw [e0] at q
              exact q
            clear q
            intro v H1 w1 e1 st1 r1
            obtain ⟨a, ha⟩ := Option.isSome_iff_exists.mp hi
            have q1 := PostG.ext q0 e1
            obtain ⟨b, pa, us, rfl, m, rs⟩ := seqX_of r1 ha
            have m0 : Mov w1 H1 w1 H1 := ⟨fun _ _ h => h, fun _ _ h _ f => ⟨h, f⟩⟩
            have hsq : SqT X.K H1 pa us ∨ SqL X.K H1 pa us := by
              have := m _ _ m0
              cases b
              · exact .inr this
              · exact .inl this
            refine ⟨pa, us, rfl, hsq, env, S1, w1, R.ext e1 st1, PostG.bind q1 fun ds S2 vs H2 w2 _ e2 st2 r2 q2 => ?_⟩
            obtain ⟨xs, ex, k⟩ := q2 (.ref pa :: vs) H2 w2 (Ext.refl _ _) st2 (.cons (r1.ext e2) r2)
            have ex' : splD (true :: (strip r).2) (d :: ds) = some xs := ex
            simp only [splD, ha] at ex'
            cases eq : splD (strip r).2 ds with
            | none => rw [eq] at ex'; cases ex'
            | some ys =>
              rw [eq] at ex'
              cases ex'
              exact ⟨ys, rfl, fun zs rz => k _ ((rs.ext e2).append rz)⟩
          · exfalso
            have e0 : ((Ev.R.ok d S1 : Ev.R D).bind fun d S1 => if (itemsP d).isSome = true then Ev.R.ok d S1 else Ev.R.bad) = .bad := by
              show (if (itemsP d).isSome = true then Ev.R.ok d S1 else Ev.R.bad) = _
              rw [if_neg hi]
            rw [e0] at q
            exact q
      · cases h
    · have es : strip (e :: r) = (e :: (strip r).1, false :: (strip r).2) ∧ mapS f (e :: r) = (match f e, mapS f r with | some i, some is => some (.cons i is) | _, _ => none) := by
        cases e <;> first
          | exact ⟨rfl, rfl⟩
          | (exfalso; exact hs ⟨_, _, rfl⟩)
      rw [es.1] at hp ⊢
      rw [es.2] at h
      split at h
      · rename_i i is' g1 g2
        cases h
        simp only [List.all_cons, Bool.and_eq_true] at hp
        have ih := pa_spl hf (es := r) g2 hp.2
        refine (pa_cons (hf _ _ g1) ih (star_cons hp.1)).imp fun σ H Q ⟨env, S, w, R, q⟩ => ?_
        simp only [evEs] at q
        refine ⟨env, S, w, R, PostG.bind q fun d S1 v H1 w1 er e1 st1 r1 q1 => ?_⟩
        refine ⟨env, S1, w1, R.ext e1 st1, PostG.bind q1 fun ds S2 vs H2 w2 _ e2 st2 r2 q2 => ?_⟩
        obtain ⟨xs, ex, k⟩ := q2 (v :: vs) H2 w2 (Ext.refl _ _) st2 (.cons (r1.ext e2) r2)
        have ex' : splD (false :: (strip r).2) (d :: ds) = some xs := ex
        simp only [splD] at ex'
        cases eq : splD (strip r).2 ds with
        | none => rw [eq] at ex'; cases ex'
        | some ys =>
          rw [eq] at ex'
          cases ex'
          exact ⟨ys, rfl, fun zs rz => k _ (.cons (r1.ext e2) rz)⟩
      · cases h
theorem pe_tupS1 {f : Expr → Option IE} (hf : ∀ e i, f e = some i → PE X e (tE X.K G cf W i)) {es : List Expr} {is : IEs} {k : Nat} {pos : Pos} (h : mapS f es = some is) (hp : (strip es).1.all plainE = true) : PE X (.Tuple es k pos) (tE X.K G cf W (.tupS (strip es).2 is)) := by
  refine (pe_tup (pa_spl hf h hp)).imp fun σ H Q ⟨env, S, w, R, p⟩ => ?_
  simp only [evE] at p
  refine ⟨env, S, w, R, p.bind fun ds S1 vs H1 w1 _ e1 st1 r1 p1 => ?_⟩
  cases ex : splD (strip es).2 ds with
  | none => rw [ex] at p1; exact p1.elim
  | some xs =>
    rw [ex] at p1
    simp only at p1
    refine ⟨xs, rfl, fun us ru => ?_⟩
    split at p1
    · rename_i hz
      refine ⟨by rw [← ru.length]; exact small_of hz, fun q hq => ?_⟩
      exact p1 _ _ w1 (Ext.laid hq) (st1.laid hq) (tup_new st1 hq ru)
    · exact p1.elim
/-! ### enumerate -/
theorem enumD_get : ∀ (xs : List D) (n i : Nat), (enumD n xs)[i]? = (xs[i]?).map fun d => .tup [.int ((n + i : Nat) : Int), d]
  | [], n, i => by simp [enumD]
  | d :: r, n, 0 => by simp [enumD]
  | d :: r, n, i + 1 => by
    rw [enumD, List.getElem?_cons_succ, List.getElem?_cons_succ, enumD_get r (n + 1) i]
    congr 1; funext x; congr 4; omega
section
variable {K : PySem.W.Frag} {w : Wd} {H : Hp} {S : Store}
theorem enum_rep {xs : List V} {ds : List D} {i : Nat} {d : D} (r : Reps K G w H ds xs) (st : RepSt K G w H S) (hd : (enumD 0 ds)[i]? = some d) : ∃ u, xs[i]? = some u ∧ ∀ T, H T = none → Rep K G w (upd H T (.tup [.int (i : Nat), u])) d (.ref T) := by
  rw [enumD_get] at hd
  rw [Option.map_eq_some_iff] at hd
  obtain ⟨x, e, rfl⟩ := hd
  obtain ⟨u, g, q⟩ := r.get e
  refine ⟨u, g, fun T hT => ?_⟩
  rw [Nat.zero_add]
  exact tup_new st hT (.cons (.int _) (.cons q .nil))
theorem enum_none {xs : List V} {ds : List D} {i : Nat} (r : Reps K G w H ds xs) (hd : (enumD 0 ds)[i]? = none) : xs.length ≤ i := by
  rw [enumD_get] at hd
  rw [Option.map_eq_none_iff, List.getElem?_eq_none_iff] at hd
  rw [← r.length]; exact hd
theorem it_enumL {a : Addr} {xs : List V} {ds : List D} {i : Nat} (st : RepSt K G w H S) (h1 : SqL K H a xs) (r : Reps K G w H ds xs) :
    (∀ d, (enumD 0 ds)[i]? = some d → (Ite K a).go i H ∧ ∀ x H'', (Ite K a).yld i H x H'' → Ext w H w H'' ∧ RepSt K G w H'' S ∧ Rep K G w H'' d x) ∧ ((enumD 0 ds)[i]? = none → (Ite K a).stop i H) := by
  refine ⟨fun d hd => ?_, fun hn => ⟨xs, h1, enum_none r hn⟩⟩
  obtain ⟨u, g, q⟩ := enum_rep r st hd
  refine ⟨⟨xs, u, h1, g⟩, fun z H'' yl => ?_⟩
  obtain ⟨T, u', rfl, hT, rfl, k1⟩ := yl
  have z1 := k1 xs h1
  rw [g] at z1
  cases z1
  exact ⟨Ext.laid hT, st.laid hT, q T hT⟩
theorem it_enumT {a : Addr} {xs : List V} {ds : List D} {i : Nat} (st : RepSt K G w H S) (h1 : SqT K H a xs) (r : Reps K G w H ds xs) :
    (∀ d, (enumD 0 ds)[i]? = some d → (EvZn.IteT K a).go i H ∧ ∀ x H'', (EvZn.IteT K a).yld i H x H'' → Ext w H w H'' ∧ RepSt K G w H'' S ∧ Rep K G w H'' d x) ∧ ((enumD 0 ds)[i]? = none → (EvZn.IteT K a).stop i H) := by
  refine ⟨fun d hd => ?_, fun hn => ⟨xs, h1, enum_none r hn⟩⟩
  obtain ⟨u, g, q⟩ := enum_rep r st hd
  refine ⟨⟨xs, u, h1, g⟩, fun z H'' yl => ?_⟩
  obtain ⟨T, u', rfl, hT, rfl, k1⟩ := yl
  have z1 := k1 xs h1
  rw [g] at z1
  cases z1
  exact ⟨Ext.laid hT, st.laid hT, q T hT⟩
end
theorem pi_enum1 {elts : List Expr} {kk : Nat} {tpos : Pos} {a : Expr} {ia : IE} {p pos : Pos} (hg : Gl X "enumerate") (hm : X.mg "enumerate" = none) (ha : PE X a (tE X.K G cf W ia)) (hp : plainE a = true) : PI X (.Tuple elts kk tpos) (.Call (.Name "enumerate" p) [a] [] pos) (tI X.K G cf W (.enum ia)) := by
  refine PI.imp (EvZn.pi_enumA hg hm (pa_cons1 ha pa_nil1 (star_cons hp)) (star_cons hp)) fun σ H Q ⟨env, S, w, R, q⟩ => ?_
  simp only [evI] at q
  refine ⟨env, S, w, R, ?_⟩
  simp only [evEs, Ev.R.bind] at q ⊢
  cases h : evE cf ia env S with
  | bad => rw [h] at q; exact q.elim
  | exc x S1 => rw [h] at q; exact q
  | ok d S1 =>
    rw [h] at q
    simp only at q ⊢
    intro vs H1 w1 e1 st1 rs
    obtain ⟨x, rfl, r⟩ := reps1 rs
    cases i1 : itemsP d with
    | none => rw [i1] at q; exact q.elim
    | some xs =>
      rw [i1] at q
      obtain ⟨b1, a1, us1, rfl, m1, g1⟩ := seqX_of r i1
      have m0 : Mov w1 H1 w1 H1 := ⟨fun _ _ h => h, fun _ _ h _ f => ⟨h, f⟩⟩
      cases b1 with
      | false => exact ⟨a1, us1, rfl, .inl ⟨m1 _ _ m0, q _ H1 w1 e1 st1 fun w' H' S' e' st' i => it_enumL st' (m1 _ _ e'.mov) (g1.ext e')⟩⟩
      | true => exact ⟨a1, us1, rfl, .inr ⟨m1 _ _ m0, q _ H1 w1 e1 st1 fun w' H' S' e' st' i => it_enumT st' (m1 _ _ e'.mov) (g1.ext e')⟩⟩
end
end Ev
/-! Ev, part Hf: dict comprehensions with tuples as keys. -/
namespace Ev
open PySem PySem.Spec PyProof.Rows L2
section
theorem left_pre {h : D → Store → Ev.R (Option D)} {it : It'} {SF : Store} {dsF : List D} : ∀ {m i : Nat} {acc : List D} {S : Store}, mOk it i m → left h it i m acc S = .ok dsF SF → ∃ t, dsF = acc ++ t
  | 0, i, acc, S, hm, hl => by
    rcases left_step hm hl with ⟨_, e, _⟩ | ⟨_, _, _, m', _, _, _, e, _⟩
    · exact ⟨[], by simp [e]⟩
    · cases e
  | m + 1, i, acc, S, hm, hl => by
    rcases left_step hm hl with ⟨_, e, _⟩ | ⟨d, o, S2, m', _, _, _, e, hm', hl'⟩
    · exact ⟨[], by simp [e]⟩
    · cases e
      obtain ⟨t, ht⟩ := left_pre hm' hl'
      cases o with
      | none => exact ⟨t, ht⟩
      | some x => exact ⟨x :: t, by rw [ht]; simp [appO]⟩
section
variable {K : PySem.W.Frag} {G : Gx} {w : Wd} {H : Hp}
/-- the dict that is being made -/
def DM (K : PySem.W.Frag) (G : Gx) (b : Bool) (w : Wd) (H : Hp) (D' : Addr) (acc : List D) : Prop := D.calms (dOf acc []) = true ∧
  (if b = true then (acc = [] ∧ H D' = some (.dK [])) ∨ (acc ≠ [] ∧ ∃ kvs, H D' = some (EvNd.ND D' kvs) ∧ EntN K G w H (dOf acc []) kvs ∧ kvs.length ≤ acc.length)
   else ∃ kvs, H D' = some (.dK kvs) ∧ Ent K G w H (dOf acc []) kvs ∧ kvs.length ≤ acc.length)
theorem DM.o {b : Bool} {D' : Addr} {acc : List D} (h : DM K G b w H D' acc) : ∃ o, H D' = some o ∧ CellO o := by
  obtain ⟨_, h⟩ := h
  cases b with
  | true =>
    rw [if_pos rfl] at h
    rcases h with ⟨_, h⟩ | ⟨_, kvs, h, _⟩
    · exact ⟨_, h, .dK⟩
    · exact ⟨_, h, .nD⟩
  | false =>
    rw [if_neg Bool.false_ne_true] at h
    obtain ⟨kvs, h, _⟩ := h
    exact ⟨_, h, .dK⟩
theorem DM.mov {b : Bool} {D' : Addr} {acc : List D} {w' : Wd} {H' : Hp} (h : DM K G b w H D' acc) (e : Mov w H w' H') (k : ∀ o, H D' = some o → CellO o → H' D' = some o) : DM K G b w' H' D' acc := by
  obtain ⟨c, h⟩ := h
  refine ⟨c, ?_⟩
  cases b with
  | true =>
    rw [if_pos rfl] at h ⊢
    rcases h with ⟨z, h⟩ | ⟨z, kvs, h, en, l⟩
    · exact .inl ⟨z, k _ h .dK⟩
    · exact .inr ⟨z, kvs, k _ h .nD, en.mov e, l⟩
  | false =>
    rw [if_neg Bool.false_ne_true] at h ⊢
    obtain ⟨kvs, h, en, l⟩ := h
    exact ⟨kvs, k _ h .dK, en.mov e, l⟩
theorem DM.put {b : Bool} {D' : Addr} {acc : List D} {kd vd : D} {y z : V} (h : DM K G b w H D' acc) (hi : D' ∈ w.hi) (hk : if b = true then kNest kd = true else kFlat kd = true) (hz : acc.length < sizeLine) (rk : Rep K G w H kd y) (rv : Rep K G w H vd z) (ck : kd.calm = true) (cv : vd.calm = true) :
    ∃ o, CellO o ∧ EvZc.DP K H D' y z (upd H D' o) ∧ DM K G b w (upd H D' o) D' (acc ++ [.tup [kd, vd]]) := by
  obtain ⟨c, h⟩ := h
  have c' : D.calms (dOf (acc ++ [.tup [kd, vd]]) []) = true := by rw [dOf_snoc]; exact calm_dput ck cv c
  cases b with
  | true =>
    rw [if_pos rfl] at h hk
    obtain ⟨k, b, e1, rfl, ky⟩ := rk.ky hk
    have go : ∀ kvs, (H D' = some (EvNd.ND D' kvs) ∨ (kvs = [] ∧ H D' = some (.dK []))) → EntN K G w H (dOf acc []) kvs → kvs.length ≤ acc.length → ∃ o, CellO o ∧ EvZc.DP K H D' (.ref b) z (upd H D' o) ∧ DM K G true w (upd H D' o) D' (acc ++ [.tup [kd, vd]]) := fun kvs h1 en l => by
      refine ⟨_, .nD, .nest kvs k b h1 en.kys rfl ky (by omega) rfl, c', ?_⟩
      rw [if_pos rfl]
      refine .inr ⟨by simp, _, upd_same, ?_, ?_⟩
      · rw [dOf_snoc]
        exact (en.put e1 hk rk rv).mov (grow_mov hi)
      · have := EvNd.putN_len kvs k b z
        rw [List.length_append]; simp only [List.length_cons, List.length_nil]; omega
    rcases h with ⟨e, h⟩ | ⟨_, kvs, h, en, l⟩
    · subst e
      exact go [] (.inr ⟨rfl, h⟩) .nil (Nat.le_refl _)
    · exact go kvs (.inl h) en l
  | false =>
    rw [if_neg Bool.false_ne_true] at h hk
    obtain ⟨kvs, h, en, l⟩ := h
    obtain ⟨k, rfl⟩ := kFlat_key hk
    refine ⟨_, .dK, .flat kvs k h rk.keyD (by omega) rfl, c', ?_⟩
    rw [if_neg Bool.false_ne_true]
    refine ⟨_, upd_same, ?_, ?_⟩
    · rw [dOf_snoc]
      exact (en.put k rv).mov (grow_mov hi)
    · have := length_putK kvs k z
      rw [List.length_append]; simp only [List.length_cons, List.length_nil]; omega
theorem DM.cell {b : Bool} {D' : Addr} {acc : List D} (h : DM K G b w H D' acc) (hb : b = acc.all fun p => kNest (dkey p)) : CellR K G w H (.mk (dcT acc) :: dOf acc []) D' := by
  obtain ⟨c, h⟩ := h
  cases b with
  | true =>
    rw [if_pos rfl] at h
    rcases h with ⟨e, h⟩ | ⟨e, kvs, h, en, l⟩
    · subst e
      exact .inr (.inl ⟨[], [], rfl, h, .nil⟩)
    · have : dcT acc = true := by
        unfold dcT
        rw [← hb]
        cases acc with
        | nil => exact absurd rfl e
        | cons _ _ => rfl
      rw [this]
      exact .inr (.inr ⟨_, kvs, rfl, h, en⟩)
  | false =>
    rw [if_neg Bool.false_ne_true] at h
    obtain ⟨kvs, h, en, l⟩ := h
    have : dcT acc = false := by unfold dcT; rw [← hb]; simp
    rw [this]
    exact .inr (.inl ⟨_, kvs, rfl, h, en⟩)
end
section
variable {X : Cx} {G : Gx} {cf : Cf} {W : WX}
theorem dct_reading {vs : List Nat} {g : IG} {it : II} {ifs : IO} {kx vx : IE} (hv : vs = gslots g) {K : PySem.W.Frag} {σ : L2.St} {H : Hp} {Q : VK} (hq : tE K G cf W (.dcT vs g it ifs kx vx) σ H Q) :
    EvZc.tDct K (tI K G cf W it) (tG K G g) (tCc K G cf (fun _ _ _ _ => False) ifs) (tE K G cf (fun _ _ _ _ => False) kx) (tE K G cf (fun _ _ _ _ => False) vx) vs σ H Q := by
  obtain ⟨env, S, w, R, p⟩ := hq
  simp only [evE] at p
  refine ⟨env, S, w, R, p.bind fun J' S1 J H1 w1 _ e1 st1 itok p1 => ?_⟩
  clear p
  intro D' hD
  generalize hh : (fun d S2 => match bindG g d (wipeE env vs) with
      | none => (.bad : Ev.R (Option D))
      | some env2 => (evC cf ifs env2 S2).bind fun b S3 => if b then (evE cf kx env2 S3).bind fun k S4 => (evE cf vx env2 S4).bind fun v S5 => if (kNest k || kFlat k) && v.calm then .ok (some (.tup [k, v])) S5 else .bad else .ok none S3) = h at p1
  have hstart : ∃ m, mOk J' 0 m ∧ compI cf.lf h J' S1 = left h J' 0 m [] S1 := by
    cases J' with
    | st ds => exact ⟨ds.length, (show 0 + ds.length = ds.length by omega), by simp [compI, Ev.left]⟩
    | dyn l => exact ⟨cf.lf, trivial, rfl⟩
  obtain ⟨m0, hm0, em0⟩ := hstart
  rw [em0] at p1
  cases eF : left h J' 0 m0 [] S1 with
  | bad => rw [eF] at p1; exact p1.elim
  | exc _ _ => rw [eF] at p1; exact p1.elim
  | ok dsF SF =>
    rw [eF] at p1
    simp only at p1
    by_cases hdc : dcOk dsF = true
    case neg => rw [if_neg hdc] at p1; exact p1.elim
    rw [if_pos hdc] at p1
    generalize hb : (dsF.all fun p => kNest (dkey p)) = bm at *
    have keyok : ∀ (acc t : List D) (kd vd : D), dsF = (acc ++ [.tup [kd, vd]]) ++ t → (if bm = true then kNest kd = true else kFlat kd = true) := fun acc t kd vd e => by
      have hm : D.tup [kd, vd] ∈ dsF := by rw [e]; simp
      cases bm with
      | true =>
        rw [if_pos rfl]
        exact List.all_eq_true.mp hb _ hm
      | false =>
        rw [if_neg Bool.false_ne_true]
        unfold dcOk at hdc
        rw [hb, Bool.false_or] at hdc
        exact List.all_eq_true.mp hdc _ hm
    have eh := hide_ext (w := w1) hD
    refine ⟨fun i m H => ∃ S' w' acc, Ext w1 H1 w' H ∧ D' ∈ w'.hi ∧ RepSt K G w' H S' ∧ DM K G bm w' H D' acc ∧ mOk J' i m ∧ left h J' i m acc S' = .ok dsF SF,
      ⟨m0, S1, ⟨w1.lo, D' :: w1.hi⟩, [], ?_, List.mem_cons_self, hide_stC .dK st1 hD, ⟨rfl, ?_⟩, hm0, eF⟩, ?_⟩
    · exact ⟨fun _ _ e => e, fun a u ea nt fa => ⟨by rw [upd_ne (ne_of_none ea hD)]; exact ea, (eh.kept a u ea nt fa).2⟩⟩
    · cases bm with
      | true => rw [if_pos rfl]; exact .inl ⟨rfl, upd_same⟩
      | false => rw [if_neg Bool.false_ne_true]; exact ⟨[], upd_same, .nil, Nat.le_refl _⟩
    · rintro i m H2 ⟨S', w', acc, e2, hd2, st2, dm, hm, el⟩
      have ok := itok
      rcases left_step hm el with ⟨stop, ea, es⟩ | ⟨d, o, S3, m', hd, eo, hz, em, hm', el'⟩
      · left
        rw [es] at p1
        subst ea
        have hs : J.stop i H2 := by
          cases J' with
          | st ds => exact (ok w' H2 S' e2 st2 i).2 stop
          | dyn l => obtain ⟨ds, h1, h2⟩ := stop; exact (ok w' H2 S' e2 st2 i ds h1).2 h2
        refine ⟨hs, ?_⟩
        obtain ⟨st5, e5, r5⟩ := show_cell (ds := .mk (dcT dsF) :: dOf dsF []) e2 st1 st2 hD hd2 (by simpa [D.calms, D.calm] using dm.1) (dm.cell hb.symm)
        exact p1 (.ref D') H2 _ e5 st5 r5
      · right
        have gy : J.go i H2 ∧ ∀ x H'', J.yld i H2 x H'' → Ext w' H2 w' H'' ∧ RepSt K G w' H'' S' ∧ Rep K G w' H'' d x := by
          cases J' with
          | st ds => exact (ok w' H2 S' e2 st2 i).1 d hd
          | dyn l => obtain ⟨ds, h1, h2⟩ := hd; exact (ok w' H2 S' e2 st2 i ds h1).1 d h2
        refine ⟨gy.1, fun H' => ∃ S' w' acc, Ext w1 H1 w' H' ∧ D' ∈ w'.hi ∧ RepSt K G w' H' S' ∧ DM K G bm w' H' D' acc ∧ mOk J' (i + 1) m' ∧ left h J' (i + 1) m' acc S' = .ok dsF SF, fun H' z => ⟨m', by omega, z⟩, fun xv H3 y => ?_⟩
        obtain ⟨e3, st3, r3⟩ := gy.2 xv H3 y
        obtain ⟨o0, ho0, co0⟩ := dm.o
        have hl3 : H3 D' = some o0 ∧ D' ∉ w'.lo := ⟨(e3.kept D' _ ho0 co0.nt (st2.hid D' hd2).2).1, (st2.hid D' hd2).2⟩
        have en3 : RepEnv K G w' H3 (wipeE env vs) (wipe σ vs) := ((R.en.ext e1).ext (e2.trans e3)).wipe vs
        rw [← hh] at eo
        simp only at eo
        cases eb : bindG g d (wipeE env vs) with
        | none => rw [eb] at eo; cases eo
        | some env2 =>
          rw [eb] at eo
          simp only at eo
          refine ⟨d, wipeE env vs, env2, S', w', ⟨st3, en3⟩, r3, unp_of eb, fun σ2 R2 hw2 => ⟨?_, ?_⟩⟩
          · exact (hw2 vs (by rw [hv]; exact fun i m => m)).trans (wipe_wipe vs)
          · cases ec : evC cf ifs env2 S' with
            | bad => rw [ec] at eo; cases eo
            | exc _ _ => rw [ec] at eo; cases eo
            | ok b S4 =>
              rw [ec] at eo
              simp only [Ev.R.bind] at eo
              refine ⟨env2, S', w', ⟨st3, R2⟩, ?_⟩
              rw [ec]
              intro b' H4 w4 e4 st4 hb'
              subst hb'
              have hl4 : H4 D' = some o0 ∧ D' ∉ w4.lo ∧ D' ∈ w4.hi := by
                have q := e4.kept D' _ hl3.1 co0.nt hl3.2
                exact ⟨q.1, q.2.1, q.2.2.mpr hd2⟩
              cases b with
              | false =>
                rw [if_neg Bool.false_ne_true] at eo ⊢
                cases eo
                exact ⟨S3, w4, acc, e2.trans (e3.trans e4), hl4.2.2, st4, dm.mov (e3.trans e4).mov (fun o e _ => by rw [ho0] at e; cases e; exact hl4.1), hm', el'⟩
              | true =>
                rw [if_pos rfl] at eo ⊢
                cases ey : evE cf kx env2 S4 with
                | bad => rw [ey] at eo; cases eo
                | exc _ _ => rw [ey] at eo; cases eo
                | ok kd S5 =>
                  rw [ey] at eo
                  simp only at eo
                  cases ez : evE cf vx env2 S5 with
                  | bad => rw [ez] at eo; cases eo
                  | exc _ _ => rw [ez] at eo; cases eo
                  | ok vd S6 =>
                    rw [ez] at eo
                    simp only at eo
                    split at eo
                    · rename_i hkv
                      cases eo
                      simp only [Bool.and_eq_true, Bool.or_eq_true] at hkv
                      refine ⟨env2, S4, w4, ⟨st4, R2.ext e4⟩, ?_⟩
                      rw [ey]
                      intro kv H5 w5 e5 st5 rk
                      refine ⟨env2, S5, w5, ⟨st5, R2.ext (e4.trans e5)⟩, ?_⟩
                      rw [ez]
                      intro vv H6 w6 e6 st6 rv
                      have hl5 : H5 D' = some o0 ∧ D' ∉ w5.lo ∧ D' ∈ w5.hi := by
                        have q := e5.kept D' _ hl4.1 co0.nt hl4.2.1
                        exact ⟨q.1, q.2.1, q.2.2.mpr hl4.2.2⟩
                      have hl6 : H6 D' = some o0 ∧ D' ∉ w6.lo ∧ D' ∈ w6.hi := by
                        have q := e6.kept D' _ hl5.1 co0.nt hl5.2.1
                        exact ⟨q.1, q.2.1, q.2.2.mpr hl5.2.2⟩
                      have ex := e3.trans (e4.trans (e5.trans e6))
                      have dm6 : DM K G bm w6 H6 D' acc := dm.mov ex.mov (fun o e _ => by rw [ho0] at e; cases e; exact hl6.1)
                      obtain ⟨t, ht⟩ := left_pre hm' el'
                      have ck : kd.calm = true := by
                        rcases hkv.1 with h1 | h1
                        · obtain ⟨k, e, _, xs, rfl⟩ := kNest_of h1
                          exact calm_nk e
                        · obtain ⟨k, rfl⟩ := kFlat_key h1
                          exact calm_keyD k
                      obtain ⟨o1, co1, dp, dm7⟩ := dm6.put hl6.2.2 (keyok acc t kd vd ht) hz (rk.ext e6) rv ck hkv.2
                      exact ⟨_, dp, S3, w6, acc ++ [.tup [kd, vd]], grow_ext (e2.trans ex) hD, hl6.2.2, grow_stC co1 st6 hl6.2.2, dm7, hm', el'⟩
                    · cases eo
end
end
end Ev
/-! Ev, part Hg: {}, {k: v} with a tuple as key, d.get. -/
namespace Ev
open PySem PySem.Spec PyProof.Rows L2
section
variable {X : Cx} {G : Gx} {cf : Cf} {W : WX}
/-- {k: v}, k a nested tuple -/
def tD1N (K : PySem.W.Frag) (tk tv : TE) : TE := fun σ H Q => ∀ p, H p = none → tk σ (upd H p (.dK [])) fun x H1 => tv σ H1 fun y H2 => ∃ kk b, x = .ref b ∧ EvNd.Ky K H2 kk b ∧ H2 p = some (.dK []) ∧ Q (.ref p) (upd H2 p (EvNd.ND p [(kk, b, y)]))
theorem pe_d1N {k v : Expr} {tk tv : TE} {pos : Pos} (hu : X.A.units + 65 < cLine) (hk : PE X k tk) (hv : PE X v tv) : PE X (.Dict [some k] [v] pos) (tD1N X.K tk tv) := by
  refine ⟨fun pins s σ H Q I q => ?_⟩
  have hn := I.hok.fresh (Nat.le_refl s.heap.objs.size)
  have I1 := I.laid (a := s.heap.objs.size) (o := .dK []) (h' := s.heap.push { cls := .type "dict", data := .dict #[] }) (t' := s.toks) (fun _ _ q => Heap.get?_push_of_some _ q) (Nat.le_refl _) (dk_empty s.heap I.big)
  rw [arm_eval_Dict, zip_pairTrees [some k] [v] X.env pos rfl rfl, dictDisplay_pairs (pairTrees [some k] [v] X.env pos) (by intro e; cases e) (by show 1 < 17; decide)]
  refine wpAny_bind (wpAny_standAt (wpAny_bind (wpAny_subDictH (knd := nestedKind X.prog X.w) (show X.A.units + 8 < cLine by omega) (by show 1 ≤ 15; decide) ?_)))
  refine pairTrees_cons_walk (thn (hk.run pins _ σ _ _ I1 (q _ hn)) fun u s1 ⟨x, H1, I2, rx, q1⟩ => thn (hv.run pins s1 σ H1 _ I2 q1) fun w2 s2 ⟨y, H2, I3, ry, kk, b, ex, ky, hD, q2⟩ => pairTrees_nil_walk ?_)
  subst ex
  obtain rfl : u = Value.ref b := rx
  obtain ⟨z1, z2, xs, h4, dd⟩ := EvNd.ndict (kvs := []) I3 (.inr ⟨rfl, .inl hD⟩) (fun p hp => by cases hp)
  cases h4
  refine ⟨[(kk, b, w2)], ⟨rfl, rfl, ⟨ky.1.is I3 rfl, ky.2⟩, trivial⟩, dd, fun h' tk' dd' hs => wpAny_pure ?_⟩
  have new := EvNd.nd_stored (v := y) (r := w2) (kvs := []) (k := kk) (b := b) (xs := []) z1 (by decide) I3 (fun p hp => by cases hp) ky .nil ry dd' (upd H2 s.heap.objs.size (EvNd.ND s.heap.objs.size [(kk, b, y)]))
  exact ⟨.ref s.heap.objs.size, _, d_write (t' := tk') I3 (by rw [hD]; exact True.intro) hs new.2.1 new, rfl, q2⟩
theorem pe_dsp1N {k v : Expr} {ik iv : IE} {pos : Pos} (hu : X.A.units + 65 < cLine) (hk : PE X k (tE X.K G cf W ik)) (hv : PE X v (tE X.K G cf W iv)) : PE X (.Dict [some k] [v] pos) (tE X.K G cf W (.dsp1 ik iv)) := by
  refine (pe_d1N hu hk hv).imp fun σ H Q ⟨env, S, w, R, q⟩ => fun D' hD => ?_
  simp only [evE] at q
  have st1 := hide_stC (o := .dK []) .dK R.st hD
  have eh : Ext w H ⟨w.lo, D' :: w.hi⟩ (upd H D' (.dK [])) := ⟨fun _ _ e => e, fun a u ea nt fa => ⟨by rw [upd_ne (ne_of_none ea hD)]; exact ea, ((hide_ext hD).kept a u ea nt fa).2⟩⟩
  refine ⟨env, S, ⟨w.lo, D' :: w.hi⟩, ⟨st1, R.en.ext eh⟩, ?_⟩
  cases ek : evE cf ik env S with
  | bad => rw [ek] at q; exact q.elim
  | exc x SF => rw [ek] at q; exact PostG.ext (r := (.exc x SF : Ev.R D)) (rep := Rep X.K G) (Q := fun _ _ _ _ _ => True) q eh
  | ok kd S1 =>
    rw [ek] at q
    simp only [Ev.R.bind] at q
    intro x H1 w1 e1 st1' r1
    refine ⟨env, S1, w1, ⟨st1', (R.en.ext eh).ext e1⟩, ?_⟩
    cases ev : evE cf iv env S1 with
    | bad => rw [ev] at q; exact q.elim
    | exc x SF => rw [ev] at q; exact PostG.ext (r := (.exc x SF : Ev.R D)) (rep := Rep X.K G) (Q := fun _ _ _ _ _ => True) q (eh.trans e1)
    | ok vd S2 =>
      rw [ev] at q
      simp only at q
      intro y H2 w2 e2 st2 r2
      split at q
      · rename_i hc
        rw [Bool.and_eq_true] at hc
        obtain ⟨kk, b, e3, rfl, ky⟩ := (r1.ext e2).ky hc.1
        have ee := e1.trans e2
        have hd2 : D' ∈ w2.hi := ((ee.kept D' _ upd_same CellO.dK.nt (R.st.fresh hD).1).2.2).mpr List.mem_cons_self
        have hH2 : H2 D' = some (.dK []) := (ee.kept D' _ upd_same CellO.dK.nt (R.st.fresh hD).1).1
        refine ⟨kk, b, rfl, ky, hH2, ?_⟩
        have st3 : RepSt X.K G w2 (upd H2 D' (EvNd.ND D' [(kk, b, y)])) S2 := grow_stC .nD st2 hd2
        have e4 : Ext w H w2 (upd H2 D' (EvNd.ND D' [(kk, b, y)])) := ⟨fun l a h => ee.pre l a h, fun a u ea nt fa => by
          have k1 := (hide_ext hD).kept a u ea nt fa
          have k2 := ee.kept a u (by rw [upd_ne (ne_of_none ea hD)]; exact ea) nt k1.2.1
          exact ⟨by rw [upd_ne (ne_of_none ea hD)]; exact k2.1, k2.2.1, k2.2.2.trans k1.2.2⟩⟩
        have ck : kd.calm = true := calm_nk e3
        obtain ⟨st5, e5, r5⟩ := show_cell (ds := [.mk true, .tup [kd, vd]]) e4 R.st st3 hD hd2 (by simp [D.calms, D.calm, ck, hc.2])
          (.inr (.inr ⟨[.tup [kd, vd]], _, rfl, upd_same, EntN.mov (grow_mov hd2) (.cons (r1.ext e2) e3 hc.1 r2 .nil)⟩))
        exact q (.ref D') _ _ e5 st5 r5
      · exact q.elim
/-- {} -/
theorem pe_dnew1 {pos : Pos} : PE X (.Dict [] [] pos) (tE X.K G cf W .dnew) := by
  refine pe_dnewK.imp fun σ H Q ⟨env, S, w, R, q⟩ => fun p hp => ?_
  simp only [evE] at q
  exact q (.ref p) _ ⟨w.lo ++ [p], w.hi⟩ (ext_cell R.st hp) (R.st.newC hp rfl (.inr (.inl ⟨[], [], rfl, upd_same, .nil⟩))) (.ref (by
    show (w.lo ++ [p])[S.length]? = some p
    rw [← R.st.len, List.getElem?_append_right (Nat.le_refl _)]
    simp))
/-! ### d.get -/
def IsDN (K : PySem.W.Frag) (H : Hp) (a : Addr) : Prop := (∃ kvs, Rd H a (.dK kvs)) ∨ ∃ kvs, EvNd.NdR H a kvs ∧ EvNd.Kys K H kvs
theorem isDN_at {pins : List (Addr × Obj)} {σ : L2.St} {H : Hp} {s : Shared} {a : Addr} (I : Inv X pins σ H s) (d : IsDN X.K H a) :
    s.TypeIs (.ref a) "dict" ∧ (∀ b, Value.ref a = .ref b → ∃ ob, s.heap.get? b = some ob ∧ ob.dict = none) := by
  rcases d with ⟨kvs, e⟩ | ⟨kvs, e, hk⟩
  · obtain ⟨h1, h2, _⟩ := isD_at I (.inl ⟨kvs, e⟩)
    exact ⟨h1, h2⟩
  · obtain ⟨_, _, o, es, ep, xs, h1, h2, h3, _⟩ := EvNd.ndat_of I e
    refine ⟨⟨o, h1, h2.1⟩, fun b q => ?_⟩
    cases q
    exact ⟨o, h1, h2.2.1⟩
def tGt1 (K : PySem.W.Frag) (td ty : TE) : TE := fun σ H Q => td σ H fun x H1 => ∃ a, x = .ref a ∧ IsDN K H1 a ∧ ty σ H1 fun y H2 => ∃ o, DLook K H2 a y o ∧ Q (o.getD .non) H2
def tGt2 (K : PySem.W.Frag) (td ty tx : TE) : TE := fun σ H Q => td σ H fun x H1 => ∃ a, x = .ref a ∧ IsDN K H1 a ∧ ty σ H1 fun y H2 => tx σ H2 fun z H3 => ∃ o, DLook K H3 a y o ∧ Q (o.getD z) H3
theorem pe_gt1 {o e : Expr} {apos cpos : Pos} {td ty : TE} (hu : X.A.units + 65 < cLine) (ho : PE X o td) (he : PE X e ty) (m : M1 X o "get" apos e cpos) : PE X (.Call (.Attribute o "get" apos) [e] [] cpos) (tGt1 X.K td ty) := by
  refine ⟨fun pins s σ H Q I h => ?_⟩
  refine wpAny_Call_method m.base m.few m.line PySem.F.plainAttrs_dict PySem.F.slot_dict_get PySem.F.type_dict_get (thn (ho.run pins s σ H _ I h) fun u s1 ⟨x, H1, I1, rx, a, ex, d, q1⟩ => ?_)
  subst ex
  obtain rfl : u = Value.ref a := rx
  obtain ⟨t1, t2⟩ := isDN_at I1 d
  refine ⟨t1, t2, ?_⟩
  rw [m.trees]
  refine Calls.callWith_builtin rfl (Calls.evalArgs_plain (Calls.spliced_cons (thn (he.run pins s1 σ H1 _ I1 q1) fun iv s2 ⟨y, H2, I2, ry, ov, g, q2⟩ => Calls.spliced_nil ?_)))
  cases g with
  | flat kvs k h1 h2 h3 => exact d_get1 (by omega) I2 (.inl ⟨kvs, k, h1, h2, h3⟩) ry fun w' s3 I3 rw' => ⟨_, H2, I3, rw', q2⟩
  | nest kvs k b h1 h2 h3 h4 h5 =>
    subst h3 h5
    obtain rfl : iv = Value.ref b := ry
    exact EvNd.nd_get1 hu I2 h1 h2 h4 fun w' s3 I3 rw' => ⟨_, H2, I3, rw', q2⟩
theorem pe_gt2 {o e f : Expr} {apos cpos : Pos} {td ty tx : TE} (hu : X.A.units + 65 < cLine) (ho : PE X o td) (he : PE X e ty) (hf : PE X f tx) (m : M2 X o "get" apos e f cpos) : PE X (.Call (.Attribute o "get" apos) [e, f] [] cpos) (tGt2 X.K td ty tx) := by
  refine ⟨fun pins s σ H Q I h => ?_⟩
  refine wpAny_Call_method m.base m.few m.line PySem.F.plainAttrs_dict PySem.F.slot_dict_get PySem.F.type_dict_get (thn (ho.run pins s σ H _ I h) fun u s1 ⟨x, H1, I1, rx, a, ex, d, q1⟩ => ?_)
  subst ex
  obtain rfl : u = Value.ref a := rx
  obtain ⟨t1, t2⟩ := isDN_at I1 d
  refine ⟨t1, t2, ?_⟩
  rw [m.trees]
  refine Calls.callWith_builtin rfl (Calls.evalArgs_plain (Calls.spliced_cons (thn (he.run pins s1 σ H1 _ I1 q1) fun iv s2 ⟨y, H2, I2, ry, q2⟩ =>
    Calls.spliced_cons (thn (hf.run pins s2 σ H2 _ I2 q2) fun fv s3 ⟨z, H3, I3, rz, ov, g, q3⟩ => Calls.spliced_nil ?_))))
  cases g with
  | flat kvs k h1 h2 h3 => exact d_get2 (by omega) I3 (.inl ⟨kvs, k, h1, h2, h3⟩) ry rz fun w' s4 I4 rw' => ⟨_, H3, I4, rw', q3⟩
  | nest kvs k b h1 h2 h3 h4 h5 =>
    subst h3 h5
    obtain rfl : iv = Value.ref b := ry
    exact EvNd.nd_get2 hu I3 h1 h2 h4 rz fun w' s4 I4 rw' => ⟨_, H3, I4, rw', q3⟩
/-- a method of no arguments that Ev has not: what raises ahead of it raises -/
theorem pe_stop {o : Expr} {m : Str} {apos cpos : Pos} {io : IE} (ho : PE X o (tE X.K G cf W io)) (hb : notCall0 o = true) (hline : (apos.endLine == cpos.line) = true) :
    PE X (.Call (.Attribute o m apos) [] [] cpos) (tE X.K G cf W (.dprs io)) := by
  refine ⟨fun pins s σ H Q I ⟨env, S, w, R, q⟩ => ?_⟩
  simp only [evE] at q
  refine wpAny_Call_method0_late (base_eq hb) hline (thn (ho.run pins s σ H (fun _ _ => False) I ⟨env, S, w, R, PostG.bind (rep := Rep X.K G) q fun d S1 v H1 w1 _ e1 st1 r1 p1 => p1.elim⟩) fun u s1 ⟨x, H1, I1, rx, z⟩ => z.elim)
theorem isDN_of {w : Wd} {H : Hp} {S : Store} {K : PySem.W.Frag} (st : RepSt K G w H S) {d : D} {v : V} (r : Rep K G w H d v) (h : (dents S d).isSome = true) : ∃ a, v = .ref a ∧ IsDN K H a := by
  obtain ⟨⟨t, es⟩, e⟩ := Option.isSome_iff_exists.mp h
  obtain ⟨a, rfl, hh⟩ := dents_of st r e
  rcases hh with ⟨_, kvs, h1, en⟩ | ⟨_, kvs, h1, en⟩
  · exact ⟨a, rfl, .inl ⟨kvs, h1⟩⟩
  · exact ⟨a, rfl, .inr ⟨kvs, .inl h1, en.kys⟩⟩
theorem m1_of {o e : Expr} {m : Str} {ap cp : Pos} (hb : notCall0 o = true) (hline : (ap.endLine == cp.line) = true) (hp : plainE e = true) : M1 X o m ap e cp where
  base := base_eq hb
  few := by
    have : starEach [e] X.env = [(false, eval e X.env)] := star_cons hp
    rw [this]; rfl
  line := hline
  trees := by
    have : starEach [e] X.env = [(false, eval e X.env)] := star_cons hp
    rw [this]; rfl
theorem m2_of {o e f : Expr} {m : Str} {ap cp : Pos} (hb : notCall0 o = true) (hline : (ap.endLine == cp.line) = true) (hp : plainE e = true) (hq : plainE f = true) : M2 X o m ap e f cp where
  base := base_eq hb
  few := by
    have : starEach [e, f] X.env = [(false, eval e X.env), (false, eval f X.env)] := by rw [star_cons hp, star_cons hq]; rfl
    rw [this]; rfl
  line := hline
  trees := by
    have : starEach [e, f] X.env = [(false, eval e X.env), (false, eval f X.env)] := by rw [star_cons hp, star_cons hq]; rfl
    rw [this]; rfl
theorem pe_dgt1 {o e : Expr} {apos cpos : Pos} {io ie : IE} (hu : X.A.units + 65 < cLine) (ho : PE X o (tE X.K G cf W io)) (he : PE X e (tE X.K G cf W ie)) (hb : notCall0 o = true) (hline : (apos.endLine == cpos.line) = true) (hp : plainE e = true) :
    PE X (.Call (.Attribute o "get" apos) [e] [] cpos) (tE X.K G cf W (.dgt1 io ie)) := by
  refine (pe_gt1 hu ho he (m1_of hb hline hp)).imp fun σ H Q ⟨env, S, w, R, q⟩ => ?_
  simp only [evE] at q
  refine ⟨env, S, w, R, PostG.bind (rep := Rep X.K G) q fun d S1 v H1 w1 _ e1 st1 r1 p1 => ?_⟩
  split at p1
  · rename_i hd
    obtain ⟨a, rfl, isd⟩ := isDN_of st1 r1 hd
    refine ⟨a, rfl, isd, env, S1, w1, R.ext e1 st1, PostG.bind (rep := Rep X.K G) p1 fun y S2 yv H2 w2 _ e2 st2 r2 p2 => ?_⟩
    cases eg : dgetK S2 d y with
    | none => rw [eg] at p2; exact p2.elim
    | some o =>
      rw [eg] at p2
      obtain ⟨a', ov, e3, g, ho⟩ := dlook_of st2 (r1.ext e2) r2 eg
      cases e3
      refine ⟨ov, g, ?_⟩
      rcases ho with ⟨rfl, rfl⟩ | ⟨x', u', rfl, rfl, r3⟩
      · exact p2 _ H2 w2 (Ext.refl _ _) st2 .non
      · exact p2 _ H2 w2 (Ext.refl _ _) st2 r3
  · exact p1.elim
theorem pe_dgt2 {o e f : Expr} {apos cpos : Pos} {io ie iF : IE} (hu : X.A.units + 65 < cLine) (ho : PE X o (tE X.K G cf W io)) (he : PE X e (tE X.K G cf W ie)) (hf : PE X f (tE X.K G cf W iF)) (hb : notCall0 o = true) (hline : (apos.endLine == cpos.line) = true) (hp : plainE e = true) (hq : plainE f = true) :
    PE X (.Call (.Attribute o "get" apos) [e, f] [] cpos) (tE X.K G cf W (.dgt2 io ie iF)) := by
  refine (pe_gt2 hu ho he hf (m2_of hb hline hp hq)).imp fun σ H Q ⟨env, S, w, R, q⟩ => ?_
  simp only [evE] at q
  refine ⟨env, S, w, R, PostG.bind (rep := Rep X.K G) q fun d S1 v H1 w1 _ e1 st1 r1 p1 => ?_⟩
  split at p1
  · rename_i hd
    obtain ⟨a, rfl, isd⟩ := isDN_of st1 r1 hd
    refine ⟨a, rfl, isd, env, S1, w1, R.ext e1 st1, PostG.bind (rep := Rep X.K G) p1 fun y S2 yv H2 w2 _ e2 st2 r2 p2 => ?_⟩
    refine ⟨env, S2, w2, (R.ext e1 st1).ext e2 st2, PostG.bind (rep := Rep X.K G) p2 fun z S3 zv H3 w3 _ e3 st3 r3 p3 => ?_⟩
    cases eg : dgetK S3 d y with
    | none => rw [eg] at p3; exact p3.elim
    | some o =>
      rw [eg] at p3
      obtain ⟨a', ov, e4, g, ho⟩ := dlook_of st3 ((r1.ext e2).ext e3) (r2.ext e3) eg
      cases e4
      refine ⟨ov, g, ?_⟩
      rcases ho with ⟨rfl, rfl⟩ | ⟨x', u', rfl, rfl, r4⟩
      · exact p3 _ H3 w3 (Ext.refl _ _) st3 r3
      · exact p3 _ H3 w3 (Ext.refl _ _) st3 r4
  · exact p1.elim
end
end Ev
/-! Ev, part Hi: the text's own dicts from numbers to numbers. -/
namespace Ev
open PySem PySem.Spec PyProof.Rows L2
theorem kis_keys {P : Program} {w : World} : ∀ {es : List DictEntry} {kvs : List (Int × Int)}, KIs es kvs → (∀ e ∈ es, ∃ k, (mixKind P w).is k e.key = true ∧ e.hash = (mixKind P w).hash k) ∧
    ∃ vs : List (Key × Value), Pairs (mixKind P w) es vs ∧ vs.map (·.1) = kvs.map (fun p => Sum.inl p.1) ∧ ∀ i, RelO ((kvs.lookup i).map V.int) (valueAt vs (Sum.inl i))
  | [], [], _ => ⟨fun e h => (by cases h), [], .nil, rfl, fun i => trivial⟩
  | [], _ :: _, h => h.elim
  | _ :: _, [], h => h.elim
  | e :: es, p :: ps, h => by
    obtain ⟨⟨t, u, rfl⟩, h2⟩ := h
    obtain ⟨k1, vs, k2, k3, k4⟩ := kis_keys (P := P) (w := w) h2
    have hk : (mixKind P w).is (Sum.inl p.1) (Value.int p.1 t) = true := kV_is (k := Sum.inl p.1) ⟨t, rfl⟩
    refine ⟨fun e he => ?_, (Sum.inl p.1, .int p.2 u) :: vs, .cons hk rfl k2, by simp [k3], fun i => ?_⟩
    · rcases List.mem_cons.mp he with z | z
      · subst z; exact ⟨Sum.inl p.1, hk, rfl⟩
      · exact k1 e z
    · obtain ⟨pi, pj⟩ := p
      rw [List.lookup_cons]
      by_cases z : i = pi
      · subst z
        have : (i == i) = true := by simp
        rw [this]
        have b : valueAt ((Sum.inl i, Value.int pj u) :: vs) (Sum.inl i) = some (Value.int pj u) := by simp [valueAt]
        rw [b]
        exact ⟨u, rfl⟩
      · have : (i == pi) = false := by simpa using z
        rw [this]
        have z' : ¬ (Sum.inl pi : Key) = Sum.inl i := fun e => z (by injection e with e; exact e.symm)
        have b : valueAt ((Sum.inl pi, Value.int pj u) :: vs) (Sum.inl i) = valueAt vs (Sum.inl i) := by simp [valueAt, z']
        rw [b]
        exact k4 i
theorem pe_kget2 {X : Cx} {o e f : Expr} {apos cpos : Pos} {ty tx : TE} {ad : Addr} {kvs : List (Int × Int)} (ho : PE X o (tC (.ref ad))) (hK : KDI X.K ad kvs) (he : PE X e ty) (hf : PE X f tx) (m : M2 X o "get" apos e f cpos) :
    PE X (.Call (.Attribute o "get" apos) [e, f] [] cpos) (fun σ H Q => ty σ H fun y H2 => tx σ H2 fun z H3 => ∃ i, y = .int i ∧ Q (((kvs.lookup i).map V.int).getD z) H3) := by
  refine ⟨fun pins s σ H Q I h => ?_⟩
  obtain ⟨es, n, hk, hs, kis, nd⟩ := hK
  refine wpAny_Call_method m.base m.few m.line PySem.F.plainAttrs_dict PySem.F.slot_dict_get PySem.F.type_dict_get (thn (ho.run pins s σ H (fun v H1 => v = .ref ad ∧ ty σ H1 fun y H2 => tx σ H2 fun z H3 => ∃ i, y = .int i ∧ Q (((kvs.lookup i).map V.int).getD z) H3) I ⟨rfl, h⟩) fun u s1 ⟨x, H1, I1, rx, ex, q1⟩ => ?_)
  subst ex
  obtain rfl : u = Value.ref ad := rx
  refine ⟨⟨_, I1.kIn _ _ hk, rfl⟩, fun b q => by cases q; exact ⟨_, I1.kIn _ _ hk, rfl⟩, ?_⟩
  rw [m.trees]
  refine Calls.callWith_builtin rfl (Calls.evalArgs_plain (Calls.spliced_cons (thn (he.run pins s1 σ H1 _ I1 q1) fun iv s2 ⟨y, H2, I2, ry, q2⟩ =>
    Calls.spliced_cons (thn (hf.run pins s2 σ H2 _ I2 q2) fun fv s3 ⟨z, H3, I3, rz, i, ey, q3⟩ => Calls.spliced_nil ?_))))
  subst ey
  obtain ⟨k1, vs, k2, k3, k4⟩ := kis_keys (P := X.prog) (w := X.w) kis
  have dd : s3.heap.DictOf (mixKind X.prog X.w) ad vs := ⟨_, es, n, I3.kIn _ _ hk, ⟨rfl, rfl, rfl⟩, rfl, fun e he => k1 e (Array.mem_toList_iff.mpr he), k2, by
    rw [k3]
    have : kvs.map (fun p => (Sum.inl p.1 : Key)) = (kvs.map (·.1)).map Sum.inl := by rw [List.map_map]; rfl
    rw [this]
    exact nd.map _ (fun a b h e => h (by injection e))⟩
  refine call_meetsIn PySem.F.slot_dict_get dd.typeIs PySem.F.entry_dict_get (PySem.F.args_dict_get_3 _ _ _) (meets_dict_get_default (mixKind X.prog X.w) ad (kV_is (k := Sum.inl i) ry) hs fv) ⟨_, dd.mapOf, _, H3, I3.tok _, (k4 i).getD rz, q3⟩
/-- told by the head -/
def kiB : List DictEntry → List (Int × Int) → Bool
  | [], [] => true
  | ⟨h, .int i _, .int j _⟩ :: es, p :: ps => decide (h = hashInt p.1) && (decide (i = p.1) && (decide (j = p.2) && kiB es ps))
  | _, _ => false
theorem kiB_ok : ∀ {es : List DictEntry} {kvs : List (Int × Int)}, kiB es kvs = true → KIs es kvs
  | [], [], _ => trivial
  | [], _ :: _, h => by cases h
  | e :: es, [], h => by
    obtain ⟨a, b, c⟩ := e
    cases b <;> cases c <;> cases h
  | e :: es, p :: ps, h => by
    obtain ⟨a, b, c⟩ := e
    cases b with
    | int i t =>
      cases c with
      | int j u =>
        have h' : (decide (a = hashInt p.1) && (decide (i = p.1) && (decide (j = p.2) && kiB es ps))) = true := h
        simp only [Bool.and_eq_true, decide_eq_true_eq] at h'
        obtain ⟨rfl, rfl, rfl, h4⟩ := h'
        exact ⟨⟨t, u, rfl⟩, kiB_ok h4⟩
      | _ => cases h
    | _ => cases h
def kdiB (K : PySem.W.Frag) (a : Addr) (kvs : List (Int × Int)) : Bool := (match K.lookup a with
  | some ⟨.type t, none, .dict es _, sl⟩ => (t == "dict" && sl.isEmpty) && kiB es.toList kvs
  | _ => false) && (!(a == sysModules) && decide (kvs.map (·.1)).Nodup)
theorem kdiB_ok {K : PySem.W.Frag} {a : Addr} {kvs : List (Int × Int)} (h : kdiB K a kvs = true) : KDI K a kvs := by
  unfold kdiB at h
  simp only [Bool.and_eq_true, decide_eq_true_eq, Bool.not_eq_true'] at h
  obtain ⟨h1, h2, h3⟩ := h
  split at h1
  · rename_i t es n sl e
    simp only [Bool.and_eq_true] at h1
    have et := eq_of_beq h1.1.1
    have es' : sl = #[] := by simpa [Array.isEmpty] using h1.1.2
    subst et es'
    exact ⟨es, n, e, h2, kiB_ok h1.2, h3⟩
  · cases h1
end Ev
/-! Ev, part I: statements. -/
namespace Ev
open PySem PySem.Spec PyProof.Rows L2
/-- a statement's end -/
def PostS (K : PySem.W.Frag) (G : Gx) (W : WX) (r : SR) (w : Wd) (H : Hp) (D : Ends) : Prop :=
  match r with
  | .nx env S => ∀ (σ' : L2.St) (H' : Hp) (w' : Wd), Ext w H w' H' → Rel K G w' σ' H' env S → D.nx σ' H'
  | .rt d S => ∀ (v : V) (H' : Hp) (w' : Wd), Ext w H w' H' → RepSt K G w' H' S → Rep K G w' H' d v → D.rt v H'
  | .bk env S => ∀ (σ' : L2.St) (H' : Hp) (w' : Wd), Ext w H w' H' → Rel K G w' σ' H' env S → D.bk σ' H'
  | .ct env S => ∀ (σ' : L2.St) (H' : Hp) (w' : Wd), Ext w H w' H' → Rel K G w' σ' H' env S → D.ct σ' H'
  | .exc x env S => ∀ (σ' : L2.St) (cls : Value) (dd : Option Addr) (H' : Hp) (w' : Wd), Ext w H w' H' → Rel K G w' σ' H' env S → ExR G x cls dd H' → W cls dd σ' H'
  | .bad => False
def tS (K : PySem.W.Frag) (G : Gx) (cf : Cf) (W : WX) (i : IS) : TS := fun D σ H => ∃ env S w, Rel K G w σ H env S ∧ PostS K G W (evS cf i env S) w H D
def tSs (K : PySem.W.Frag) (G : Gx) (cf : Cf) (W : WX) (i : ISs) : TS := fun D σ H => ∃ env S w, Rel K G w σ H env S ∧ PostS K G W (evSs cf i env S) w H D
section
variable {K : PySem.W.Frag} {G : Gx} {W : WX} {w w' : Wd} {H H' : Hp}
theorem PostS.ext {r : SR} {D : Ends} (p : PostS K G W r w H D) (e : Ext w H w' H') : PostS K G W r w' H' D := by
  cases r with
  | nx env S => exact fun σ2 H2 w2 e2 R => p σ2 H2 w2 (e.trans e2) R
  | rt d S => exact fun v H2 w2 e2 st q => p v H2 w2 (e.trans e2) st q
  | bk env S => exact fun σ2 H2 w2 e2 R => p σ2 H2 w2 (e.trans e2) R
  | ct env S => exact fun σ2 H2 w2 e2 R => p σ2 H2 w2 (e.trans e2) R
  | exc x env S => exact fun σ2 c d H2 w2 e2 R q => p σ2 c d H2 w2 (e.trans e2) R q
  | bad => exact p
/-- an expression's end within a statement -/
theorem PostS.go {α β : Type} {rep : Wd → Hp → α → β → Prop} {σ : L2.St} {r : Ev.R α} {env : Env'} {f : α → Store → SR} {D : Ends} {Q : α → Store → β → Hp → Wd → Prop} (en : RepEnv K G w H env σ) (p : PostS K G W (r.go env f) w H D)
    (k : ∀ a S b H1 w1, r = .ok a S → Ext w H w1 H1 → RepSt K G w1 H1 S → rep w1 H1 a b → PostS K G W (f a S) w1 H1 D → Q a S b H1 w1) : PostG K G W σ rep r w H Q := by
  cases r with
  | ok a S => exact fun b H1 w1 e st q => k a S b H1 w1 rfl e st q (PostS.ext (r := f a S) p e)
  | exc x S => exact fun c d H1 w1 e st q => p σ c d H1 w1 e ⟨st, en.ext e⟩ q
  | bad => exact p
end
section
variable {X : Cx} {G : Gx} {cf : Cf} {W : WX} {pos : Pos}
theorem pss_nil1 : PSs X [] (tSs X.K G cf W .nil) := pss_nil.imp fun D σ H ⟨env, S, w, R, p⟩ => p σ H w (Ext.refl _ _) R
theorem pss_cons1 {st : Stmt} {rest : List Stmt} {i : IS} {r : ISs} (h1 : PS X st (tS X.K G cf W i)) (h2 : PSs X rest (tSs X.K G cf W r)) : PSs X (st :: rest) (tSs X.K G cf W (.cons i r)) := by
  refine (pss_cons h1 h2).imp fun D σ H ⟨env, S, w, R, p⟩ => ?_
  refine ⟨env, S, w, R, ?_⟩
  simp only [evSs] at p
  cases e : evS cf i env S with
  | nx e1 S1 =>
    rw [e] at p
    exact fun σ' H' w' ex R' => ⟨e1, S1, w', R', PostS.ext (r := evSs cf r e1 S1) p ex⟩
  | rt d S1 => rw [e] at p; exact p
  | bk e1 S1 => rw [e] at p; exact p
  | ct e1 S1 => rw [e] at p; exact p
  | exc x e1 S1 => rw [e] at p; exact p
  | bad => rw [e] at p; exact p
variable {e : Expr} {ie : IE} {g : IG}
theorem swaps_false {target : Option Expr} {l : Nat} {env : Env} (h : ∀ a b c d, e ≠ .ListComp a b c d) (h2 : ∀ a b c d, e ≠ .SetComp a b c d) (h3 : ∀ a b c d f, e ≠ .DictComp a b c d f) : swapsWith e target l env = pure false := by
  cases e <;> first
    | rfl
    | exact absurd rfl (h _ _ _ _)
    | exact absurd rfl (h2 _ _ _ _)
    | exact absurd rfl (h3 _ _ _ _ _)
/-- no comprehension -/
def noComp : Expr → Bool
  | .ListComp _ _ _ _ => false
  | .SetComp _ _ _ _ => false
  | .DictComp _ _ _ _ _ => false
  | _ => true
theorem swaps_of {target : Option Expr} {l : Nat} {env : Env} (h : noComp e = true) : swapsWith e target l env = pure false :=
  swaps_false (fun _ _ _ _ z => by subst z; cases h) (fun _ _ _ _ z => by subst z; cases h) (fun _ _ _ _ _ z => by subst z; cases h)
theorem asg_reading {D : Ends} {σ : L2.St} {H : Hp} {te : TE} (hte : ∀ Q, tE X.K G cf W ie σ H Q → te σ H Q) (h : tS X.K G cf W (.asg g ie) D σ H) : tAsg te (tG X.K G g) D σ H := by
  obtain ⟨env, S, w, R, p⟩ := h
  simp only [evS] at p
  refine hte _ ⟨env, S, w, R, PostS.go R.en p fun d S1 v H1 w1 _ e1 st1 r1 p1 => ?_⟩
  cases eb : bindG g (unp S1 g d) env with
  | none => rw [eb] at p1; exact p1.elim
  | some env' =>
    rw [eb] at p1
    exact ⟨d, env, env', S1, w1, R.ext e1 st1, r1, eb, fun σ' R' _ => p1 σ' H1 w1 (Ext.refl _ _) ⟨st1, R'⟩⟩
theorem asgN_reading {D : Ends} {σ : L2.St} {H : Hp} {te : TE} {i : Nat} (hte : ∀ Q, tE X.K G cf W ie σ H Q → te σ H Q) (h : tS X.K G cf W (.asg (.nm i) ie) D σ H) : tAsg te (gName i) D σ H := by
  obtain ⟨env, S, w, R, p⟩ := h
  simp only [evS] at p
  refine hte _ ⟨env, S, w, R, PostS.go R.en p fun d S1 v H1 w1 _ e1 st1 r1 p1 => ?_⟩
  exact p1 _ H1 w1 (Ext.refl _ _) ⟨st1, (R.en.ext e1).set r1⟩
theorem ps_asgN {i : Nat} {x : Str} {pos' : Pos} (hN : X.N.Nodup) (hi : X.N[i]? = some x) (hx : Loc X.env.scope x) (hf : X.fn x = true ∨ X.env.scope.names.lookup x = some .local) (he : PE X e (tE X.K G cf W ie)) (hs : swapsWith e (some (.Name x pos')) pos.line X.env = pure false) :
    PS X (.Assign [.Name x pos'] e pos) (tS X.K G cf W (.asg (.nm i) ie)) :=
  (ps_set hN hi hx he hs hf).imp fun _ _ _ h => asgN_reading (fun _ q => q) h
theorem ps_asgG {tg : Expr} (he : PE X e (tE X.K G cf W ie)) (hg : PG X tg (tG X.K G g)) (hc : swapsWith e (some tg) pos.line X.env = pure false) (hp : plainE tg = true) (hw : swappedStores [tg] e X.env = pure none) : PS X (.Assign [tg] e pos) (tS X.K G cf W (.asg g ie)) :=
  (ps_asg he hg hc hw (assign_cons hp).1).imp fun _ _ _ h => asg_reading (fun _ q => q) h
/-- a, .., *rest = a tuple -/
theorem star_items {prog : Program} {wd : World} {A : Around} {E : Value → Shared → Prop} {s : Shared} {l : Addr} {its : Array Value} {n : Nat} {Q : List Value → Shared → Prop} (ht : IsTup s.heap l its) (h0 : A.handled = none) (hn : n ≤ its.size) (hz : its.size ≤ sizeLine)
    (k : ∀ (hp : Heap) (tk : Nat), (∀ b o, s.heap.get? b = some o → hp.get? b = some o) → Q (its.toList.take n ++ [.ref hp.objs.size]) { s with heap := hp.push { cls := .type "list", data := .seq (its.toList.drop n).toArray }, toks := tk }) : wpAny (model prog wd) A (unpackItems (.ref l) (n + 1) (some n)) Q E s := by
  have ne : l ≠ s.heap.objs.size := by
    obtain ⟨o, e, _⟩ := ht
    exact Nat.ne_of_lt (Heap.lt_size e)
  unfold unpackItems notIterableAtAll
  refine wpAny_bind (wpAny_bind (wpAny_specialOf ht.typeIs slot_tuple_iter.lookup (wpAny_pure ?_)))
  rw [if_neg (by simp)]
  refine wpAny_bind (wpAny_holding (PyProof.Rows.iter_tuple ht ?_))
  refine wpAny_bind (wpAny_holding (PyProof.Rows.draw_tuple ne n 0 _ _ ⟨_, Heap.get?_push_size _ rfl, rfl, rfl⟩ (ht.push _) (by omega) fun g1 it1 sm => ?_))
  have t1 : IsTup g1 l its := (ht.push _).extBut sm.extBut ne
  rw [Nat.zero_add] at it1
  have it2 := it1
  have t2 := t1
  obtain ⟨oi, ei, _⟩ := it2
  obtain ⟨ol, el, _⟩ := t2
  have len1 : (its.toList.take n).length = n := by
    rw [List.length_take, Array.length_toList]
    omega
  rw [List.drop_zero, if_neg (show ¬ ((its.toList.take n).length < n) by omega)]
  refine wpAny_bind (wpAny_holding (PySem.W.kun_collect (s := { s with heap := g1 }) (T := "tuple_iterator") (.inr (.inr (.inr rfl))) (Walks.tuple (A := A.in1) h0 s.heap.objs.size l ne its) (fun j u st => st.1.typeIs) (k := n) hn ⟨it1, t1⟩ (Heap.lt_size ei) (Heap.lt_size el) (fun g2 tk keep => ?_) hz))
  have sub0 : n + 1 - 1 - n = 0 := by omega
  show wpAny _ _ (if (its.toList.drop n).length < n + 1 - 1 - n then _ else _) _ _ _
  rw [if_neg (by omega)]
  show wpAny _ _ (newList ((its.toList.drop n).take ((its.toList.drop n).length - (n + 1 - 1 - n))) >>= fun d => pure (its.toList.take n ++ [d] ++ (its.toList.drop n).drop ((its.toList.drop n).length - (n + 1 - 1 - n)))) _ _ _
  rw [sub0, Nat.sub_zero, List.take_length, List.drop_length]
  refine wpAny_bind (wpAny_newList (wpAny_pure ?_))
  rw [List.append_nil]
  exact k g2 tk fun b o e => keep b o (Nat.ne_of_lt (Heap.lt_size e)) (sm.extBut b o (Nat.ne_of_lt (Heap.lt_size e)) (Heap.get?_push_of_some _ e))
theorem findStar {env : Env} {tl : Expr} {sp : Pos} : ∀ {es : List Expr}, es.all plainE = true → (assignEach (es ++ [.Starred tl sp]) env).length = es.length + 1 ∧ (assignEach (es ++ [.Starred tl sp]) env).findIdx? (·.1) = some es.length ∧ (assignEach (es ++ [.Starred tl sp]) env).map (·.2) = (assignEach es env).map (·.2) ++ [assign tl env]
  | [], _ => ⟨rfl, rfl, rfl⟩
  | e :: r, h => by
    simp only [List.all_cons, Bool.and_eq_true] at h
    obtain ⟨h1, h2, h3⟩ := findStar (env := env) (tl := tl) (sp := sp) h.2
    have ee : ∀ r', assignEach (e :: r') env = (false, assign e env) :: assignEach r' env := fun r' => by
      cases e <;> first
        | rfl
        | (simp [plainE] at h; done)
    rw [List.cons_append, ee, ee]
    refine ⟨by simp [h1], ?_, by simp [h3]⟩
    rw [List.findIdx?_cons, h2]
    simp
theorem eachApp {env : Env} {tl : Expr} (ht : plainE tl = true) : ∀ {es : List Expr}, es.all plainE = true → (assignEach (es ++ [tl]) env).map (·.2) = (assignEach es env).map (·.2) ++ [assign tl env]
  | [], _ => by
    have := (assign_cons (e := tl) (es := []) (env := env) ht).1
    rw [List.nil_append, this]
    rfl
  | e :: r, h => by
    simp only [List.all_cons, Bool.and_eq_true] at h
    rw [List.cons_append, (assign_cons h.1).1, (assign_cons h.1).1, eachApp ht h.2]
    rfl
theorem pg_star {es : List Expr} {tl : Expr} {sp p : Pos} {k : Nat} {t : TGs} (hc : X.calm = true) (hg : PGs X (es ++ [tl]) t) (hp : es.all plainE = true) (ht : plainE tl = true) :
    PG X (.Tuple (es ++ [.Starred tl sp]) k p) (fun v σ H Q => ∃ a xs, v = .ref a ∧ SqT X.K H a xs ∧ es.length ≤ xs.length ∧ ∀ q, H q = none → t (xs.take es.length ++ [.ref q]) σ (upd H q (.lst (xs.drop es.length))) Q) := by
  refine ⟨fun pins s σ H v u Q I r hw => ?_⟩
  obtain ⟨a, vs, e0, hT, hl, hk⟩ := hw
  subst e0
  cases r
  obtain ⟨f1, f2, f3⟩ := findStar (env := X.env) (tl := tl) (sp := sp) hp
  obtain ⟨its, rv, hit, hz⟩ := I.tuple hT
  have hlen := rv.length
  rw [PyProof.Rows.assign_Tuple]
  refine wpAny_bind (wpAny_standAt ?_)
  unfold unpack
  rw [f1, f2, f3, ← eachApp ht hp]
  refine wpAny_bind (wpAny_holding (star_items hit (I.ok.hd hc) (by rw [List.size_toArray]; omega) (by rw [List.size_toArray]; omega) fun hp' tk keep => ?_))
  rw [List.toList_toArray]
  have I2 : L2.Inv X pins σ H { s with heap := hp', toks := tk } := I.kept (t' := tk) keep
  have nw : H hp'.objs.size = none := I2.hok.fresh (Nat.le_refl _)
  have hv : Vals (vs.drop es.length) (its.drop es.length) := rv.drop _
  have I3 : L2.Inv X pins σ (upd H hp'.objs.size (.lst (vs.drop es.length))) { s with heap := hp'.push { cls := .type "list", data := .seq (its.drop es.length).toArray }, toks := tk } := I2.laid (a := hp'.objs.size) (o := .lst (vs.drop es.length)) (h' := hp'.push { cls := .type "list", data := .seq (its.drop es.length).toArray }) (t' := tk) (fun _ _ z => Heap.get?_push_of_some _ z) (Nat.le_refl _)
    ⟨by rw [List.length_drop]; omega, _, 0, hv, Heap.get?_push_size _ rfl⟩
  have hvs : Vals (vs.take es.length ++ [V.ref hp'.objs.size]) (its.take es.length ++ [Value.ref hp'.objs.size]) := (rv.take _).append (.cons rfl .nil)
  exact hg.run pins _ σ _ _ _ Q I3 hvs (hk _ nw)
theorem ps_star1 {es : List Expr} {tl : Expr} {sp p : Pos} {k : Nat} {gs : IGs} (hc : X.calm = true) (he : PE X e (tE X.K G cf W ie)) (hg : PGs X (es ++ [tl]) (tGs X.K G gs)) (hp : es.all plainE = true) (ht : plainE tl = true) (hno : noComp e = true) (hw : swappedStores [.Tuple (es ++ [.Starred tl sp]) k p] e X.env = pure none) :
    PS X (.Assign [.Tuple (es ++ [.Starred tl sp]) k p] e pos) (tS X.K G cf W (.star gs es.length ie)) := by
  refine (ps_asg he (pg_star (sp := sp) (p := p) (k := k) hc hg hp ht) (show swapsWith e (some (.Tuple (es ++ [.Starred tl sp]) k p)) pos.line X.env = pure false from swaps_of hno) hw (by rfl)).imp fun D σ H hq => ?_
  obtain ⟨env, S, w, R, q⟩ := hq
  simp only [evS] at q
  refine ⟨env, S, w, R, PostS.go (rep := Rep X.K G) R.en q fun d S1 v H1 w1 _ ex st1 r1 p1 => ?_⟩
  cases d with
  | tup ds =>
    cases r1 with
    | tup hT rs =>
      simp only at p1
      split at p1
      · rename_i hl
        split at p1
        · rename_i env' hb
          refine ⟨_, _, rfl, hT.sq, by rw [← rs.length]; exact hl, fun q nw => ?_⟩
          exact ⟨ds.take es.length ++ [.lst (ds.drop es.length)], env, env', S1, w1, ⟨st1.laid nw, (R.en.ext ex).ext (Ext.laid nw)⟩, ((rs.take _).ext (Ext.laid nw)).append (.cons (lst_new st1 nw (rs.drop _)) .nil), hb, fun σ' re _ => p1 σ' _ w1 (Ext.laid nw) ⟨st1.laid nw, re⟩⟩
        · exact p1.elim
      · exact p1.elim
  | _ => exact p1.elim
theorem ps_expr1 (he : PE X e (tE X.K G cf W ie)) (hc : noComp e = true) : PS X (.Expr e pos) (tS X.K G cf W (.expr ie)) :=
  (ps_expr he (swaps_of hc)).imp fun D σ H ⟨env, S, w, R, p⟩ => by
    simp only [evS] at p
    exact ⟨env, S, w, R, PostS.go R.en p fun d S1 v H1 w1 _ e1 st1 r1 p1 => p1 σ H1 w1 (Ext.refl _ _) (R.ext e1 st1)⟩
theorem ps_ret1 (he : PE X e (tE X.K G cf W ie)) : PS X (.Return (some e) pos) (tS X.K G cf W (.ret ie)) :=
  (ps_ret he).imp fun D σ H ⟨env, S, w, R, p⟩ => by
    simp only [evS] at p
    exact ⟨env, S, w, R, PostS.go R.en p fun d S1 v H1 w1 _ e1 st1 r1 p1 => p1 v H1 w1 (Ext.refl _ _) st1 r1⟩
theorem ps_retN1 : PS X (.Return none pos) (tS X.K G cf W .retN) := ps_retN.imp fun D σ H ⟨env, S, w, R, p⟩ => p .non H w (Ext.refl _ _) R.st .non
theorem ps_pass1 : PS X (.Pass pos) (tS X.K G cf W .pass) := ps_pass.imp fun D σ H ⟨env, S, w, R, p⟩ => p σ H w (Ext.refl _ _) R
theorem ps_brk1 : PS X (.Break pos) (tS X.K G cf W .brk) := ps_break.imp fun D σ H ⟨env, S, w, R, p⟩ => p σ H w (Ext.refl _ _) R
theorem ps_cont1 : PS X (.Continue pos) (tS X.K G cf W .cont) := ps_continue.imp fun D σ H ⟨env, S, w, R, p⟩ => p σ H w (Ext.refl _ _) R
theorem ps_if1 {c : Expr} {a b : List Stmt} {ic : IE} {ia ib : ISs} (hc : PT X c (tTt X.K G cf W ic)) (ha : PSs X a (tSs X.K G cf W ia)) (hb : PSs X b (tSs X.K G cf W ib)) : PS X (.If c a b pos) (tS X.K G cf W (.ifS ic ia ib)) := by
  refine (ps_if hc ha hb).imp fun D σ H ⟨env, S, w, R, p⟩ => ?_
  simp only [evS] at p
  refine ⟨env, S, w, R, PostS.go R.en p fun d S1 v H1 w1 _ e1 st1 r1 p1 => ?_⟩
  cases et : truth S1 d with
  | none => rw [et] at p1; exact p1.elim
  | some k =>
    rw [et] at p1
    refine ⟨k, rfl, ?_⟩
    cases k with
    | true => rw [if_pos rfl]; exact ⟨env, S1, w1, R.ext e1 st1, p1⟩
    | false => rw [if_neg Bool.false_ne_true]; exact ⟨env, S1, w1, R.ext e1 st1, p1⟩
theorem ps_aug1 {i : Nat} {x : Str} {op : Operator} {pos' : Pos} (hN : X.N.Nodup) (hi : X.N[i]? = some x) (hx : Loc X.env.scope x) (hf : X.fn x = true ∨ X.env.scope.names.lookup x = some .local) (he : PE X e (tE X.K G cf W ie)) (hop : op = .Add ∨ op = .Sub ∨ op = .Mult ∨ op = .FloorDiv) :
    PS X (.AugAssign (.Name x pos') op e pos) (tS X.K G cf W (.aug i op ie)) := by
  have key : ∀ {ti : TIp}, (∀ a b z w H S Q, augop op a b = some z → ∀ {u v : V}, Rep X.K G w H a u → Rep X.K G w H b v → RepSt X.K G w H S → (∀ zv, Rep X.K G w H z zv → Q zv H) → ti u v H Q) →
      ∀ D σ H, tS X.K G cf W (.aug i op ie) D σ H → tAug i (tE X.K G cf W ie) ti D σ H := by
    rintro ti hti D σ H ⟨env, S, w, R, p⟩
    simp only [evS] at p
    cases ei : env[i]? with
    | none => rw [ei] at p; exact p.elim
    | some o =>
      cases o with
      | none => rw [ei] at p; exact p.elim
      | some d =>
        rw [ei] at p
        simp only at p
        obtain ⟨u, h1, h2⟩ := R.en.get i d ei
        refine ⟨u, h1, env, S, w, R, PostS.go R.en p fun d2 S1 v H1 w1 _ e1 st1 r1 p1 => ?_⟩
        cases ez : augop op d d2 with
        | none => rw [ez] at p1; exact p1.elim
        | some z =>
          rw [ez] at p1
          exact hti d d2 z w1 H1 S1 _ ez (h2.ext e1) r1 st1 fun zv rz => p1 _ H1 w1 (Ext.refl _ _) ⟨st1, (R.en.ext e1).set rz⟩
  have bothInt : ∀ {a b z : D}, augop op a b = some z → ∃ i j, a = .int i ∧ b = .int j := by
    intro a b z h
    cases a <;> first
      | cases h
      | skip
    cases b <;> first
      | cases h
      | exact ⟨_, _, rfl, rfl⟩
  rcases hop with rfl | rfl | rfl | rfl
  · refine (ps_aug hN hi hx he ip_add hf).imp (key fun a b z w H S Q hz u v r1 r2 st k => ?_)
    obtain ⟨m, n, rfl, rfl⟩ := bothInt hz
    cases r1; cases r2
    cases hz
    exact ⟨m, n, rfl, rfl, k _ (.int _)⟩
  · refine (ps_aug hN hi hx he ip_sub hf).imp (key fun a b z w H S Q hz u v r1 r2 st k => ?_)
    obtain ⟨m, n, rfl, rfl⟩ := bothInt hz
    cases r1; cases r2
    cases hz
    exact ⟨m, n, rfl, rfl, k _ (.int _)⟩
  · refine (ps_aug hN hi hx he (ti := fun x y H Q => ∃ i j, x = .int i ∧ y = .int j ∧ mulOk i j = true ∧ Q (.int (i * j)) H) ?_ hf).imp (key fun a b z w H S Q hz u v r1 r2 st k => ?_)
    · intro pins s σ H x y v u Q I r1 r2 h
      obtain ⟨i, j, e1, e2, hm, q⟩ := h
      subst e1; subst e2
      obtain ⟨t, rfl⟩ := r1
      obtain ⟨t', rfl⟩ := r2
      exact PyProof.Rows.imul_int (hm := CMulW.ok (show i.natAbs.log2 + j.natAbs.log2 < 1000000 from of_decide_eq_true hm)) ⟨.int _, H, I.tok _, ⟨_, rfl⟩, q⟩
    · obtain ⟨m, n, rfl, rfl⟩ := bothInt hz
      cases r1; cases r2
      simp only [augop] at hz
      split at hz
      · rename_i hm
        cases hz
        exact ⟨m, n, rfl, rfl, hm, k _ (.int _)⟩
      · cases hz
  · refine (ps_aug hN hi hx he (ti := fun x y H Q => ∃ i j, x = .int i ∧ y = .int j ∧ divOk j = true ∧ Q (.int (i / j)) H) ?_ hf).imp (key fun a b z w H S Q hz u v r1 r2 st k => ?_)
    · intro pins s σ H x y v u Q I r1 r2 h
      obtain ⟨i, j, e1, e2, hm, q⟩ := h
      subst e1; subst e2
      obtain ⟨t, rfl⟩ := r1
      obtain ⟨t', rfl⟩ := r2
      simp only [divOk, Bool.and_eq_true, decide_eq_true_eq] at hm
      exact PyProof.Rows.ifloordiv_int (by omega) (by rw [Int.fdiv_eq_ediv_of_nonneg i (by omega)]; exact ⟨.int _, H, I.tok _, ⟨_, rfl⟩, q⟩) (.inl (PyProof.noPylong_of_log2 hm.2))
    · obtain ⟨m, n, rfl, rfl⟩ := bothInt hz
      cases r1; cases r2
      simp only [augop] at hz
      split at hz
      · rename_i hm
        cases hz
        exact ⟨m, n, rfl, rfl, hm, k _ (.int _)⟩
      · cases hz
theorem reps_rg {K : PySem.W.Frag} {G : Gx} {w : Wd} {H : Hp} (n : Int) : Reps K G w H (upto 0 n) (rgV 0 n) := by
  unfold upto rgV
  induction (List.range (n - 0).toNat) with
  | nil => exact .nil
  | cons a r ih => exact .cons (.int _) ih
theorem pe_lrg1 {a : Expr} {ia : IE} {pf pg p1 p2 : Pos} {mu : Bool} (hc : X.calm = true) (hg : Gl X "list") (hm : X.mg "list" = none) (hg2 : Gl X "range") (hm2 : X.mg "range" = none) (ha : PE X a (tE X.K G cf W ia)) (hp : plainE a = true) :
    PE X (.Call (.Name "list" pf) [.Call (.Name "range" pg) [a] [] p1] [] p2) (tE X.K G cf W (.lrg mu ia)) := by
  refine (pe_listRg hc hg hm (prg_1 hg2 hm2 ha (star_cons hp)) (by rfl)).imp fun σ H Q ⟨env, S, w, R, q⟩ => ?_
  simp only [evE] at q
  refine ⟨env, S, w, R, PostG.bind (rep := Rep X.K G) q fun d S1 v H1 w1 _ e1 st1 r1 p1 => ?_⟩
  cases d with
  | int n =>
    cases r1
    simp only at p1
    split at p1
    · rename_i hn
      rw [Bool.and_eq_true, decide_eq_true_eq, decide_eq_true_eq] at hn
      exact ⟨n, rfl, RgOk.of_le (by omega) (by omega) (by omega) (by omega), fun q hq => mk_new p1 st1 (reps_rg n) q hq⟩
    · exact p1.elim
  | _ => exact p1.elim
def rSetA (K : PySem.W.Frag) : TSet := fun o i v H Q => rSetL o i v H Q ∨ ∃ a H', o = .ref a ∧ EvZc.DP K H a i v H' ∧ Q H'
theorem set_any (hu : X.A.units + 65 < cLine) : PSet X (rSetA X.K) := by
  intro pins s σ H o i v ov iv u Q I ro ri rv h
  rcases h with h | ⟨a, H', rfl, g, q⟩
  · exact set_list pins s σ H o i v ov iv u Q I ro ri rv h
  · obtain rfl : ov = Value.ref a := ro
    exact g.put hu I ri rv fun s' I' => ⟨H', I', q⟩
theorem setD_ok {l : Nat} {y v : D} {env : Env'} {S : Store} {w : Wd} {H : Hp} {σ : L2.St} {D : Ends} {a : Addr} {yv vv : V} {Q : Hp → Prop} (R : Rel X.K G w σ H env S) (h1 : w.lo[l]? = some a) (ry : Rep X.K G w H y yv) (rv : Rep X.K G w H v vv)
    (p : PostS X.K G W (setD l y v env S) w H D) (k : ∀ H', (∃ w', Ext w H w' H' ∧ ∃ S', Rel X.K G w' σ H' env S' ∧ PostS X.K G W (.nx env S') w' H' D) → Q H') : ∃ a' H', V.ref a = .ref a' ∧ EvZc.DP X.K H a' yv vv H' ∧ Q H' := by
  unfold setD at p
  obtain ⟨cs, e1, e2⟩ := R.st.at_ h1
  rw [e1] at p
  have key : ∀ (t : Bool) (es : List Ev.D), cs = .mk t :: es → ((t = false ∧ ∃ kvs, H a = some (.dK kvs) ∧ Ent X.K G w H es kvs) ∨ (t = true ∧ ∃ kvs, H a = some (EvNd.ND a kvs) ∧ EntN X.K G w H es kvs)) → ∃ a' H', V.ref a = .ref a' ∧ EvZc.DP X.K H a' yv vv H' ∧ Q H' := by
    rintro t es rfl hh
    simp only at p
    have cm := (R.st.cell l _ e1).1
    have ce : Ev.D.calms es = true := by simpa [Ev.D.calms, Ev.D.calm] using cm
    split at p
    · rename_i hc
      simp only [Bool.and_eq_true, decide_eq_true_eq] at hc
      obtain ⟨hk, hv, hz⟩ := hc
      have nest : ∀ kvs, (H a = some (EvNd.ND a kvs) ∨ (kvs = [] ∧ H a = some (.dK []))) → EntN X.K G w H es kvs → kNest y = true → ∃ a' H', V.ref a = .ref a' ∧ EvZc.DP X.K H a' yv vv H' ∧ Q H' := fun kvs h2 en hn => by
        obtain ⟨kk, b, e3, rfl, ky⟩ := ry.ky hn
        rw [hn] at p
        refine ⟨a, _, rfl, .nest kvs kk b h2 en.kys rfl ky (by rw [← en.length]; exact hz) rfl, k _ ⟨w, ext_set h1, _, ⟨R.st.putC h1 ?_ ?_, R.en.ext (ext_set h1)⟩, PostS.ext (r := .nx env _) p (ext_set h1)⟩⟩
        · show (true && Ev.D.calms (dput es y v)) = true
          rw [calm_dput (calm_nk e3) hv ce]; rfl
        · exact .inr (.inr ⟨_, _, rfl, upd_same, EntN.mov (ext_set h1).mov (en.put e3 hn ry rv)⟩)
      have flat : ∀ kvs, H a = some (.dK kvs) → Ent X.K G w H es kvs → kFlat y = true → ∃ a' H', V.ref a = .ref a' ∧ EvZc.DP X.K H a' yv vv H' ∧ Q H' := fun kvs h2 en hf => by
        obtain ⟨kk, rfl⟩ := kFlat_key hf
        have hnn : kNest (keyD kk) = false := by cases kk <;> rfl
        rw [hnn] at p
        refine ⟨a, _, rfl, .flat kvs kk h2 ry.keyD (by rw [← en.length]; exact hz) rfl, k _ ⟨w, ext_set h1, _, ⟨R.st.putC h1 ?_ ?_, R.en.ext (ext_set h1)⟩, PostS.ext (r := .nx env _) p (ext_set h1)⟩⟩
        · show (true && Ev.D.calms (dput es (keyD kk) v)) = true
          rw [calm_dput (calm_keyD kk) hv ce]; rfl
        · exact .inr (.inl ⟨_, _, rfl, upd_same, Ent.mov (ext_set h1).mov (en.put kk rv)⟩)
      rcases hh with ⟨rfl, kvs, h2, en⟩ | ⟨rfl, kvs, h2, en⟩
      · simp only [kyOk, Bool.false_eq_true, if_false, Bool.or_eq_true, Bool.and_eq_true] at hk
        rcases hk with hf | ⟨he, hn⟩
        · exact flat kvs h2 en hf
        · have e0 : es = [] := by simpa using he
          subst e0
          cases en
          exact nest [] (.inr ⟨rfl, h2⟩) .nil hn
      · exact nest kvs (.inl h2) en (by simpa [kyOk] using hk)
    · exact p.elim
  rcases e2 with ⟨vs, h3, rs⟩ | ⟨es, kvs, e3, h3, en⟩ | ⟨es, kvs, e3, h3, en⟩
  · exfalso
    cases rs with
    | nil => exact p
    | cons r _ => cases r <;> exact p
  · exact key false es e3 (.inl ⟨rfl, kvs, h3, en⟩)
  · exact key true es e3 (.inr ⟨rfl, kvs, h3, en⟩)
theorem ps_setIx1 {o i : Expr} {io ii : IE} {p2 : Pos} (hu : X.A.units + 65 < cLine) (he : PE X e (tE X.K G cf W ie)) (ho : PE X o (tE X.K G cf W io)) (hi : PE X i (tE X.K G cf W ii)) (hc : noComp e = true) (hp : plainE i = true) : PS X (.Assign [.Subscript o i p2] e pos) (tS X.K G cf W (.setIx io ii ie)) := by
  have ha : ∀ v, assign (.Subscript o i p2) X.env v = (do
      let ov ← holding [v] (eval o X.env)
      let iv ← holding [v, ov] (eval i X.env)
      standAt p2
      holding [v, ov, iv] (setItem ov iv v)
      release [v, ov, iv] []) := by
    intro v
    cases i <;> first
      | (simp [plainE] at hp; done)
      | rfl
  have hw : swappedStores [.Subscript o i p2] e X.env = pure none := by cases e <;> rfl
  refine (ps_asg he (pg_sub ho hi (set_any hu) ha) (swaps_of (target := some (.Subscript o i p2)) (l := pos.line) (env := X.env) hc) hw rfl).imp fun D σ H ⟨env, S, w, R, p⟩ => ?_
  simp only [evS] at p
  refine ⟨env, S, w, R, PostS.go R.en p fun d S1 v H1 w1 _ e1 st1 r1 p1 => ?_⟩
  have R1 := R.ext e1 st1
  refine ⟨env, S1, w1, R1, PostS.go R1.en p1 fun d2 S2 v2 H2 w2 _ e2 st2 r2 p2 => ?_⟩
  have R2 := R1.ext e2 st2
  refine ⟨env, S2, w2, R2, PostS.go R2.en p2 fun d3 S3 v3 H3 w3 _ e3 st3 r3 p3 => ?_⟩
  have R3 := R2.ext e3 st3
  cases d2 with
  | ref l =>
    have r2' := r2.ext e3
    cases r2' with
    | ref h1 =>
    have viaD : PostS X.K G W (setD l d3 d env S3) w3 H3 D → rSetA X.K (V.ref _) v3 v H3 (fun H' => D.nx σ H') := fun p => .inr (setD_ok R3 h1 r3 (r1.ext (e2.trans e3)) p fun H' ⟨w', ex, S', R', p'⟩ => p' σ H' w' (Ext.refl _ _) R')
    cases d3 with
    | int k =>
        simp only at p3
        rcases st3.at2 h1 with ⟨es, vs, g0, g1, g2, g3⟩ | g0
        rotate_left
        · rw [g0] at p3; exact viaD p3
        rw [g0] at p3
        simp only at p3
        cases r3
        cases ek : ixN es.length k with
        | none => rw [ek] at p3; exact p3.elim
        | some j =>
          rw [ek] at p3
          simp only at p3
          split at p3
          · rename_i hcalm
            refine .inl ⟨_, vs, k, j, rfl, rfl, g2, by rw [← g3.length]; exact ek, ?_⟩
            have rv := (r1.ext (e2.trans e3))
            have hc' : Ev.D.calms (es.set j d) = true := by
              rw [Ev.D.calms_mem]
              intro x hx
              rcases List.mem_or_eq_of_mem_set hx with z | z
              · exact Ev.D.calms_mem.mp (st3.cell l es g1).1 x z
              · rw [z]; exact hcalm
            have st4 := st3.put h1 hc' (g3.set rv j)
            exact p3 σ _ w3 (ext_set h1) ⟨st4, R3.en.ext (ext_set h1)⟩
          · exact p3.elim
    | _ => exact viaD p3
  | _ => exact p3.elim
/-! ### loops -/
theorem ps_while1 {c : Expr} {body : List Stmt} {ic : IE} {ib : ISs} (hp : PassesOwn (model X.prog X.w) X.A X.env X.xe) (hc : PT X c (tTt X.K G cf W ic)) (hb : PSs X body (tSs X.K G cf W ib)) : PS X (.While c body [] pos) (tS X.K G cf W (.whil ic ib)) := by
  refine (ps_while hp hc hb).imp fun D σ H ⟨env, S, w, R, p⟩ => ?_
  simp only [evS] at p
  refine ⟨fun m σ H => ∃ env S w, Rel X.K G w σ H env S ∧ PostS X.K G W (whileN (evE cf ic) (evSs cf ib) m env S) w H D, ⟨cf.lf, env, S, w, R, p⟩, ?_⟩
  rintro m σ H ⟨env, S, w, R, p⟩
  cases m with
  | zero => exact p.elim
  | succ m =>
    simp only [whileN] at p
    refine ⟨env, S, w, R, PostS.go R.en p fun d S1 v H1 w1 _ e1 st1 r1 p1 => ?_⟩
    have R1 := R.ext e1 st1
    cases et : truth S1 d with
    | none => rw [et] at p1; exact p1.elim
    | some k =>
      rw [et] at p1
      refine ⟨k, rfl, ?_⟩
      cases k with
      | false => rw [if_neg Bool.false_ne_true]; exact p1 σ H1 w1 (Ext.refl _ _) R1
      | true =>
        rw [if_pos rfl]
        refine ⟨fun σ' H' => ∃ env S w, Rel X.K G w σ' H' env S ∧ PostS X.K G W (whileN (evE cf ic) (evSs cf ib) m env S) w H' D, fun σ' H' z => ⟨m, Nat.lt_succ_self m, z⟩, env, S1, w1, R1, ?_⟩
        simp only at p1
        cases eb : evSs cf ib env S1 with
        | nx e2 S2 => rw [eb] at p1; exact fun σ' H' w' ex R' => ⟨e2, S2, w', R', PostS.ext p1 ex⟩
        | ct e2 S2 => rw [eb] at p1; exact fun σ' H' w' ex R' => ⟨e2, S2, w', R', PostS.ext p1 ex⟩
        | bk e2 S2 => rw [eb] at p1; exact p1
        | rt v S2 => rw [eb] at p1; exact p1
        | exc x e2 S2 => rw [eb] at p1; exact p1
        | bad => rw [eb] at p1; exact p1
/-- what is left of a for's walk -/
def leftF (h : D → Env' → Store → SR) (it : It') (i m : Nat) (env : Env') (S : Store) : SR :=
  match it with
  | .st ds => forL h (ds.drop i) env S
  | .dyn l => forR h l m i env S
theorem leftF_step {h : D → Env' → Store → SR} {it : It'} {i m : Nat} {env : Env'} {S : Store} (hm : mOk it i m) (hb : leftF h it i m env S ≠ .bad) :
    ((match it with | .st ds => ds[i]? = none | .dyn l => ∃ ds, cel S l = some ds ∧ ds[i]? = none) ∧ leftF h it i m env S = .nx env S) ∨
    ∃ d m', (match it with | .st ds => ds[i]? = some d | .dyn l => ∃ ds, cel S l = some ds ∧ ds[i]? = some d) ∧ m = m' + 1 ∧ mOk it (i + 1) m' ∧ leftF h it i m env S = (match h d env S with
      | .nx e1 S1 => leftF h it (i + 1) m' e1 S1
      | .ct e1 S1 => leftF h it (i + 1) m' e1 S1
      | .bk e1 S1 => .nx e1 S1
      | .rt v S1 => .rt v S1
      | .exc x e1 S1 => .exc x e1 S1
      | .bad => .bad) := by
  cases it with
  | st ds =>
    have hm : i + m = ds.length := hm
    cases m with
    | zero =>
      left
      have hi : ds.length ≤ i := by omega
      have e : ds.drop i = [] := List.drop_eq_nil_of_le hi
      exact ⟨List.getElem?_eq_none hi, by simp only [leftF, e, forL]⟩
    | succ m =>
      right
      have hi : i < ds.length := by omega
      have e : ds.drop i = ds[i] :: ds.drop (i + 1) := List.drop_eq_getElem_cons hi
      refine ⟨ds[i], m, List.getElem?_eq_getElem hi, rfl, (show i + 1 + m = ds.length by omega), ?_⟩
      simp only [leftF, e, forL]
      all_goals (cases h ds[i] env S <;> rfl)
  | dyn l =>
    cases m with
    | zero => exact absurd rfl hb
    | succ m =>
      simp only [leftF, forR] at hb ⊢
      cases e0 : cel S l with
      | none => rw [e0] at hb; exact absurd rfl hb
      | some xs =>
        cases e2 : xs[i]? with
        | none => exact .inl ⟨⟨xs, rfl, e2⟩, by simp [e2]⟩
        | some d =>
          refine .inr ⟨d, m, ⟨xs, rfl, e2⟩, rfl, trivial, ?_⟩
          simp only [e2]
          all_goals (cases h d env S <;> rfl)
theorem PostS.nb {K : PySem.W.Frag} {r : SR} {w : Wd} {H : Hp} {D : Ends} (p : PostS K G W r w H D) : r ≠ .bad := by
  rintro rfl
  exact p
theorem ps_for1 {tg iter : Expr} {body : List Stmt} {ii : II} {ib : ISs} (hp : PassesOwn (model X.prog X.w) X.A X.env X.xe) (hc : X.calm = true) (hi : PI X tg iter (tI X.K G cf W ii)) (hg : PG X tg (tG X.K G g)) (hb : PSs X body (tSs X.K G cf W ib))
    (hs : plainE iter = true) : PS X (.For tg iter body [] pos) (tS X.K G cf W (.forS g ii ib)) := by
  have hs' : ∀ x, foldedSetIterable iter X.env x = pure x := by
    intro x
    cases iter <;> first
      | (simp [plainE] at hs; done)
      | rfl
  refine (ps_for hp hc hi hg hb hs').imp fun D σ H ⟨env, S, w, R, p⟩ => ?_
  simp only [evS] at p
  refine ⟨env, S, w, R, PostS.go R.en p fun J' S1 J H1 w1 _ e1 st1 itok p1 => ?_⟩
  have R1 := R.ext e1 st1
  generalize hh : (fun d e1 S2 => match bindG g d e1 with
      | some e2 => evSs cf ib e2 S2
      | none => .bad) = h at p1
  have hstart : ∃ m, mOk J' 0 m ∧ PostS X.K G W (leftF h J' 0 m env S1) w1 H1 D := by
    cases J' with
    | st ds => exact ⟨ds.length, (show 0 + ds.length = ds.length by omega), by simpa [leftF] using p1⟩
    | dyn l => exact ⟨cf.lf, trivial, p1⟩
  obtain ⟨m0, hm0, p0⟩ := hstart
  refine ⟨fun i m σ H => ∃ env S w, Ext w1 H1 w H ∧ Rel X.K G w σ H env S ∧ mOk J' i m ∧ PostS X.K G W (leftF h J' i m env S) w H D, ⟨m0, env, S1, w1, Ext.refl _ _, R1, hm0, p0⟩, ?_⟩
  rintro i m σ2 H2 ⟨env2, S2, w2, e2, R2, hm, p2⟩
  have ok := itok
  rcases leftF_step hm p2.nb with ⟨stop, el⟩ | ⟨d, m', hd, em, hm', el⟩
  · left
    rw [el] at p2
    refine ⟨?_, p2 σ2 H2 w2 (Ext.refl _ _) R2⟩
    cases J' with
    | st ds => exact (ok w2 H2 S2 e2 R2.st i).2 stop
    | dyn l => obtain ⟨ds, h1, h2⟩ := stop; exact (ok w2 H2 S2 e2 R2.st i ds h1).2 h2
  · right
    rw [el] at p2
    have gy : J.go i H2 ∧ ∀ x H'', J.yld i H2 x H'' → Ext w2 H2 w2 H'' ∧ RepSt X.K G w2 H'' S2 ∧ Rep X.K G w2 H'' d x := by
      cases J' with
      | st ds => exact (ok w2 H2 S2 e2 R2.st i).1 d hd
      | dyn l => obtain ⟨ds, h1, h2⟩ := hd; exact (ok w2 H2 S2 e2 R2.st i ds h1).1 d h2
    refine ⟨gy.1, fun σ' H' => ∃ env S w, Ext w1 H1 w H' ∧ Rel X.K G w σ' H' env S ∧ mOk J' (i + 1) m' ∧ PostS X.K G W (leftF h J' (i + 1) m' env S) w H' D, fun σ' H' z => ⟨m', by omega, z⟩, fun xv H3 y => ?_⟩
    obtain ⟨e3, st3, r3⟩ := gy.2 xv H3 y
    rw [← hh] at p2
    simp only at p2
    rw [hh] at p2
    cases eb : bindG g d env2 with
    | none => rw [eb] at p2; exact p2.elim
    | some env3 =>
      rw [eb] at p2
      simp only at p2
      have p3 := PostS.ext p2 e3
      refine ⟨d, env2, env3, S2, w2, R2.ext e3 st3, r3, unp_of eb, fun σ3 R3 _ => ⟨env3, S2, w2, ⟨st3, R3⟩, ?_⟩⟩
      cases ev : evSs cf ib env3 S2 with
      | nx e4 S4 => rw [ev] at p3; exact fun σ' H' w' ex R' => ⟨e4, S4, w', e2.trans (e3.trans ex), R', hm', PostS.ext p3 ex⟩
      | ct e4 S4 => rw [ev] at p3; exact fun σ' H' w' ex R' => ⟨e4, S4, w', e2.trans (e3.trans ex), R', hm', PostS.ext p3 ex⟩
      | bk e4 S4 => rw [ev] at p3; exact p3
      | rt v S4 => rw [ev] at p3; exact p3
      | exc x e4 S4 => rw [ev] at p3; exact p3
      | bad => rw [ev] at p3; exact p3
end
end Ev
/-! Ev, part T: a try whose first clauses alone are looked at. -/
namespace Ev
open PySem PySem.Spec PyProof.Rows L2
/-- what the clauses of the fore part wish, one after the other; behind them nothing is let through -/
def wPre (K : PySem.W.Frag) (Dd : Ends) : List (Value × (Addr → Value → Option Addr → TS)) → WX
  | [] => fun _ _ _ _ => False
  | k :: r => fun cls dd σ H => ∃ b, PySem.W.exmOne K cls k.1 = some b ∧ (b = true → ∀ a, H a = none → k.2 a cls dd Dd σ H) ∧ (b = false → wPre K Dd r cls dd σ H)
/-- the clauses, as far as they are looked at -/
inductive HdPre (Y : Cx) : List ExceptHandler → List (Value × (Addr → Value → Option Addr → TS)) → Prop
  | stop (hs : List ExceptHandler) : HdPre Y hs []
  | more {nm : Str} {cv : Value} {tq : Addr → Value → Option Addr → TS} {st : Stmt} {sts : List Stmt} {q1 q2 : Pos} {hs : List ExceptHandler} {l : List (Value × (Addr → Value → Option Addr → TS))} (n : Names Y nm cv)
      (run : ∀ (a : Addr) (ox : Obj) (cls : Value) (dd : Option Addr) (pn : List (Addr × Obj)), Zc cls dd ox → (∃ fs, ox.data = .fields fs) → PSs (Y.suite a ((a, ox) :: pn)) (st :: sts) (tq a cls dd)) (rest : HdPre Y hs l) :
      HdPre Y (.ExceptHandler (some (.Name nm q1)) none (st :: sts) q2 :: hs) ((cv, tq) :: l)
section
variable {Y : Cx} {bd : List Stmt} {g₀ : ExceptHandler} {gs : List ExceptHandler} {l : List (Value × (Addr → Value → Option Addr → TS))} {q : Pos} {tb : WX → TS}
theorem ends_untry {pins : List (Addr × Obj)} {Dd : Ends} {xe : Value → Shared → Prop} {fl : Flow} {s1 : Shared} (ok : Y.Ok) (h : SP (Y.tr (Y.pn ++ pins) xe) [] Dd fl s1) : SP Y pins Dd fl s1 := by
  cases fl with
  | ret u => obtain ⟨v, σ1, H1, J, r, z⟩ := h; exact ⟨v, σ1, H1, J.ofTry ok, r, z⟩
  | next => obtain ⟨σ1, H1, J, z⟩ := h; exact ⟨σ1, H1, J.ofTry ok, z⟩
  | brk => obtain ⟨σ1, H1, J, z⟩ := h; exact ⟨σ1, H1, J.ofTry ok, z⟩
  | cont => obtain ⟨σ1, H1, J, z⟩ := h; exact ⟨σ1, H1, J.ofTry ok, z⟩
theorem ends_unsuite {pins : List (Addr × Obj)} {Dd : Ends} {a : Addr} {ox : Obj} {fl : Flow} {s1 : Shared} (ok : Y.Ok) (h : SP (Y.suite a ((a, ox) :: (Y.pn ++ pins))) [] Dd fl s1) : SP Y pins Dd fl s1 := by
  cases fl with
  | ret u => obtain ⟨v, σ1, H1, J, r, z⟩ := h; exact ⟨v, σ1, H1, J.unsuite ok, r, z⟩
  | next => obtain ⟨σ1, H1, J, z⟩ := h; exact ⟨σ1, H1, J.unsuite ok, z⟩
  | brk => obtain ⟨σ1, H1, J, z⟩ := h; exact ⟨σ1, H1, J.unsuite ok, z⟩
  | cont => obtain ⟨σ1, H1, J, z⟩ := h; exact ⟨σ1, H1, J.unsuite ok, z⟩
theorem ps_try_pre (hst : Y.stack = Y.env :: Y.outer) (hfr : Y.env.frame = some Y.env.locals)
    (hb : ∀ (W : WX) (pn : List (Addr × Obj)) (xe : Value → Shared → Prop), Takes (Y.tr pn xe) W → PassesOwn (model Y.prog Y.w) Y.A Y.env xe → PSs (Y.tr pn xe) bd (tb W))
    (hh : HdPre Y (g₀ :: gs) l) : PS Y (.Try bd (g₀ :: gs) [] [] q) (fun Dd σ H => tb (wPre Y.K Dd l) Dd σ H) := by
  refine ⟨fun pins s σ H Dd I z => ?_⟩
  have ok := I.ok
  have frames : Y.A.frames = some (Y.env :: Y.outer) := by rw [ok.frames, hst]
  refine wpAny_Try_except ?_
  have body := (hb (wPre Y.K Dd l) (Y.pn ++ pins) (fun e s₁ => wpAny (model Y.prog Y.w) Y.A (noteFrame e Y.env) (fun _ s₂ => wpAny (model Y.prog Y.w) Y.A (setFlight e none) (fun _ s₃ => wpAny (model Y.prog Y.w) Y.A (handleBy e Y.env (g₀ :: gs)) (SP Y pins Dd) Y.xe s₃) Y.xe s₂) Y.xe s₁)
    (fun u s' xx => ?_) PassesOwn.looking).run [] s σ H Dd (I.toTry _) z
  · refine wpAny_mono body (fun fl s1 hsp => ?_) (fun e s1 he => he)
    have := ends_untry ok hsp
    cases fl with
    | next => exact wpAny_execs_nil this
    | ret u => exact this
    | brk => exact this
    | cont => exact this
  · obtain ⟨a, B, sI, ps', σ1, H1, cls, dd, rfl, Jt, nb, up, sky, na, os, ag, wish⟩ := xx
    have J := Jt.ofTry ok
    have sky2 : Sky B (Y.env :: Y.outer) a (Zc cls dd) Y.env.locals s'.heap := by rw [← hst]; exact sky
    refine Sky.land Zc.steady frames hfr sky2 fun h3 fl3 up3 => ?_
    have J3 : Inv Y pins σ1 H1 { s' with heap := h3 } := J.landed nb fl3.1 (up.trans up3) os ag
    obtain ⟨ox, fs, hx, zx, dx⟩ := fl3.there
    have noFrame : ∀ b : Env, b ∈ Y.env :: Y.outer → b.frame ≠ some a := fun b hb e => by
      obtain ⟨_, o2, e2, nf⟩ := fl3.2.2.1.mem (List.mem_filterMap.mpr ⟨b, hb, e⟩)
      rw [hx] at e2
      cases e2
      exact nf _ dx
    have n1 : a ≠ Y.env.locals := fun e => noFrame Y.env List.mem_cons_self (by rw [hfr, e])
    have n2 : a ∉ Y.fs := fun m => by
      obtain ⟨b, hb, e⟩ := List.mem_filterMap.mp m
      exact noFrame b (List.mem_cons_of_mem _ hb) e
    have S3 := J3.suite hx dx na n1 n2
    have walk : ∀ {hs' : List ExceptHandler} {l' : List (Value × (Addr → Value → Option Addr → TS))}, HdPre Y hs' l' → wPre Y.K Dd l' cls dd σ1 H1 → wpAny (model Y.prog Y.w) Y.A (handleBy (.ref a) Y.env hs') (SP Y pins Dd) Y.xe { s' with heap := h3 } := by
      intro hs' l' hk
      induction hk with
      | stop hs => exact fun z => z.elim
      | @more nm cv tq st sts q1 q2 hs l2 n run rest ih =>
        rintro ⟨b, eb, yes, no⟩
        refine wpAny_handleBy_cons (codeAny_handlers_test ?_) (by intro z; cases z)
        have ty : PySem.W.Looks (model Y.prog Y.w) h3 (typeOf (.ref a)) cls := fun A Q E s4 kp z => wpAny_typeOf_ref (kp _ _ hx) (by rw [zx.1]; exact z)
        have found := PySem.W.exm_one (M := model Y.prog Y.w) J3.kIn ty eb
        have named : ∀ {Q E : Value → Shared → Prop}, Q cv { s' with heap := h3 } → wpAny (model Y.prog Y.w) (Y.A.mark (some (.ref a))) (eval (.Name nm q1) Y.env) Q E { s' with heap := h3 } := fun {Q E} z => by
          obtain ⟨g1, g2, m | ⟨m, bv, nn⟩⟩ := n
          · exact ld_glob (X := Y.suite a ((a, ox) :: (Y.pn ++ pins))) S3 g1 m z g2
          · exact ld_blt (X := Y.suite a ((a, ox) :: (Y.pn ++ pins))) S3 g1 m bv z nn g2
        refine named (found.here ?_)
        cases b with
        | false => exact ih (no rfl)
        | true =>
          refine codeAny_handlers_suite ?_
          refine HandSPX.lands_againZ fl3 fun h4 fl4 up4 => ?_
          obtain ⟨oy, gs', hy, zy, dy⟩ := fl4.there
          have J4 : Inv Y pins σ1 H1 { s' with heap := h4 } := J.landed nb fl4.1 ((up.trans up3).trans up4) os ag
          have S4 := J4.suite hy dy na n1 n2
          exact wpAny_mono ((run a oy cls dd (Y.pn ++ pins) zy ⟨_, dy⟩).run [] _ _ H1 _ S4 (yes rfl a na)) (fun fl s6 z => ends_unsuite ok z) (fun _ _ z => False.elim z)
    exact walk hh wish
end
/-! ### a def that calls what it got within such a try -/
theorem idx_gl {x : Str} {sc : Scope} (h : isGlob sc x = true) : sc.names.lookup x = some .globalImplicit := by
  unfold isGlob at h
  split at h
  · assumption
  · cases h
def suiteT (z : Str) : Addr → Value → Option Addr → TS := fun _ _ _ D _ H => D.rt (.str z) H
theorem gdH_ok {Y : Cx} {G : Gx} {gl : List (Str × GK)} {sg : Scope} (hsc : Y.env.scope = sg) (hm : ∀ x k, gl.lookup x = some (.cls k) → Y.mg x = some (.ref (G k))) : ∀ hs : List ExceptHandler, HdPre Y hs ((gdH gl sg hs).map fun p => (.ref (G p.1), suiteT p.2))
  | [] => .stop []
  | h :: r => by
    have base : HdPre Y (h :: r) (([] : List (Nat × Str)).map fun p => (.ref (G p.1), suiteT p.2)) := .stop _
    unfold gdH
    split
    · rename_i x p1 z j p2 p3 p4 r' e
      cases e
      split
      · rename_i hc
        simp only [Bool.and_eq_true] at hc
        split
        · rename_i k hk
          refine .more ⟨?_, ?_, .inl (hm x k hk)⟩ (fun a ox cls dd pn _ _ => (pss_one (ps_ret pe_str)).imp fun D σ H q => q) (gdH_ok hsc hm r)
          · show Y.env.kindOf x = _
            unfold Env.kindOf
            rw [hsc]
            exact idx_gl hc.2
          · have := hc.1
            unfold plainName at this
            simp only [Bool.and_eq_true, Bool.not_eq_true'] at this
            exact this.1
        · exact .stop _
      · exact .stop _
    · exact .stop _
theorem wPre_of {K : PySem.W.Frag} {G : Gx} {cls : Value} {dd : Option Addr} {σ : L2.St} {H : Hp} {D : Ends} : ∀ {hs : List (Nat × Str)}, wLst K G cls (fun z => D.rt (.str z) H) hs → wPre K D (hs.map fun p => (.ref (G p.1), suiteT p.2)) cls dd σ H
  | [], h => h.elim
  | k :: r, ⟨b, e, yes, no⟩ => ⟨b, e, fun hb a _ => yes hb, fun hb => wPre_of (no hb)⟩
theorem gives_pre {X : Cx} {G : Gx} {gl : List (Str × GK)} {Ng : List Str} {x a qn : Str} {sg : Scope} {g : Addr} {cdg : Value} {bg : List Stmt} {w : Option Str} {hs : List (Nat × Str)} (hm : ∀ x k, gl.lookup x = some (.cls k) → X.mg x = some (.ref (G k))) (hg : gdOf gl sg a bg = some (w, hs)) :
    LamX.GivesTo X Ng x sg g cdg bg a qn (TTpre X.K G hs w) := by
  unfold gdOf at hg
  split at hg
  · rename_i e0 p1 h hds p2
    split at hg
    · rename_i w' hw
      cases hg
      intro f c' s H Q tl act hc hq
      generalize hZ : (cxOf C8.CX0 X.prog X.w X.K X.mg X.base Ng x sg g cdg X.A X.stack s H C8.E0).nox = Z at *
      have zK : Z.K = X.K := by rw [← hZ]; rfl
      have hh := gdH_ok (Y := (cxOf C8.CX0 X.prog X.w X.K X.mg X.base Ng x sg g cdg X.A X.stack s H C8.E0).nox) (G := G) (gl := gl) (sg := sg) rfl hm (h :: hds)
      rw [hZ] at hh
      have st : Z.stack = Z.env :: Z.outer := by rw [← hZ]; rfl
      have fr : Z.env.frame = some Z.env.locals := by rw [← hZ]; rfl
      refine ⟨_, pss_one (ps_try_pre (Y := Z) (tb := fun W D σ H => ∃ Ech : XK, (∀ cls d σ' H', Ech cls d H' → W cls d σ' H') ∧ σ[0]? = some (some (.ref f)) ∧ H c' = some (LamX.CodeO c' qn) ∧ tl Ech H (tWrap w D.rt)) st fr (fun W pn xe tk _ => ?_) hh), ?_⟩
      · refine ⟨fun pins s' σ H' D I h' => ?_⟩
        obtain ⟨Ech, hW, h1, h2, h3⟩ := h'
        subst hZ
        have hp := fun p1 p2 => act W pn xe Ech p1 p2 tk hW
        unfold gdE at hw
        split at hw
        · split at hw
          · rename_i b pb pc eb
            cases hw
            have eb := eq_of_beq eb
            subst eb
            exact (pss_one (ps_ret (pos := p1) (hp _ _))).run pins s' σ H' D I ⟨h1, h2, h3⟩
          · cases hw
        · split at hw
          · rename_i y j1 j2 b pb pc kk pp eb
            cases hw
            have eb := eq_of_beq eb
            subst eb
            refine (pss_one (ps_ret (pos := p1) (pe_tup (pa_cons pe_str (pa_cons (hp _ _) pa_nil))))).run pins s' σ H' D I ?_
            exact ⟨h1, h2, h3⟩
          · cases hw
        · cases hw
      · refine ⟨fun cls _ H' => wLst X.K G cls (fun z => Q (.str z) H') (gdH gl sg (h :: hds)), fun cls d σ' H' q => ?_, rfl, hc, ?_⟩
        · rw [zK]
          exact wPre_of q
        · exact hq
    · cases hg
  · cases hg
end Ev
/-! Ev, part Ze: an error that a try keeps (caught = e), and isinstance of it behind the try. -/
namespace EvZe
open PySem PySem.Spec PyProof.Rows L2 Ev
section
variable {X : Cx} {pins : List (Addr × Obj)} {σ : L2.St} {H : Hp} {s : Shared}
/-- an object that lies there already is known from now on -/
theorem Inv.know {a : Addr} {o : HO} (I : Inv X pins σ H s) (hn : H a = none) (n0 : X.s_0.heap.get? a = none ∨ a ∈ X.ex) (nL : a ≠ X.env.locals) (nC : ∀ x c, X.env.cells.lookup x = some c → c ≠ a) (nP : ∀ p ∈ X.pn ++ pins, p.1 ≠ a) (new : ObjOk X.prog X.w (upd H a o) s.heap a o) :
    Inv X pins σ (upd H a o) s := by
  refine ⟨I.ok, I.os, I.bare, ⟨I.base.keep, I.base.slot, fun b u q n hx => ?_, I.base.there, fun b xs q => ?_, fun b u v q => ?_, fun b ps q => ?_⟩, I.loc, I.cell, ?_, fun x c e => ?_, fun p hp => ?_, ?_, I.len⟩
  · rw [upd_ne (fun z => ?_)]
    · exact I.base.free b u q n hx
    · subst z
      rcases n0 with e | e
      · rw [e] at q; cases q
      · exact hx e
  · rw [upd_ne (ne_of_none (I.base.tups b xs q) hn)]; exact I.base.tups b xs q
  · rw [upd_ne (ne_of_none (I.base.frzs b u v q) hn)]; exact I.base.frzs b u v q
  · obtain ⟨m, e⟩ := I.base.tbls b ps q
    exact ⟨m, by rw [upd_ne (ne_of_none e hn)]; exact e⟩
  · rw [upd_ne (fun z => nL z.symm)]; exact I.free
  · rw [upd_ne (nC x c e)]; exact I.freeC x c e
  · obtain ⟨e1, e2, e3⟩ := I.pin p hp
    exact ⟨e1, by rw [upd_ne (nP p hp)]; exact e2, e3⟩
  · exact I.hok.laidN (fun _ _ z => z) hn new
end
/-! ### the try that keeps its error -/
/-- what the clause wishes: the error is of a class that it names, has no dict, and is kept in slot ic -/
def wKeep (K : PySem.W.Frag) (cv : Value) (ie ic : Nat) (Dd : Ends) : WX := fun cls d σ H =>
  ∃ D, cls = .ref D ∧ d = none ∧ PySem.W.exmOne K cls cv = some true ∧ ∀ a, H a = none → Dd.nx (((σ.set ie (some (.ref a))).set ic (some (.ref a))).set ie none) (upd H a (ErrO D a))
section
variable {Y : Cx} {bd : List Stmt} {q q1 q5 : Pos} {tb : WX → TS} {nm en : Str} {cv : Value} {ie ic : Nat} {b₀ : Stmt} {suite : List Stmt}
theorem ps_try_keep (hst : Y.stack = Y.env :: Y.outer) (hfr : Y.env.frame = some Y.env.locals) (hN : Y.N.Nodup) (hi : Y.N[ie]? = some en) (hln : Y.env.kindOf en = some .local) (hc : Names Y nm cv)
    (hb : ∀ (W : WX) (pn : List (Addr × Obj)) (xe : Value → Shared → Prop), Takes (Y.tr pn xe) W → PassesOwn (model Y.prog Y.w) Y.A Y.env xe → PSs (Y.tr pn xe) bd (tb W))
    (hsu : ∀ (a : Addr) (oe : Obj) (pn : List (Addr × Obj)), PSs (Y.suite a ((a, oe) :: pn)) (b₀ :: suite) (fun D σ H => σ[ie]? = some (some (.ref a)) ∧ D.nx (σ.set ic (some (.ref a))) H)) :
    PS Y (.Try bd [.ExceptHandler (some (.Name nm q1)) (some en) (b₀ :: suite) q5] [] [] q) (fun Dd σ H => tb (wKeep Y.K cv ie ic Dd) Dd σ H) := by
  refine ⟨fun pins s σ H Dd I z => ?_⟩
  have ok := I.ok
  have frames : Y.A.frames = some (Y.env :: Y.outer) := by rw [ok.frames, hst]
  have hloc : Loc Y.env.scope en := .inl hln
  refine wpAny_Try_except ?_
  have body := (hb (wKeep Y.K cv ie ic Dd) (Y.pn ++ pins) (fun e s₁ => wpAny (model Y.prog Y.w) Y.A (noteFrame e Y.env) (fun _ s₂ => wpAny (model Y.prog Y.w) Y.A (setFlight e none) (fun _ s₃ => wpAny (model Y.prog Y.w) Y.A (handleBy e Y.env [.ExceptHandler (some (.Name nm q1)) (some en) (b₀ :: suite) q5]) (SP Y pins Dd) Y.xe s₃) Y.xe s₂) Y.xe s₁)
    (fun u s' xx => ?_) PassesOwn.looking).run [] s σ H Dd (I.toTry _) z
  · refine wpAny_mono body (fun fl s1 hsp => ?_) (fun e s1 he => he)
    have := ends_untry ok hsp
    cases fl with
    | next => exact wpAny_execs_nil this
    | ret u => exact this
    | brk => exact this
    | cont => exact this
  · obtain ⟨a, B, sI, ps', σ1, H1, cls, dd, rfl, Jt, nb, up, sky, na, os, ag, Dc, rfl, rfl, wb, wish⟩ := xx
    have J : Inv Y pins σ1 H1 sI := Jt.ofTry ok
    have sky2 : Sky B (Y.env :: Y.outer) a (Zc (.ref Dc) none) Y.env.locals s'.heap := by rw [← hst]; exact sky
    refine Sky.land Zc.steady frames hfr sky2 fun h3 fl3 up3 => ?_
    have J3 : Inv Y pins σ1 H1 { s' with heap := h3 } := J.landed nb fl3.1 (up.trans up3) os ag
    obtain ⟨ox, fs, hx, zx, dx⟩ := fl3.there
    have noFrame : ∀ b : Env, b ∈ Y.env :: Y.outer → b.frame ≠ some a := fun b hb e => by
      obtain ⟨_, o2, e2, nf⟩ := fl3.2.2.1.mem (List.mem_filterMap.mpr ⟨b, hb, e⟩)
      rw [hx] at e2
      cases e2
      exact nf _ dx
    have n1 : a ≠ Y.env.locals := fun e => noFrame Y.env List.mem_cons_self (by rw [hfr, e])
    have n2 : a ∉ Y.fs := fun m => by
      obtain ⟨b, hb, e⟩ := List.mem_filterMap.mp m
      exact noFrame b (List.mem_cons_of_mem _ hb) e
    have n3 : a ∉ frs Y.stack := fun m => by
      rw [hst] at m
      obtain ⟨b, hb, e⟩ := List.mem_filterMap.mp m
      exact noFrame b hb e
    have gone : B.get? a = none := fl3.2.1
    have nI : sI.heap.get? a = none := by
      cases e : sI.heap.get? a with
      | none => rfl
      | some o =>
        have := nb a o e n3
        rw [gone] at this
        cases this
    have n0 : Y.s_0.heap.get? a = none ∨ a ∈ Y.ex := by
      by_cases hx : a ∈ Y.ex
      · exact .inr hx
      · refine .inl ?_
        cases e : Y.s_0.heap.get? a with
        | none => rfl
        | some o =>
          obtain ⟨o', e'⟩ := J.base.there a o e hx
          rw [nI] at e'
          cases e'
    have nP : ∀ p ∈ Y.pn ++ pins, p.1 ≠ a := fun p hp e => by
      have := (J.pin p hp).1
      rw [e, nI] at this
      cases this
    have nC : ∀ x c, Y.env.cells.lookup x = some c → c ≠ a := fun x c e z => by
      obtain ⟨v, o, e1, _⟩ := J.cell x c e
      rw [z, nI] at e1
      cases e1
    have S3 := J3.suite hx dx na n1 n2
    refine wpAny_handleBy_cons (codeAny_handlers_test ?_) (by intro z; cases z)
    have ty : PySem.W.Looks (model Y.prog Y.w) h3 (typeOf (.ref a)) (.ref Dc) := fun A Q E s4 kp z => wpAny_typeOf_ref (kp _ _ hx) (by rw [zx.1]; exact z)
    have found := PySem.W.exm_one (M := model Y.prog Y.w) J3.kIn ty wb
    have named : ∀ {Q E : Value → Shared → Prop}, Q cv { s' with heap := h3 } → wpAny (model Y.prog Y.w) (Y.A.mark (some (.ref a))) (eval (.Name nm q1) Y.env) Q E { s' with heap := h3 } := fun {Q E} z => by
      obtain ⟨g1, g2, m | ⟨m, bv, nn⟩⟩ := hc
      · exact ld_glob (X := Y.suite a ((a, ox) :: (Y.pn ++ pins))) S3 g1 m z g2
      · exact ld_blt (X := Y.suite a ((a, ox) :: (Y.pn ++ pins))) S3 g1 m bv z nn g2
    refine named (found.here ?_)
    refine codeAny_handlers_suite_as ?_
    refine HandSPX.lands_againZ fl3 fun h4 fl4 up4 => ?_
    obtain ⟨oy, gs', hy, zy, dy⟩ := fl4.there
    have J4 : Inv Y pins σ1 H1 { s' with heap := h4 } := J.landed nb fl4.1 ((up.trans up3).trans up4) os ag
    have S4 := J4.suite hy dy na n1 n2
    have hlt : ie < σ1.length := by
      rw [J.len]; exact (List.getElem?_eq_some_iff.mp hi).1
    refine store_ok (X := Y.suite a ((a, oy) :: (Y.pn ++ pins))) (v := .ref a) S4 hN hi hloc rfl (fun s5 S5 => ?_) (.inr hln)
    refine wpAny_mono ((hsu a oy (Y.pn ++ pins)).run [] s5 _ H1 { nx := fun σ' H' => σ' = (σ1.set ie (some (.ref a))).set ic (some (.ref a)) ∧ H' = H1, rt := fun _ _ => False, bk := fun _ _ => False, ct := fun _ _ => False } S5 ⟨List.getElem?_set_self hlt, rfl, rfl⟩) (fun fl s6 hsp => ?_) (fun _ _ z => False.elim z)
    cases fl with
    | next =>
      obtain ⟨σ6, H6, S6, rfl, rfl⟩ := hsp
      refine gone_ok (X := Y.suite a ((a, oy) :: (Y.pn ++ pins))) S6 hN hi hln fun s7 S7 => ?_
      have hget : s7.heap.get? a = some oy := (S7.pin (a, oy) (List.mem_append.mpr (.inl List.mem_cons_self))).1
      exact ⟨_, _, Inv.know (S7.unsuite ok) na n0 n1 nC nP (errO_ok hget zy dy), wish a na⟩
    | brk => obtain ⟨_, _, _, z⟩ := hsp; exact z.elim
    | cont => obtain ⟨_, _, _, z⟩ := hsp; exact z.elim
    | ret u => obtain ⟨_, _, _, _, _, z⟩ := hsp; exact z.elim
end
end EvZe
/-! Ev, part J: what cE writes is what the text does. -/
namespace Ev
open PySem PySem.Spec PyProof.Rows L2
theorem idx_get {x : Str} : ∀ {N : List Str} {n i : Nat}, idx x N n = some i → n ≤ i ∧ N[i - n]? = some x
  | [], n, i, h => by cases h
  | y :: r, n, i, h => by
    unfold idx at h
    split at h
    · rename_i e
      cases h
      have := eq_of_beq e
      simp [this]
    · obtain ⟨h1, h2⟩ := idx_get h
      refine ⟨by omega, ?_⟩
      obtain ⟨k, rfl⟩ : ∃ k, i = n + 1 + k := ⟨i - (n + 1), by omega⟩
      have e1 : n + 1 + k - (n + 1) = k := by omega
      have e2 : n + 1 + k - n = k + 1 := by omega
      rw [e1] at h2
      rw [e2]
      simpa using h2
theorem idx_at {x : Str} {N : List Str} {i : Nat} (h : idx x N 0 = some i) : N[i]? = some x := (idx_get h).2
theorem loc_of {sc : Scope} {x : Str} (h : isLocal sc x = true) : Loc sc x := by
  unfold isLocal at h
  split at h
  · exact .inl ‹_›
  · exact .inr ‹_›
  · cases h
theorem vis_of {sc : Scope} {x : Str} (h : isVis sc x = true) : Vis sc x := by
  unfold isVis at h
  split at h
  · exact .inl ‹_›
  · exact .inr (.inl ‹_›)
  · exact .inr (.inr ‹_›)
  · cases h
theorem glb_of {sc : Scope} {x : Str} (h : isGlob sc x = true) : sc.names.lookup x = some .globalImplicit := by
  unfold isGlob at h
  split at h
  · assumption
  · cases h
theorem plain_nm {x : Str} (h : plainName x = true) : (x == ("__debug__" : Str)) = false ∧ (x == ("__classdict__" : Str)) = false ∧ x ≠ "__name__" := by
  unfold plainName at h
  simp only [Bool.and_eq_true, Bool.not_eq_true'] at h
  exact ⟨h.1, h.2.1, by intro e; subst e; simp at h⟩
theorem boot_ty {x : Str} {n : String} (h : tyNm x = some n) : bootBuiltins x = some (.type n) := by
  unfold tyNm at h
  split at h
  · rename_i e; cases h; rw [eq_of_beq e]; rfl
  split at h
  · rename_i e; cases h; rw [eq_of_beq e]; rfl
  split at h
  · rename_i e; cases h; rw [eq_of_beq e]; rfl
  split at h
  · rename_i e; cases h; rw [eq_of_beq e]; rfl
  split at h
  · rename_i e; cases h; rw [eq_of_beq e]; rfl
  split at h
  · rename_i e; cases h; rw [eq_of_beq e]; rfl
  split at h
  · rename_i e; cases h; rw [eq_of_beq e]; rfl
  · cases h
theorem pix_of {b : Expr} (h : plainE b = true) : PlainIx b := by
  intro o i
  cases b <;> first
    | rfl
    | (simp [plainE] at h; done)
theorem cE_plain {C : Tx} {N : List Str} : ∀ {n : Nat} {sc : Scope} {e : Expr} {i : IE}, cE C N n sc e = some i → plainE e = true
  | 0, sc, e, i, h => by simp [cE] at h
  | n + 1, sc, e, i, h => by
    cases e <;> first
      | rfl
      | (simp [cE] at h; done)
theorem cEs_len {C : Tx} {N : List Str} : ∀ {n : Nat} {sc : Scope} {es : List Expr} {is : IEs}, cEs C N n sc es = some is → is.len = es.length ∧ es.all plainE = true
  | n, sc, [], is, h => by
    cases n <;> (simp only [cEs] at h; cases h; exact ⟨rfl, rfl⟩)
  | 0, sc, _ :: _, is, h => by simp [cEs] at h
  | n + 1, sc, e :: es, is, h => by
    simp only [cEs] at h
    split at h
    · rename_i x xs h1 h2
      cases h
      obtain ⟨a, b⟩ := cEs_len h2
      exact ⟨by simp [IEs.len, a], by simp [cE_plain h1, b]⟩
    · cases h
theorem cGs_len {N : List Str} {sc : Scope} : ∀ {n : Nat} {es : List Expr} {is : IGs}, cGs N sc n es = some is → is.len = es.length ∧ es.all plainE = true
  | n, [], is, h => by
    cases n <;> (simp only [cGs] at h; cases h; exact ⟨rfl, rfl⟩)
  | 0, _ :: _, is, h => by simp [cGs] at h
  | n + 1, e :: es, is, h => by
    simp only [cGs] at h
    split at h
    · rename_i x xs h1 h2 h3
      cases h
      obtain ⟨a, b⟩ := cGs_len h3
      exact ⟨by simp [IGs.len, a], by simp [h1, b]⟩
    · cases h
/-! ### targets -/
theorem snd_G {X : Cx} {G : Gx} {sg : Scope} (nd : X.N.Nodup) (hc : X.calm = true) (hl : ∀ x, isLocal sg x = true → Loc X.env.scope x ∧ (X.fn x = true ∨ X.env.scope.names.lookup x = some .local)) :
    ∀ n, (∀ e g, cG X.N sg n e = some g → PG X e (tG X.K G g)) ∧ (∀ es gs, cGs X.N sg n es = some gs → PGs X es (tGs X.K G gs))
  | 0 => ⟨fun e g h => by simp [cG] at h, fun es gs h => by
      cases es with
      | nil => simp only [cGs] at h; cases h; exact pgs_nil1
      | cons _ _ => simp [cGs] at h⟩
  | n + 1 => by
    obtain ⟨ih1, ih2⟩ := snd_G (G := G) nd hc hl n
    refine ⟨fun e g h => ?_, fun es gs h => ?_⟩
    · cases e with
      | Name x pos =>
        simp only [cG] at h
        split at h
        · rename_i h1
          cases h2 : idx x X.N 0 with
          | none => rw [h2] at h; cases h
          | some i =>
            rw [h2] at h
            cases h
            exact pg_nm nd (idx_at h2) (hl x h1).1 (hl x h1).2
        · cases h
      | Tuple es k pos =>
        simp only [cG] at h
        cases h2 : cGs X.N sg n es with
        | none => rw [h2] at h; cases h
        | some gs =>
          rw [h2] at h
          cases h
          exact pg_tup1 hc (ih2 es gs h2) (cGs_len h2).2 (cGs_len h2).1
      | _ => simp [cG] at h
    · cases es with
      | nil => simp only [cGs] at h; cases h; exact pgs_nil1
      | cons e r =>
        simp only [cGs] at h
        split at h
        · rename_i h1 h2 h3
          cases h
          exact pgs_cons1 (ih1 _ _ h2) (ih2 _ _ h3) h1
        · cases h
section
variable {G : Gx} {T : List Fn} {lf : Nat} {C : Tx} {lv : Nat} {N : List Str} {sc : Scope} {X : Cx} {W : WX}
theorem OkX.gl (o : OkX G T lf C lv N sc X W) {x : Str} (h : isGlob sc x = true) : Gl X x := by
  show X.env.kindOf x = _
  unfold Env.kindOf
  rw [o.hsc]
  exact glb_of h
theorem OkX.to0 (o : OkX G T lf C lv N sc X W) : OkX G T lf C lv N sc X (fun _ _ _ _ => False) := ⟨o.f, o.hN, o.nd, o.hsc, o.calm, o.gu, o.room, takes0, o.lam, o.lo⟩
theorem OkX.blk (o : OkX G T lf C lv N sc X W) (s : Shared) (H : Hp) (scope : Scope) (cl : List (Str × Addr)) (D' : Addr) (fp : List Addr) : OkX G T lf C lv N (relS scope sc) (X.blk s H scope (compEnvC scope cl D' X.env) fp) (fun _ _ _ _ => False) :=
  ⟨o.f, o.hN, o.nd, by rw [← o.hsc]; rfl, o.calm, o.gu, o.room, takes0, o.lam, o.lo⟩
theorem blk_loc {scope : Scope} {x : Str} {s : Shared} {H : Hp} {cl : List (Str × Addr)} {D' : Addr} {fp : List Addr} (h : isLocal scope x = true) :
    Loc (X.blk s H scope (compEnvC scope cl D' X.env) fp).env.scope x ∧ ((X.blk s H scope (compEnvC scope cl D' X.env) fp).fn x = true ∨ (X.blk s H scope (compEnvC scope cl D' X.env) fp).env.scope.names.lookup x = some .local) := by
  have key : ∀ (l : List (Str × NameKind)) (k : NameKind), (k = .local ∨ k = .cell) → l.lookup x = some k → (l.map fun (n, k) => if (k == NameKind.free && X.env.scope.kind == .function && X.env.kindOf n == some .cell) then (n, NameKind.cell) else (n, k)).lookup x = some k := by
    intro l k hk
    induction l with
    | nil => intro h; cases h
    | cons a r ih =>
      intro h
      obtain ⟨n, k2⟩ := a
      simp only [List.map_cons, List.lookup_cons] at h ⊢
      by_cases e : (x == n) = true
      · rw [e] at h
        simp only at h
        cases h
        have : (k == NameKind.free) = false := by rcases hk with rfl | rfl <;> rfl
        simp [this, List.lookup_cons, e]
      · have e := Bool.eq_false_iff.mpr e
        rw [e] at h
        simp only at h
        have h2 := ih h
        split <;> (simp only [List.lookup_cons, e]; exact h2)
  rcases loc_of h with z | z
  · have := key _ _ (.inl rfl) z
    exact ⟨.inl this, .inr this⟩
  · exact ⟨.inr (key _ _ (.inr rfl) z), .inl (by show (scope.names.lookup x == some .cell) = true; rw [z]; rfl)⟩
structure Snd (lm : IE → Env' → Store → Ev.R D) (G : Gx) (T : List Fn) (lf : Nat) (C : Tx) (lv : Nat) (N : List Str) (n : Nat) : Prop where
  e : ∀ {sc : Scope} {X : Cx} {W : WX} {e : Expr} {i : IE}, OkX G T lf C lv N sc X W → cE C N n sc e = some i → PE X e (tE X.K G ⟨lf, evF T lf lv, lm⟩ W i)
  t : ∀ {sc : Scope} {X : Cx} {W : WX} {e : Expr} {i : IE}, OkX G T lf C lv N sc X W → cT C N n sc e = some i → PT X e (tTt X.K G ⟨lf, evF T lf lv, lm⟩ W i)
  w : ∀ {sc : Scope} {X : Cx} {W : WX} {op : BoolOp} {es : List Expr} {pos : Pos} {i : IE}, OkX G T lf C lv N sc X W → cT C N n sc (.BoolOp op es pos) = some i → PW X (.BoolOp op es pos) (tTt X.K G ⟨lf, evF T lf lv, lm⟩ W i)
  es : ∀ {sc : Scope} {X : Cx} {W : WX} {es : List Expr} {is : IEs}, OkX G T lf C lv N sc X W → cEs C N n sc es = some is → PA X es (tEs X.K G ⟨lf, evF T lf lv, lm⟩ W is)
  ks : ∀ {sc : Scope} {X : Cx} {W : WX} {kws : List Keyword} {is : IEs}, OkX G T lf C lv N sc X W → cEs C N n sc (kws.map (·.value)) = some is → PK X kws (tEs X.K G ⟨lf, evF T lf lv, lm⟩ W is)
  o : ∀ {sc : Scope} {X : Cx} {W : WX} {e : Option Expr} {i : IO}, OkX G T lf C lv N sc X W → cO C N n sc e = some i → PO X e (tOo X.K G ⟨lf, evF T lf lv, lm⟩ W i)
  c : ∀ {sc : Scope} {X : Cx} {W : WX} {es : List Expr} {i : IO}, OkX G T lf C lv N sc X W → cC C N n sc es = some i → PTs X es (tCc X.K G ⟨lf, evF T lf lv, lm⟩ W i)
  i : ∀ {sc : Scope} {X : Cx} {W : WX} {tg e : Expr} {i : II}, OkX G T lf C lv N sc X W → cI C N n sc (isTupE tg) e = some i → PI X tg e (tI X.K G ⟨lf, evF T lf lv, lm⟩ W i)
end
theorem marks_of {op : CmpOp} {b : Expr} (h : plainE b = true) : behindInMarks op b = false := by
  cases b <;> first
    | rfl
    | (simp [plainE] at h; done)
theorem plain_fold {iter : Expr} {env : Env} (h : plainE iter = true) : ∀ x, foldedSetIterable iter env x = pure x := by
  intro x
  cases iter <;> first
    | rfl
    | (simp [plainE] at h; done)
theorem isD1_of {keys : List (Option Expr)} {vals : List Expr} {k v : Expr} (h : isD1 keys vals = some (k, v)) : keys = [some k] ∧ vals = [v] := by
  unfold isD1 at h
  split at h
  · split at h
    · cases h; exact ⟨rfl, rfl⟩
    · cases h
  · cases h
theorem pe_rngV1 {X : Cx} {G : Gx} {cf : Cf} {W : WX} {a : Expr} {ia : IE} {p pos : Pos} (hg : Gl X "range") (hm : X.mg "range" = none) (ha : PE X a (tE X.K G cf W ia)) (hp : plainE a = true) : PE X (.Call (.Name "range" p) [a] [] pos) (tE X.K G cf W (.rngV (.cst (.int 0)) ia)) := by
  refine (pe_callTy (T := "range") EvNr.cr_range1 hg hm boot_range (pa_cons1 ha pa_nil1 (star_cons hp)) (by decide) (by decide) (star_cons hp) (noStar rfl)).imp fun σ H Q ⟨env, S, w, R, q⟩ => ?_
  simp only [evE, Ev.R.bind] at q
  refine ⟨env, S, w, R, ?_⟩
  simp only [evEs, Ev.R.bind]
  cases h : evE cf ia env S with
  | bad => rw [h] at q; exact q.elim
  | exc x S1 => rw [h] at q; exact q
  | ok d S1 =>
    rw [h] at q
    intro vs H1 w1 e1 st1 r1
    obtain ⟨v, rfl, r⟩ := reps1 r1
    cases d with
    | int j =>
      cases r
      simp only at q
      split at q
      · exact ⟨j, rfl, fun p hp => q (.ref p) _ w1 (e1.trans (Ext.laid hp)) (st1.laid hp) (.rg upd_same (st1.fresh hp))⟩
      · exact q.elim
    | _ => exact q.elim
/-- d.get(k, x) of a dict of the text's, its keys numbers -/
theorem pe_tgetI1 {G : Gx} {T : List Fn} {lf : Nat} {C : Tx} {lv : Nat} {N : List Str} {sc : Scope} {X : Cx} {W : WX} {cf : Cf} {a b c : Expr} {ap pos : Pos} {kvs : List (Int × Int)} {ib ic : IE}
    (o : OkX G T lf C lv N sc X W) (ht : tabIOf C sc a = some kvs) (hb : PE X b (tE X.K G cf W ib)) (hc : PE X c (tE X.K G cf W ic)) (h0 : notCall0 a = true) (hl : (ap.endLine == pos.line) = true) (hp : plainE b = true) (hq : plainE c = true) : PE X (.Call (.Attribute a "get" ap) [b, c] [] pos) (tE X.K G cf W (.tgetI kvs ib ic)) := by
  cases a with
  | Name f p =>
    simp only [tabIOf] at ht
    split at ht
    · rename_i hh
      simp only [Bool.and_eq_true] at hh
      split at ht
      · rename_i kvs' hk
        cases ht
        obtain ⟨d1, d2, d3⟩ := plain_nm hh.1
        obtain ⟨ad, hm, hv⟩ := o.f.tabI _ _ hk
        refine (pe_kget2 (pe_glob (v := V.ref ad) (o.gl hh.2) hm rfl d1) hv hb hc (m2_of h0 hl hp hq)).imp fun σ H Q ⟨env, S, w, R, q⟩ => ?_
        simp only [evE] at q
        refine ⟨env, S, w, R, q.bind fun d1 S1 v1 H1 w1 _ e1 st1 r1 p1 => ?_⟩
        refine ⟨env, S1, w1, R.ext e1 st1, p1.bind fun d2 S2 v2 H2 w2 _ e2 st2 r2 p2 => ?_⟩
        cases d1 with
        | int i =>
          cases r1
          refine ⟨i, rfl, ?_⟩
          simp only at p2
          cases e : kvs.lookup i with
          | none => rw [e] at p2; exact p2 v2 H2 w2 (Ext.refl _ _) st2 r2
          | some j => rw [e] at p2; exact p2 (.int j) H2 w2 (Ext.refl _ _) st2 (.int j)
        | _ => exact p2.elim
      · cases ht
    · cases ht
  | _ => cases ht
/-- an entry of a dict of the text's -/
theorem pe_tget1 {G : Gx} {T : List Fn} {lf : Nat} {C : Tx} {lv : Nat} {N : List Str} {sc : Scope} {X : Cx} {W : WX} {cf : Cf} {a b : Expr} {pos : Pos} {kvs : List (Str × D)} {ib : IE}
    (o : OkX G T lf C lv N sc X W) (ht : tabOf C sc a = some kvs) (hb : PE X b (tE X.K G cf W ib)) (hs : PlainIx b) : PE X (.Subscript a b pos) (tE X.K G cf W (.tget kvs ib)) := by
  cases a with
  | Name f p =>
    simp only [tabOf] at ht
    split at ht
    · rename_i hc
      simp only [Bool.and_eq_true] at hc
      split at ht
      · rename_i kvs' hk
        cases ht
        obtain ⟨d1, d2, d3⟩ := plain_nm hc.1
        obtain ⟨ad, hm, hv⟩ := o.f.tab _ _ hk
        refine (pe_ix ix_kdict (pe_glob (v := V.ref ad) (o.gl hc.2) hm rfl d1) hb hs).imp fun σ H Q ⟨env, S, w, R, q⟩ => ?_
        simp only [evE] at q
        show tE X.K G cf W ib σ H (fun y H2 => rIxD X.K X.w (.ref ad) y H2 Q)
        refine ⟨env, S, w, R, q.bind fun d1 S1 v1 H1 w1 _ e1 st1 r1 p1 => ?_⟩
        cases d1 with
        | str z =>
          cases r1
          simp only at p1
          cases e : kvs.lookup z with
          | none => rw [e] at p1; exact p1.elim
          | some d =>
            rw [e] at p1
            obtain ⟨v, kd, rp⟩ := hv z d e
            exact ⟨ad, z, v, rfl, rfl, kd, p1 v H1 w1 (Ext.refl _ _) st1 (rp w1 H1)⟩
        | _ => exact p1.elim
      · cases ht
    · cases ht
  | _ => cases ht
/-! ### lambdas -/
theorem lamArg_of {es : List Expr} {kws : List Keyword} {body : Expr} {scope : Scope} (h : lamArg es kws = some (body, scope)) : ∃ p, es = [.Lambda ⟨[], [], none, [], [], none, []⟩ body scope p] ∧ kws = [] := by
  unfold lamArg at h
  split at h
  · cases h; exact ⟨_, rfl, rfl⟩
  · cases h
theorem res_of {exm : List ((Nat × Nat) × Bool)} {hs : List (Nat × Str)} {k : Nat} {z : Str} : ∀ {l : List Nat}, (resAll exm hs l).lookup k = some z → resOf exm k hs = some z
  | [], h => by cases h
  | a :: r, h => by
    unfold resAll at h
    split at h
    · rename_i y e
      rw [List.lookup_cons] at h
      split at h
      · rename_i q
        cases h
        rw [eq_of_beq q]
        exact e
      · exact res_of h
    · exact res_of h
theorem wLst_of {K : PySem.W.Frag} {G : Gx} {exm : List ((Nat × Nat) × Bool)} (hx : ∀ k j b, exm.lookup (k, j) = some b → PySem.W.exmOne K (.ref (G k)) (.ref (G j)) = some b) {P : Str → Prop} {k : Nat} {z : Str} (hp : P z) : ∀ {hs : List (Nat × Str)}, resOf exm k hs = some z → wLst K G (.ref (G k)) P hs
  | [], h => by cases h
  | (j, y) :: r, h => by
    unfold resOf at h
    split at h
    · rename_i e
      cases h
      exact ⟨true, hx k j true e, fun _ => hp, fun q => Bool.noConfusion q⟩
    · rename_i e
      exact ⟨false, hx k j false e, fun q => Bool.noConfusion q, fun _ => wLst_of hx hp h⟩
    · cases h
theorem extN_ext {w : Wd} {H H1 : Hp} (e : LamX.ExtN H H1) : Ext w H w H1 := ⟨fun _ _ h => h, fun a o h n f => ⟨e a o h n, f, Iff.rfl⟩⟩
theorem extN_st {K : PySem.W.Frag} {G : Gx} {w : Wd} {H H1 : Hp} {S : Store} (e : LamX.ExtN H H1) (t : LamX.Tabs G.tb H1) (st : RepSt K G w H S) : RepSt K G w H1 S where
  len := st.len
  nd := st.nd
  cell := fun l ds h => by
    obtain ⟨c, a, h1, h3⟩ := st.cell l ds h
    exact ⟨c, a, h1, h3.mov (fun o h hc => e _ _ h hc.nt) (extN_ext e).mov⟩
  hid := fun a m => by
    obtain ⟨⟨vs, h1, hc⟩, h2⟩ := st.hid a m
    exact ⟨⟨vs, e _ _ h1 hc.nt, hc⟩, h2⟩
  tabs := t
theorem lam_reading {X : Cx} {G : Gx} {lf : Nat} {call : Nat → List D → Store → Ev.R D} {cl : Cf} {W : WX} {w : Option Str} {hs : List (Nat × Str)} {exm : List ((Nat × Nat) × Bool)} {ex : List Nat} {ie : IE} {σ : L2.St} {H : Hp} {Q : VK}
    (hx : ∀ k j b, exm.lookup (k, j) = some b → PySem.W.exmOne X.K (.ref (G k)) (.ref (G j)) = some b) (q : tE X.K G ⟨lf, call, evE cl⟩ W (.lamF w (resAll exm hs ex) ie) σ H Q) :
    LamX.tLam G.tb (TTpre X.K G hs w) (fun E => tE X.K G cl (fun cls d _ H => E cls d H) ie) σ H Q := by
  obtain ⟨env, S, w0, R, p⟩ := q
  simp only [evE] at p
  refine ⟨R.st.tabs, fun H1 eN t1 => ?_⟩
  have e0 : Ext w0 H w0 H1 := extN_ext eN
  refine ⟨env, S, w0, R.ext e0 (extN_st eN t1 R.st), ?_⟩
  split at p
  · cases he : evE cl ie env S with
    | ok d S1 =>
      rw [he] at p
      intro v H' w' e1 st1 r1
      cases w with
      | none => exact p v H' w' (e0.trans e1) st1 r1
      | some x =>
        refine ⟨by rw [show ([V.str x, v] : List V).length = 2 from rfl, sizeLine_eq]; omega, fun a ha => ?_⟩
        exact p (.ref a) _ w' ((e0.trans e1).trans (Ext.laid ha)) (st1.laid ha) (tup_new st1 ha (.cons (.str x) (.cons r1 .nil)))
    | exc x S1 =>
      rw [he] at p
      simp only at p
      intro cls dd H' w' e1 st1 xr
      split at p
      · rename_i z hz
        split at p
        · have := p (.str z) H' w' (e0.trans e1) st1 (.str z)
          rw [xr.1]
          exact wLst_of hx this (res_of hz)
        · exact p.elim
      · exact p.elim
    | bad => rw [he] at p; exact p.elim
  · exact p.elim
theorem lam_reading_keep {X : Cx} {G : Gx} {lf : Nat} {call : Nat → List D → Store → Ev.R D} {cl : Cf} {W : WX} {hs : List (Nat × Str)} {ie : IE} {σ : L2.St} {H : Hp} {Q : VK}
    (q : tE X.K G ⟨lf, call, evE cl⟩ W (.lamK hs ie) σ H Q) : LamX.tLam G.tb (TTkeep X.K G hs) (fun E => tE X.K G cl (fun cls d _ H => E cls d H) ie) σ H Q := by
  obtain ⟨env, S, w0, R, p⟩ := q
  simp only [evE] at p
  refine ⟨R.st.tabs, fun H1 eN t1 E Q2 hE hQ => ?_⟩
  have e0 : Ext w0 H w0 H1 := extN_ext eN
  refine ⟨env, S, w0, R.ext e0 (extN_st eN t1 R.st), ?_⟩
  split at p
  · cases he : evE cl ie env S with
    | ok d S1 =>
      rw [he] at p
      simp only at p
      intro v H' w' e1 st1 r1
      split at p
      · rename_i hc
        refine hQ _ _ ⟨cutW w' [], d, cut_st st1 rfl rfl, r1.calmer (fun a z => cutW_off.mpr z) hc, hc, fun v2 H2 e2 st2 r2 => ?_⟩
        obtain ⟨e3, st3⟩ := cut_exc st1 rfl rfl e2 st2
        exact p v2 H2 w' ((e0.trans e1).trans e3) st3 (r2.calmer (fun a z => cutW_off.mp z) hc)
      · exact p.elim
    | exc x S1 =>
      rw [he] at p
      simp only at p
      intro cls dd H' w' e1 st1 xr
      split at p
      · rename_i z hz
        split at p
        · rename_i hf
          refine hE _ _ _ ⟨x.cls, z, cutW w' [], xr.1, ?_, hz, cut_st st1 rfl rfl, fun v2 H2 e2 st2 r2 => ?_⟩
          · have hf' : x.fs = [] := by simpa using hf
            have := xr.2
            rw [hf'] at this
            exact this.2
          · obtain ⟨e3, st3⟩ := cut_exc st1 rfl rfl e2 st2
            exact p v2 H2 w' ((e0.trans e1).trans e3) st3 (r2.calmer (fun a z => cutW_off.mp z) rfl)
        · exact p.elim
      · exact p.elim
    | bad => rw [he] at p; exact p.elim
  · exact p.elim
theorem lam_reading_x {X : Cx} {G : Gx} {lf : Nat} {call : Nat → List D → Store → Ev.R D} {cl : Cf} {W : WX} {w : Option Str} {hs : List (Nat × Str)} {C : Tx} {ie : IE} {σ : L2.St} {H : Hp} {Q : VK}
    (hx : ∀ k j b, C.exm.lookup (k, j) = some b → PySem.W.exmOne X.K (.ref (G k)) (.ref (G j)) = some b) (q : tE X.K G ⟨lf, call, evE cl⟩ W (lamI C (resAll C.exm hs C.ex) w hs ie) σ H Q) :
    LamX.tLam G.tb (TTx X.K G w hs) (fun E => tE X.K G cl (fun cls d _ H => E cls d H) ie) σ H Q := by
  unfold lamI at q
  unfold TTx
  by_cases hw : w = some keepS
  · rw [if_pos hw] at q ⊢
    exact lam_reading_keep q
  · rw [if_neg hw] at q ⊢
    exact lam_reading hx q
theorem pe_never {X : Cx} {e : Expr} {t : TE} (h : ∀ σ H Q, ¬ t σ H Q) : PE X e t := ⟨fun pins s σ H Q I q => (h σ H Q q).elim⟩
theorem snd_lam {lm : IE → Env' → Store → Ev.R D} {G : Gx} {T : List Fn} {lf : Nat} {C : Tx} {lv : Nat} {N : List Str} {n : Nat} {sc : Scope} {X : Cx} {W : WX} {f : Str} {fp p pos : Pos} {body : Expr} {scope : Scope} {k : Nat} {fi : FI} {ie : IE} {w : Option Str} {hs : List (Nat × Str)}
    (hlm : lf % 2 = 0 → lm = lamAt T lf lv) (ihL : lf % 2 = 0 → ∀ lv', lv = lv' + 2 → Snd (fun _ _ _ => .bad) G T (lf + 1) C lv' N n) (o : OkX G T lf C lv N sc X W) (hf : plainName f = true) (hg : isGlob sc f = true) (hk : C.gl.lookup f = some (.fn k)) (hi : C.fns[k]? = some fi) (hb : cE C N n scope body = some ie) (hgd : fi.gd = some (w, hs))
    (hl : C.lams.contains N = true) (hs' : LamX.lamSB sc scope = true) (hn : fi.name = f) : PE X (.Call (.Name f fp) [.Lambda ⟨[], [], none, [], [], none, []⟩ body scope p] [] pos) (tE X.K G ⟨lf, evF T lf lv, lm⟩ W (lamI C (resAll C.exm hs C.ex) w hs ie)) := by
  by_cases ev : lf % 2 = 0
  · have hlm := hlm ev
    match lv, hlm, ihL, o with
    | 0, hlm, _, o =>
      refine pe_never fun σ H Q ⟨env, S, w0, R, q⟩ => ?_
      unfold lamI at q
      split at q
      all_goals
        simp only [evE, hlm, lamAt] at q
        split at q <;> exact q
    | 1, hlm, _, o =>
      refine pe_never fun σ H Q ⟨env, S, w0, R, q⟩ => ?_
      unfold lamI at q
      split at q
      all_goals
        simp only [evE, hlm, lamAt] at q
        split at q <;> exact q
    | lv' + 2, hlm, ihL, o =>
      have ih := ihL ev lv' rfl
      obtain ⟨c, Pt, TB, hcode, hmT, hu⟩ := o.lam ev hl
      obtain ⟨oc, od, osl, pg, bg, sg, dV, kV, doc, pm, an, cdv, ct, a, Ng, lk, hcd, hbd, Sg, hgo, ha⟩ := o.f.gd k fi w hs hi hgd
      rw [hn] at lk hcd hbd
      have d := plain_nm hf
      have da := plain_nm ha
      have keep := (o.f.call k fi hi).1
      have hNg : Ng[0]? = some a := by
        have := Sg.pre
        cases Ng with
        | nil => simp at this
        | cons y r =>
          simp at this
          rw [this]
          rfl
      have hva : Vis sg a := (Sg.par a (by simp)).elim .inl (fun z => .inr (.inl z))
      refine (LamX.pe_lamcall (T := G.tb) (TT := TTx X.K G w hs) (t := fun E => tE X.K G ⟨lf + 1, evF T (lf + 1) lv', fun _ _ _ => .bad⟩ (fun cls d _ H => E cls d H) ie) (k := lv') (a := a) (Ng := Ng) (o.gl hg) (o.f.fn _ _ hk) keep lk hcd hbd Sg hNg hva (hn ▸ hgo X _ _ rfl rfl rfl rfl rfl (o.room)) TB hcode hmT hu o.room
        (LamX.lamS_by (by rw [o.hsc]; exact hs')) rfl (fun _ _ _ _ _ => rfl) (fun A outer s H E f c' hr => ?_) d.1 da.1 da.2.1).imp fun σ H Q q => ?_
      · exact ih.e (sc := scope) (X := LamX.lamCx X A outer s H E scope f c') ⟨o.lo ev lv' rfl, o.hN, o.nd, rfl, rfl, fun z => by omega, hr, takes_of rfl rfl rfl rfl, fun z => by omega, fun z => by omega⟩ hb
      · rw [hlm] at q
        exact lam_reading_x o.f.exm q
  · refine pe_never fun σ H Q ⟨env, S, w0, R, q⟩ => ?_
    unfold lamI at q
    split at q
    all_goals
    simp only [evE] at q
    have : (lf % 2 == 0) = false := by simp; omega
    rw [this] at q
    exact q
section
variable {lm : IE → Env' → Store → Ev.R D} {G : Gx} {T : List Fn} {lf : Nat} {C : Tx} {lv : Nat} {N : List Str} {n : Nat}
theorem tblOf_in {n k : Nat} {src : List Src} : ∀ {l : List FI} {m : Nat}, (tblOf n l m).lookup k = some src → ∃ j fi p, k = m + j ∧ l[j]? = some fi ∧ p ∈ fi.pats ∧ p.1 = n ∧ p.2.1 = [] ∧ p.2.2 = src
  | [], m, h => by simp [tblOf] at h
  | fi :: r, m, h => by
    have tail : (tblOf n r (m + 1)).lookup k = some src → ∃ j fi' p, k = m + j ∧ (fi :: r)[j]? = some fi' ∧ p ∈ fi'.pats ∧ p.1 = n ∧ p.2.1 = [] ∧ p.2.2 = src := fun h => by
      obtain ⟨j, fi', p, h1, h2, h3⟩ := tblOf_in h
      exact ⟨j + 1, fi', p, by omega, by simpa using h2, h3⟩
    unfold tblOf at h
    split at h
    · split at h
      · rename_i p hp
        rw [List.lookup_cons] at h
        split at h
        · rename_i e
          have e := eq_of_beq e
          subst e
          cases h
          have q := List.find?_some hp
          simp only [Bool.and_eq_true, beq_iff_eq, List.isEmpty_iff] at q
          exact ⟨0, fi, p, rfl, rfl, List.mem_of_find?_eq_some hp, q.1, q.2, rfl⟩
        · exact tail h
      · exact tail h
    · exact tail h
theorem tblOf_at {n k : Nat} {src : List Src} {l : List FI} (h : (tblOf n l 0).lookup k = some src) : ∃ fi p, l[k]? = some fi ∧ p ∈ fi.pats ∧ p.1 = n ∧ p.2.1 = [] ∧ p.2.2 = src := by
  obtain ⟨j, fi, p, h1, h2, h3⟩ := tblOf_in h
  refine ⟨fi, p, ?_, h3⟩
  rw [h1, Nat.zero_add]; exact h2
theorem cC_nil {sc : Scope} {n : Nat} : cC C N n sc [] = some .none := by cases n <;> rfl
theorem snd_e (hT : ∀ (k : Nat) (fi : FI) (fn : Fn), C.fns[k]? = some fi → T[k]? = some fn → fn.np = fi.ps.length) (hlm : lf % 2 = 0 → lm = lamAt T lf lv) (ihL : lf % 2 = 0 → ∀ lv', lv = lv' + 2 → Snd (fun _ _ _ => .bad) G T (lf + 1) C lv' N n) (ih : Snd lm G T lf C lv N n) {sc : Scope} {X : Cx} {W : WX} {e : Expr} {i : IE} (o : OkX G T lf C lv N sc X W) (h : cE C N (n + 1) sc e = some i) :
    PE X e (tE X.K G ⟨lf, evF T lf lv, lm⟩ W i) := by
  have hN := o.hN
  have hu : X.A.units + 65 < cLine := by have := o.units; omega
  cases e with
  | Constant c j pos =>
    cases c with
    | int k => simp only [cE] at h; cases h; exact pe_cst _ _ _ pe_int (fun w H => .int _)
    | bool k => simp only [cE] at h; cases h; exact pe_cst _ _ _ pe_bl (fun w H => .bl _)
    | none => simp only [cE] at h; cases h; exact pe_cst _ _ _ pe_non (fun w H => .non)
    | str k => simp only [cE] at h; cases h; exact pe_cst _ _ _ pe_str (fun w H => .str _)
    | _ => simp [cE] at h
  | Name x pos =>
    simp only [cE] at h
    split at h
    · rename_i hp
      obtain ⟨d1, d2, d3⟩ := plain_nm hp
      split at h
      · rename_i hv
        cases h2 : idx x N 0 with
        | none => rw [h2] at h; cases h
        | some j =>
          rw [h2] at h
          cases h
          exact pe_v (by rw [hN]; exact idx_at h2) (by rw [o.hsc]; exact vis_of hv) d1 d2
      · split at h
        · rename_i hg
          have hg' := o.gl hg
          split at h
          · rename_i k hk
            cases h
            exact pe_cst _ _ _ (pe_glob (v := V.ref (G k)) hg' (o.f.fn _ _ hk) rfl d1) (fun w H => .gl k)
          · rename_i k hk
            cases h
            exact pe_cst _ _ _ (pe_glob (v := V.ref (G k)) hg' (o.f.cls _ _ hk) rfl d1) (fun w H => .gl k)
          · rename_i d hk
            cases h
            obtain ⟨u, v, m1, m2, m3⟩ := o.f.cst _ _ hk
            exact pe_cst _ _ _ (pe_glob hg' m1 m2 d1) m3
          · cases h
          · cases h
          · split at h
            · rename_i hb
              cases ht : tyNm x with
              | none => rw [ht] at h; cases h
              | some t =>
                rw [ht] at h
                cases h
                exact pe_cst _ _ _ (pe_bltn (v := V.ty t) hg' (o.f.bl _ hb) (boot_ty ht) rfl d3 d1) (fun w H => .ty t)
            · cases h
        · cases h
    · cases h
  | BinOp a op b pos =>
    simp only [cE] at h
    split at h
    · rename_i h1 h2
      split at h
      · rename_i hq
        rw [Bool.and_eq_true] at hq
        have eo := op_add_of hq.1
        subst eo
        cases h
        exact pe_cat1 (ih.e o h1) (ih.e o h2)
      · cases h; exact pe_bin (ih.e o h1) (ih.e o h2)
    · cases h
  | UnaryOp op a pos =>
    cases op with
    | USub =>
      simp only [cE] at h
      cases h2 : cE C N n sc a with
      | none => rw [h2] at h; cases h
      | some x => rw [h2] at h; cases h; exact pe_neg1 (ih.e o h2)
    | Not =>
      simp only [cE] at h
      cases h2 : cE C N n sc a with
      | none => rw [h2] at h; cases h
      | some x => rw [h2] at h; cases h; exact pe_nott (ih.e o h2)
    | _ => simp [cE] at h
  | BoolOp op es pos =>
    cases es with
    | nil => cases op <;> simp [cE] at h
    | cons a r =>
      cases r with
      | nil => cases op <;> (simp only [cE] at h; exact pe_one (ih.e o h))
      | cons b r =>
        cases op with
        | And =>
          simp only [cE] at h
          split at h
          · rename_i h1 h2; cases h; exact pe_and2 (ih.e o h1) (ih.e o h2)
          · cases h
        | Or =>
          simp only [cE] at h
          split at h
          · rename_i h1 h2; cases h; exact pe_or2 (ih.e o h1) (ih.e o h2)
          · cases h
  | Compare a ops bs pos =>
    match ops, bs, h with
    | [op], [b], h =>
      simp only [cE] at h
      split at h
      · rename_i h1 h2; cases h
        exact pe_cmp1 hu (ih.e o h1) (ih.e o h2) (marks_of (cE_plain h2))
      · cases h
    | [op, op'], [b, d], h =>
      simp only [cE] at h
      split at h
      · rename_i h1 h2 h3; cases h
        exact pe_chain1 hu (ih.e o h1) (ih.e o h2) (ih.e o h3) (marks_of (cE_plain h3))
      · cases h
    | [], _, h => simp [cE] at h
    | [_], [], h => simp [cE] at h
    | [_], _ :: _ :: _, h => simp [cE] at h
    | [_, _], [], h => simp [cE] at h
    | [_, _], [_], h => simp [cE] at h
    | [_, _], _ :: _ :: _ :: _, h => simp [cE] at h
    | _ :: _ :: _ :: _, _, h => simp [cE] at h
  | IfExp t a b pos =>
    simp only [cE] at h
    split at h
    · rename_i h1 h2 h3; cases h; exact pe_ite (ih.t o h1) (ih.e o h2) (ih.e o h3)
    · cases h
  | Tuple es k pos =>
    simp only [cE] at h
    split at h
    · cases h2 : cEs C N n sc es with
      | none => rw [h2] at h; cases h
      | some x => rw [h2] at h; cases h; exact pe_tup1 (ih.es o h2)
    · split at h
      · rename_i hp
        rw [Option.map_eq_some_iff] at h
        obtain ⟨is, h2, rfl⟩ := h
        exact pe_tupS1 (fun e i he => ih.e o he) h2 hp
      · cases h
  | List es pos =>
    simp only [cE] at h
    cases h2 : cEs C N n sc es with
    | none => rw [h2] at h; cases h
    | some x => rw [h2] at h; cases h; exact pe_lst1 (ih.es o h2)
  | Subscript a b pos =>
    cases b with
    | Slice lo hi st p2 =>
      cases st with
      | none =>
        simp only [cE] at h
        split at h
        · rename_i h1 h2 h3; cases h; exact pe_sl1 (ih.e o h1) (ih.o o h2) (ih.o o h3)
        · cases h
      | some z =>
        simp only [cE] at h
        split at h
        · rename_i h1 h2 h3 h4; cases h; exact pe_sl31 (ih.e o h1) (ih.o o h2) (ih.o o h3) (po_some1 (ih.e o h4))
        · cases h
    | _ =>
      simp only [cE] at h
      split at h
      · rename_i kvs ht
        split at h
        · rename_i h0 h2; cases h; exact pe_tget1 o ht (ih.e o h2) (pix_of h0)
        · cases h
      · split at h
        · rename_i h0 h1 h2; cases h; exact pe_ix1 (by have := o.units; omega) (ih.e o h1) (ih.e o h2) (pix_of h0)
        · cases h
  | Call f es kws pos =>
    cases f with
    | Attribute ob m ap =>
      cases kws with
      | cons _ _ => simp [cE] at h
      | nil =>
        simp only [cE] at h
        split at h
        · rename_i hc
          simp only [Bool.and_eq_true, decide_eq_true_eq] at hc
          split at h
          · rename_i hm
            have em := eq_of_beq hm
            subst em
            split at h
            · rename_i k
              split at h
              · rename_i h0 h1 h2
                cases h
                exact pe_dgt1 (by have := o.units; omega) (ih.e o h1) (ih.e o h2) hc.1.1 hc.1.2 h0
              · cases h
            · rename_i k d
              split at h
              · rename_i kvs ht
                split at h
                · rename_i h0 h1 h2
                  cases h
                  rw [Bool.and_eq_true] at h0
                  exact pe_tgetI1 o ht (ih.e o h1) (ih.e o h2) hc.1.1 hc.1.2 h0.1 h0.2
                · cases h
              · split at h
                · rename_i h0 h1 h2 h3
                  cases h
                  rw [Bool.and_eq_true] at h0
                  exact pe_dgt2 (by have := o.units; omega) (ih.e o h1) (ih.e o h2) (ih.e o h3) hc.1.1 hc.1.2 h0.1 h0.2
                · cases h
            · cases h
          split at h
          · rename_i h1 h2 h3
            cases h
            exact pe_me (by have := o.units; omega) h3 (ih.e o h1) (ih.es o h2) hc.1.1 hc.1.2 hc.2 (cEs_len h2).2 (cEs_len h2).1
          · rename_i h1 h2 h3
            cases h
            have el := (cEs_len h2).1
            obtain rfl : es = [] := List.length_eq_zero_iff.mp (by rw [← el]; rfl)
            exact pe_stop (ih.e o h1) hc.1.1 hc.1.2
          · cases h
        · cases h
    | Name f fp =>
      simp only [cE] at h
      split at h
      · rename_i hc
        simp only [Bool.and_eq_true] at hc
        obtain ⟨d1, d2, d3⟩ := plain_nm hc.1
        have hg' := o.gl hc.2
        cases hla : lamArg es kws with
        | some bs =>
          obtain ⟨body, scope⟩ := bs
          obtain ⟨lp, rfl, rfl⟩ := lamArg_of hla
          rw [hla] at h
          simp only at h
          split at h
          · rename_i k hk
            split at h
            · rename_i fi ie h1 h2
              split at h
              · rename_i w hs h3
                split at h
                · rename_i h4
                  simp only [Bool.and_eq_true, beq_iff_eq] at h4
                  cases h
                  exact snd_lam hlm ihL o hc.1 hc.2 hk h1 h2 h3 h4.1 h4.2.1 h4.2.2
                · cases h
              · cases h
            · cases h
          · cases h
        | none =>
        rw [hla] at h
        simp only at h
        split at h
        · rename_i k hk
          split at h
          · rename_i h1 h2 h3 h4
            split at h
            · rename_i p hp
              split at h
              · rename_i hne
                cases h
                have hp' := List.find?_some hp
                have hmem := List.mem_of_find?_eq_some hp
                simp only [Bool.and_eq_true, beq_iff_eq] at hp'
                obtain ⟨kk, fd, _, F, hb⟩ := o.f.call _ _ h1
                have b := hb p hmem
                refine pe_call1 (n := p.1) F (fun fn hf => hT _ _ fn h1 hf) o.room o.gu hg' (o.f.fn _ _ hk) kk b o.tk (ih.es o h3) (ih.ks o h4) (cEs_len h3).2 (by rw [hp'.2]; exact h2) hp'.1.symm (by rw [(cEs_len h3).1, hp'.1]) (by rw [(cEs_len h4).1, hp'.2, kwNames_len h2, List.length_map]) ?_ d1
                intro e0
                subst e0
                simpa using hne
              · cases h
            · cases h
          · cases h
        · cases h
        · rename_i hk
          cases kws with
          | cons _ _ => cases h
          | nil =>
            simp only at h
            split at h
            · rename_i hb
              split at h
              · rename_i a hla
                obtain ⟨ia, h3, e3⟩ := Option.map_eq_some_iff.mp h
                subst e3
                unfold lrgA at hla
                split at hla
                · split at hla
                  · rename_i hx
                    cases hla
                    simp only [Bool.and_eq_true, beq_iff_eq, Option.isNone_iff_eq_none] at hx
                    obtain ⟨e0, e1, hv, hn, hb2⟩ := hx
                    subst e0; subst e1
                    exact pe_lrg1 o.calm hg' (o.f.bl _ hb) (o.gl hv) (o.f.bl _ hb2) (ih.e o h3) (cE_plain h3)
                  · cases hla
                · cases hla
              split at h
              · rename_i b is h1 h2
                split at h
                · rename_i x hx
                  cases h
                  simp only [Bool.and_eq_true] at hx
                  have e0 := eq_of_beq hx.1
                  subst e0
                  have hl := (cEs_len h2).1
                  match es, hl with
                  | [e], _ =>
                    have hpl := (cEs_len h2).2
                    simp only [List.all_cons, Bool.and_eq_true] at hpl
                    exact pe_newL1 hg' (o.f.bl _ hb) (by rfl) (ih.es o h2) d3 d1 hpl.1
                  | [], hl => simp [IEs.len] at hl
                  | _ :: _ :: _, hl => simp [IEs.len] at hl
                · cases h
                  cases es with
                  | nil => simp [biOf] at h1
                  | cons e es => exact pe_bi o.calm o.gu o.units hg' (o.f.bl _ hb) (boot_bi h1) (ih.es o h2) d3 d1 (cEs_len h2).2
              · split at h
                · rename_i hf
                  have ef := eq_of_beq hf
                  subst ef
                  split at h
                  · rename_i a
                    obtain ⟨ia, h3, e3⟩ := Option.map_eq_some_iff.mp h
                    subst e3
                    exact pe_rngV1 hg' (o.f.bl _ hb) (ih.e o h3) (cE_plain h3)
                  · cases h
                · cases h
            · cases h
      · split at h
        · rename_i hc
          simp only [Bool.and_eq_true, Bool.not_eq_true', List.isEmpty_iff] at hc
          obtain ⟨hp, hv, e0, hne⟩ := hc
          subst e0
          obtain ⟨d1, d2, d3⟩ := plain_nm hp
          split at h
          · rename_i i is h1 h2
            cases h
            cases es with
            | nil => simp at hne
            | cons e es =>
              refine pe_callL1 (n := (e :: es).length) (fun k src hk => ?_) o.room o.gu (by rw [hN]; exact idx_at h1) (by rw [o.hsc]; exact vis_of hv) o.tk (ih.es o h2) (cEs_len h2).2 (cEs_len h2).1 d1 d2
              obtain ⟨fi, p, g1, g2, g3, g4, g5⟩ := tblOf_at hk
              obtain ⟨kk, fd, _, F, hb⟩ := o.f.call _ _ g1
              have b := hb p g2
              rw [g3, g4, g5] at b
              exact ⟨kk, fd, _, F, fun fn hf => hT _ _ fn g1 hf, b⟩
          · cases h
        · cases h
    | _ => simp [cE] at h
  | Dict keys vals pos =>
    simp only [cE] at h
    split at h
    · split at h
      · rename_i hc
        simp only [Bool.and_eq_true, List.isEmpty_iff] at hc
        obtain ⟨rfl, rfl⟩ := hc
        cases h
        exact pe_dnew1
      split at h
      · rename_i k v hd
        split at h
        · rename_i h1 h2
          cases h
          obtain ⟨rfl, rfl⟩ := isD1_of hd
          exact pe_dsp1N (by have := o.units; omega) (ih.e o h1) (ih.e o h2)
        · cases h
      split at h
      · rename_i ks is h1 h2
        split at h
        · rename_i hc
          simp only [Bool.and_eq_true, decide_eq_true_eq, Bool.not_eq_true', List.isEmpty_eq_false_iff] at hc
          cases h
          exact pe_dsp1 (fun e i he => ih.e o he) hc.1 hc.2.1 hc.2.2 h1 h2
        · cases h
      · cases h
    · split at h
      · rename_i hc
        simp only [Bool.and_eq_true, decide_eq_true_eq] at hc
        cases h
        exact pe_dct1 hc.1 hc.2
      · cases h
  | DictComp kx vx gens scope pos =>
    cases gens with
    | nil => simp [cE] at h
    | cons gen r =>
      cases r with
      | cons _ _ => simp [cE] at h
      | nil =>
        obtain ⟨tg, iter, ifs, k⟩ := gen
        by_cases hk : k = 0
        · subst hk
          simp only [cE] at h
          split at h
          · rename_i g hg
            split at h
            · rename_i own ho
              split at h
              · rename_i hc
                simp only [Bool.and_eq_true] at hc
                split at h
                · rename_i it c x y h1 h2 h3 h4
                  cases h
                  have hm := own2_map ho
                  exact (EvZc.pe_dct (by have := o.units; omega) o.calm (by rw [hN]; exact hN ▸ o.nd) (ih.i o h1) (by rw [hN, o.hsc]; exact blkOk_by hc.2.1) (fun s H D' cl fp => (snd_G (X := X.blk s H scope (compEnvC scope cl D' X.env) fp) (G := G) o.nd o.calm (fun x hx => blk_loc hx) n).1 tg g (by show cG X.N _ _ _ = _; rw [hN]; exact hg)) (fun s H D' cl fp => ih.c (o.blk s H scope cl D' fp) h2) (fun s H D' cl fp => ih.e (o.blk s H scope cl D' fp) h3) (fun s H D' cl fp => ih.e (o.blk s H scope cl D' fp) h4) (plain_fold hc.2.2.1)).imp fun σ H Q q => dct_reading hm q
                · cases h
              · cases h
            · cases h
          · cases h
        · exfalso
          unfold cE at h
          split at h
          all_goals (first | (cases h; done) | simp_all)
  | ListComp elt gens scope pos =>
    cases gens with
    | nil => simp [cE] at h
    | cons gen r =>
      cases r with
      | cons _ _ => simp [cE] at h
      | nil =>
        obtain ⟨tg, iter, ifs, k⟩ := gen
        by_cases hk : k = 0
        · subst hk
          simp only [cE] at h
          split at h
          · rename_i g hg
            split at h
            · rename_i own ho
              split at h
              · rename_i hc
                simp only [Bool.and_eq_true] at hc
                split at h
                · rename_i it c x h1 h2 h3
                  cases h
                  have hm := own2_map ho
                  refine (pe_lc o.calm (by rw [hN]; exact hN ▸ o.nd) (ih.i o h1) (by rw [hN, o.hsc]; exact blkOk_by hc.1) (fun s H D' cl fp => (snd_G (X := X.blk s H scope (compEnvC scope cl D' X.env) fp) (G := G) o.nd o.calm (fun x hx => blk_loc hx) n).1 tg g (by show cG X.N _ _ _ = _; rw [hN]; exact hg)) (fun s H D' cl fp => ih.c (o.blk s H scope cl D' fp) h2) (fun s H D' cl fp => ih.e (o.blk s H scope cl D' fp) h3) (plain_fold hc.2)).imp fun σ H Q q => lc_reading hm q
                · cases h
              · cases h
            · cases h
          · cases h
        · exfalso
          unfold cE at h
          split at h
          all_goals (first | (cases h; done) | simp_all)
  | _ => simp [cE] at h
theorem isTrue_of {e : Expr} (h : match e with | .UnaryOp .Not _ _ => false | .BoolOp _ _ _ => false | .IfExp _ _ _ _ => false | .Compare _ _ _ _ => false | _ => true) {env : Env} : ∀ whole, isTrue e env whole = (do let v ← whole; standAt e.pos; holding [v] (truthy v)) := by
  intro whole
  cases e with
  | UnaryOp op a p => cases op <;> first | rfl | (simp at h; done)
  | BoolOp _ _ _ => simp at h
  | IfExp _ _ _ _ => simp at h
  | Compare _ _ _ _ => simp at h
  | _ => rfl
theorem cT_plain {n : Nat} {sc : Scope} {e : Expr} (h : match e with | .UnaryOp .Not _ _ => false | .BoolOp _ _ _ => false | .IfExp _ _ _ _ => false | .Compare _ _ _ _ => false | _ => true) : cT C N (n + 1) sc e = cE C N n sc e := by
  cases e with
  | UnaryOp op a p => cases op <;> first | rfl | (simp at h; done)
  | BoolOp _ _ _ => simp at h
  | IfExp _ _ _ _ => simp at h
  | Compare _ _ _ _ => simp at h
  | _ => rfl
theorem snd_w (ih : Snd lm G T lf C lv N n) {sc : Scope} {X : Cx} {W : WX} {op : BoolOp} {es : List Expr} {pos : Pos} {i : IE} (o : OkX G T lf C lv N sc X W) (h : cT C N (n + 1) sc (.BoolOp op es pos) = some i) :
    PW X (.BoolOp op es pos) (tTt X.K G ⟨lf, evF T lf lv, lm⟩ W i) := by
  cases es with
  | nil => cases op <;> (simp only [cT] at h; cases n <;> simp [cE] at h)
  | cons a r =>
    cases r with
    | nil => cases op with
      | And => simp only [cT] at h; exact pw_and1 (ih.t o h)
      | Or => simp only [cT] at h; exact pw_or1 (ih.t o h)
    | cons b r =>
      cases op with
      | And =>
        simp only [cT] at h
        split at h
        · rename_i h1 h2; cases h; exact pw_and2 (ih.t o h1) (ih.w o h2)
        · cases h
      | Or =>
        simp only [cT] at h
        split at h
        · rename_i h1 h2; cases h; exact pw_or2 (ih.t o h1) (ih.w o h2)
        · cases h
theorem snd_t (ih : Snd lm G T lf C lv N n) {sc : Scope} {X : Cx} {W : WX} {e : Expr} {i : IE} (o : OkX G T lf C lv N sc X W) (h : cT C N (n + 1) sc e = some i) :
    PT X e (tTt X.K G ⟨lf, evF T lf lv, lm⟩ W i) := by
  have hu : X.A.units + 65 < cLine := by have := o.units; omega
  cases e with
  | UnaryOp op a pos =>
    cases op with
    | Not =>
      simp only [cT] at h
      cases h2 : cT C N n sc a with
      | none => rw [h2] at h; cases h
      | some x => rw [h2] at h; cases h; exact pt_nott (ih.t o h2)
    | _ =>
      rw [cT_plain (by rfl)] at h
      exact pt_plain (ih.e o h) (isTrue_of (by rfl))
  | BoolOp op es pos => exact (snd_w ih o h).pt
  | IfExp _ _ _ _ => simp [cT] at h
  | Compare a ops bs pos =>
    match ops, bs, h with
    | [op], [b], h =>
      simp only [cT] at h
      split at h
      · rename_i h1 h2; cases h
        exact pt_cmp1 hu (ih.e o h1) (ih.e o h2) (marks_of (cE_plain h2))
      · cases h
    | [op, op'], [b, d], h =>
      simp only [cT] at h
      split at h
      · rename_i h1 h2 h3; cases h
        exact pt_chain1 hu (ih.e o h1) (ih.e o h2) (ih.e o h3) (marks_of (cE_plain h3))
      · cases h
    | [], _, h => simp [cT] at h
    | [_], [], h => simp [cT] at h
    | [_], _ :: _ :: _, h => simp [cT] at h
    | [_, _], [], h => simp [cT] at h
    | [_, _], [_], h => simp [cT] at h
    | [_, _], _ :: _ :: _ :: _, h => simp [cT] at h
    | _ :: _ :: _ :: _, _, h => simp [cT] at h
  | _ =>
    rw [cT_plain (by rfl)] at h
    exact pt_plain (ih.e o h) (isTrue_of (by rfl))
theorem snd_es (ih : Snd lm G T lf C lv N n) {sc : Scope} {X : Cx} {W : WX} {es : List Expr} {is : IEs} (o : OkX G T lf C lv N sc X W) (h : cEs C N (n + 1) sc es = some is) : PA X es (tEs X.K G ⟨lf, evF T lf lv, lm⟩ W is) := by
  cases es with
  | nil => simp only [cEs] at h; cases h; exact pa_nil1
  | cons e r =>
    simp only [cEs] at h
    split at h
    · rename_i h1 h2; cases h; exact pa_cons1 (ih.e o h1) (ih.es o h2) (star_cons (cE_plain h1))
    · cases h
theorem snd_ks (ih : Snd lm G T lf C lv N n) {sc : Scope} {X : Cx} {W : WX} {kws : List Keyword} {is : IEs} (o : OkX G T lf C lv N sc X W) (h : cEs C N (n + 1) sc (kws.map (·.value)) = some is) : PK X kws (tEs X.K G ⟨lf, evF T lf lv, lm⟩ W is) := by
  cases kws with
  | nil => simp only [List.map_nil, cEs] at h; cases h; exact pk_nil1
  | cons e r =>
    obtain ⟨nm, e, kp⟩ := e
    simp only [List.map_cons, cEs] at h
    split at h
    · rename_i h1 h2; cases h; exact pk_cons1 (ih.e o h1) (ih.ks o h2)
    · cases h
theorem snd_o (ih : Snd lm G T lf C lv N n) {sc : Scope} {X : Cx} {W : WX} {e : Option Expr} {i : IO} (o : OkX G T lf C lv N sc X W) (h : cO C N (n + 1) sc e = some i) : PO X e (tOo X.K G ⟨lf, evF T lf lv, lm⟩ W i) := by
  cases e with
  | none => simp only [cO] at h; cases h; exact po_none1
  | some e =>
    simp only [cO] at h
    cases h2 : cE C N n sc e with
    | none => rw [h2] at h; cases h
    | some x => rw [h2] at h; cases h; exact po_some1 (ih.e o h2)
theorem snd_c (ih : Snd lm G T lf C lv N n) {sc : Scope} {X : Cx} {W : WX} {es : List Expr} {i : IO} (o : OkX G T lf C lv N sc X W) (h : cC C N (n + 1) sc es = some i) : PTs X es (tCc X.K G ⟨lf, evF T lf lv, lm⟩ W i) := by
  cases es with
  | nil => simp only [cC] at h; cases h; exact pts_none1
  | cons e r =>
    cases r with
    | nil =>
      simp only [cC] at h
      cases h2 : cT C N n sc e with
      | none => rw [h2] at h; cases h
      | some x => rw [h2] at h; cases h; exact pts_some1 (ih.t o h2)
    | cons _ _ => simp [cC] at h
theorem zero_int {X : Cx} {W : WX} {p : Pos} {j : Nat} {cf : Cf} : True := trivial
theorem snd_i (ih : Snd lm G T lf C lv N n) {sc : Scope} {X : Cx} {W : WX} {tg e : Expr} {i : II} (o : OkX G T lf C lv N sc X W) (h : cI C N (n + 1) sc (isTupE tg) e = some i) : PI X tg e (tI X.K G ⟨lf, evF T lf lv, lm⟩ W i) := by
  have plain : ∀ {e : Expr} {i : II}, (cE C N n sc e).map .seq = some i → PI X tg e (tI X.K G ⟨lf, evF T lf lv, lm⟩ W i) := by
    intro e i h
    cases h2 : cE C N n sc e with
    | none => rw [h2] at h; cases h
    | some x => rw [h2] at h; cases h; exact pi_seq1 (ih.e o h2)
  cases e with
  | Call f es kws p =>
    cases f with
    | Name f q =>
      cases kws with
      | cons _ _ => simp only [cI] at h; exact plain h
      | nil =>
        simp only [cI] at h
        split at h
        · rename_i hc
          simp only [Bool.and_eq_true] at hc
          have hg := o.gl hc.1.1
          have hm := o.f.bl _ hc.2
          split at h
          · rename_i hr
            have e0 := eq_of_beq hr
            subst e0
            match es, h with
            | [], h => cases h
            | [a], h =>
              simp only at h
              cases h2 : cE C N n sc a with
              | none => rw [h2] at h; cases h
              | some x => rw [h2] at h; cases h; exact pi_rng1 hg hm (ih.e o h2) (cE_plain h2)
            | [a, b], h =>
              simp only at h
              split at h
              · rename_i h1 h2; cases h; exact pi_rng2 hg hm (ih.e o h1) (ih.e o h2) (cE_plain h1) (cE_plain h2)
              · cases h
            | _ :: _ :: _ :: _, h => cases h
          · split at h
            · rename_i hr
              have e0 := eq_of_beq hr
              subst e0
              split at h
              · split at h
                · rename_i hc2
                  simp only [Bool.and_eq_true] at hc2
                  have e1 := eq_of_beq hc2.1.1
                  subst e1
                  cases h2 : cE C N n sc _ with
                  | none => rw [h2] at h; cases h
                  | some x => rw [h2] at h; cases h; exact pi_rev1 hg hm (o.gl hc2.1.2) (o.f.bl _ hc2.2) (ih.e o h2) (cE_plain h2)
                · cases h
              · split at h
                · rename_i hc2
                  simp only [Bool.and_eq_true] at hc2
                  have e1 := eq_of_beq hc2.1.1
                  subst e1
                  split at h
                  · rename_i h1 h2; cases h; exact pi_rev2 hg hm (o.gl hc2.1.2) (o.f.bl _ hc2.2) (ih.e o h1) (ih.e o h2) (cE_plain h1) (cE_plain h2)
                  · cases h
                · cases h
              · cases h
            · split at h
              · rename_i hr
                simp only [Bool.and_eq_true] at hr
                have e0 := eq_of_beq hr.1
                subst e0
                have ht : ∃ elts kk tpos, tg = .Tuple elts kk tpos := by
                  cases tg <;> first
                    | exact ⟨_, _, _, rfl⟩
                    | (simp [isTupE] at hr; done)
                obtain ⟨elts, kk, tpos, rfl⟩ := ht
                split at h
                · rw [Option.map_eq_some_iff] at h
                  obtain ⟨x, h1, rfl⟩ := h
                  exact pi_enum1 hg hm (ih.e o h1) (cE_plain h1)
                · cases h
              · split at h
                · rename_i hr
                  simp only [Bool.and_eq_true] at hr
                  have e0 := eq_of_beq hr.1
                  subst e0
                  have ht : ∃ elts kk tpos, tg = .Tuple elts kk tpos := by
                    cases tg <;> first
                      | exact ⟨_, _, _, rfl⟩
                      | (simp [isTupE] at hr; done)
                  obtain ⟨elts, kk, tpos, rfl⟩ := ht
                  split at h
                  · split at h
                    · rename_i h1 h2; cases h; exact pi_zip1 hg hm (ih.e o h1) (ih.e o h2) (cE_plain h1) (cE_plain h2)
                    · cases h
                  · cases h
                · exact plain h
        · exact plain h
    | _ => simp only [cI] at h; exact plain h
  | _ => simp only [cI] at h; exact plain h
theorem snd (hT : ∀ (k : Nat) (fi : FI) (fn : Fn), C.fns[k]? = some fi → T[k]? = some fn → fn.np = fi.ps.length) : ∀ (n : Nat) {lf lv : Nat} {lm : IE → Env' → Store → Ev.R D}, (lf % 2 = 0 → lm = lamAt T lf lv) → Snd lm G T lf C lv N n
  | 0, lf, lv, lm, hlm => {
    e := fun o h => by simp [cE] at h
    t := fun o h => by simp [cT] at h
    w := fun o h => by simp [cT] at h
    es := fun {sc X W es is} o h => by
      cases es with
      | nil => simp only [cEs] at h; cases h; exact pa_nil1
      | cons _ _ => simp [cEs] at h
    ks := fun {sc X W kws is} o h => by
      cases kws with
      | nil => simp only [List.map_nil, cEs] at h; cases h; exact pk_nil1
      | cons _ _ => simp [cEs] at h
    o := fun {sc X W e i} o h => by
      cases e with
      | none => simp only [cO] at h; cases h; exact po_none1
      | some _ => simp [cO] at h
    c := fun {sc X W es i} o h => by
      cases es with
      | nil => simp only [cC] at h; cases h; exact pts_none1
      | cons _ _ => simp [cC] at h
    i := fun o h => by simp [cI] at h }
  | n + 1, lf, lv, lm, hlm => let ih := snd hT n hlm
    { e := fun o h => snd_e hT hlm (fun ev lv' _ => snd hT n (fun z => by omega)) ih o h
      t := fun o h => snd_t ih o h
      w := fun o h => snd_w ih o h
      es := fun o h => snd_es ih o h
      ks := fun o h => snd_ks ih o h
      o := fun o h => snd_o ih o h
      c := fun o h => snd_c ih o h
      i := fun o h => snd_i ih o h }
end
end Ev
/-! Ev, part K: from the text's statements to ours; defs. -/
namespace Ev
open PySem PySem.Spec PyProof.Rows L2
/-- swappedStores within a def, by the scope -/
def swC (sc : Scope) (ts vs : List Expr) : Option (Option (List Str)) :=
  if !(ts.length == 2 || ts.length == 3) || vs.length != ts.length || ScopeKind.function != .function then some none
  else if vs.any fun | .Starred .. => true | _ => false then some none
  else
    let line := (ts.head?.map (·.pos.line)).getD 0
    let names := ts.filterMap fun
      | .Name id pos => if sc.names.lookup id == some .local && pos.line == line then some id else none
      | _ => none
    if names.length != ts.length || names.eraseDups.length != names.length then some none
    else if vs.all (foldedForSure 8) then some none
    else if vs.all (constantsAlone 8) then none
    else some (some names)
theorem swC_ok {sc : Scope} {ts vs : List Expr} {r : Option (List Str)} {env : Env} {k k2 : Nat} {p p2 : Pos} (h : swC sc ts vs = some r) (hs : env.scope = sc) (hk : sc.kind = .function) : swappedStores [.Tuple ts k p] (.Tuple vs k2 p2) env = pure r := by
  have hb : env.blockKind = .function := by unfold Env.blockKind; rw [hs, hk]; rfl
  have hf : ∀ id, env.kindOf id = sc.names.lookup id := by intro id; unfold Env.kindOf; rw [hs]
  unfold swC at h
  unfold swappedStores
  simp only [hb, hf]
  split at h
  · rename_i c; cases h; exact if_pos c
  · rename_i c
    refine Eq.trans (if_neg c) ?_
    split at h
    · rename_i c2; cases h; exact if_pos c2
    · rename_i c2
      refine Eq.trans (if_neg c2) ?_
      simp only at h
      split at h
      · rename_i c3; cases h; exact if_pos c3
      · rename_i c3
        refine Eq.trans (if_neg c3) ?_
        split at h
        · rename_i c4; cases h; exact if_pos c4
        · rename_i c4
          refine Eq.trans (if_neg c4) ?_
          split at h
          · cases h
          · rename_i c5
            cases h
            refine Eq.trans (if_neg c5) ?_
            rfl
/-- name = [comprehension] on one line -/
def setOk (sc : Scope) (x : Str) (px : Pos) : Expr → Bool
  | .ListComp _ _ scope pos => (px.line == pos.line) && ((sc.names.lookup x == some .local) && !(scope.names.any fun (n, k) => n == x && (k == .local || k == .cell)))
  | _ => false
def isLC : Expr → Bool
  | .ListComp _ _ _ _ => true
  | _ => false
def parOk (N : List Str) (sc : Scope) : List Expr → Option (List Nat)
  | [] => some []
  | .Name x _ :: r => match decide (sc.names.lookup x = some .local), idx x N 0, parOk N sc r with
    | true, some i, some is => if is.contains i then none else some (i :: is)
    | _, _, _ => none
  | _ => none
def exprOf : Expr → List Expr
  | .Tuple es _ _ => es
  | _ => []
def isTup : Expr → Bool
  | .Tuple _ _ _ => true
  | _ => false
def starOf : List Expr → Option (List Expr × Expr × Pos)
  | [] => none
  | e :: r => match e, r with
    | .Starred t p, [] => some ([], t, p)
    | e, r => (starOf r).map fun q => (e :: q.1, q.2)
theorem starOf_eq : ∀ {ts es : List Expr} {t : Expr} {p : Pos}, starOf ts = some (es, t, p) → ts = es ++ [.Starred t p]
  | [], _, _, _, h => by cases h
  | e :: r, es, t, p, h => by
    unfold starOf at h
    split at h
    · cases h; rfl
    · rw [Option.map_eq_some_iff] at h
      obtain ⟨⟨es', t', p'⟩, h1, h2⟩ := h
      cases h2
      rw [starOf_eq h1]
      rfl
def cAsg (C : Tx) (N : List Str) (sc : Scope) (n : Nat) (tg e : Expr) : IS :=
  match tg with
  | .Name x px => match isLocal sc x, idx x N 0, cE C N n sc e with
    | true, some i, some ie => if noComp e || isLC e then .asg (.nm i) ie else .bad
    | _, _, _ => .bad
  | .Subscript o i _ => match noComp e && plainE i, cE C N n sc e, cE C N n sc o, cE C N n sc i with
    | true, some ie, some io, some ii => .setIx io ii ie
    | _, _, _, _ => .bad
  | .Tuple ts k p => match starOf ts with
    | some (es, tl, _) => (match noComp e && !isTup e, cGs N sc n (es ++ [tl]), cE C N n sc e with
      | true, some gs, some ie => .star gs es.length ie
      | _, _, _ => .bad)
    | none => if isTup e then match swC sc ts (exprOf e) with
      | some none => match cG N sc n (.Tuple ts k p), cE C N n sc e with
        | some g, some ie => .asg g ie
        | _, _ => .bad
      | some (some ns) => match parOk N sc ts, cEs C N n sc (exprOf e) with
        | some is, some ies => if (ts.length == 2 || ts.length == 3) && (exprOf e).length == ts.length && decide (is.map (fun i => N[i]?) = ns.map some) then .par is ies else .bad
        | _, _ => .bad
      | none => .bad
    else match noComp e || isLC e, cG N sc n (.Tuple ts k p), cE C N n sc e with
      | true, some g, some ie => .asg g ie
      | _, _, _ => .bad
  | _ => .bad
/-- the errors that a clause keeps, with what they answer -/
def keepT (exm : List ((Nat × Nat) × Bool)) (j : Nat) : List (Nat × List ((Nat ⊕ String) × Bool)) → List (Nat × List ((Nat ⊕ String) × Bool))
  | [] => []
  | p :: r => match exm.lookup (p.1, j) with
    | some true => p :: keepT exm j r
    | _ => keepT exm j r
theorem keepT_ok {exm : List ((Nat × Nat) × Bool)} {j k : Nat} {as : List ((Nat ⊕ String) × Bool)} : ∀ {l : List (Nat × List ((Nat ⊕ String) × Bool))}, (keepT exm j l).lookup k = some as → l.lookup k = some as ∧ exm.lookup (k, j) = some true
  | [], h => by cases h
  | p :: r, h => by
    unfold keepT at h
    split at h
    · rename_i he
      rw [List.lookup_cons] at h ⊢
      cases hk : (k == p.1) with
      | true =>
        rw [hk] at h
        have e := eq_of_beq hk
        rw [← e] at he
        exact ⟨h, he⟩
      | false =>
        rw [hk] at h
        exact keepT_ok h
    · rename_i hne
      have := keepT_ok h
      refine ⟨?_, this.2⟩
      rw [List.lookup_cons]
      cases hk : (k == p.1) with
      | true =>
        have e := eq_of_beq hk
        rw [e] at this
        exact absurd this.2 hne
      | false => exact this.1
def isLoc0 (sc : Scope) (x : Str) : Bool := match sc.names.lookup x with
  | some .local => true
  | _ => false
mutual
def cS (C : Tx) (N : List Str) (sc : Scope) : Nat → Stmt → IS
  | 0, _ => .bad
  | n + 1, s => match s with
    | .Assign [tg] e _ => cAsg C N sc n tg e
    | .AugAssign (.Name x _) op e _ => match isLocal sc x, idx x N 0, cE C N n sc e with
      | true, some i, some ie => match op with
        | .Add => .aug i .Add ie
        | .Sub => .aug i .Sub ie
        | .Mult => .aug i .Mult ie
        | .FloorDiv => .aug i .FloorDiv ie
        | _ => .bad
      | _, _, _ => .bad
    | .Expr e _ => match noComp e, cE C N n sc e with
      | true, some ie => .expr ie
      | _, _ => .bad
    | .Return (some e) _ => match cE C N n sc e with
      | some ie => .ret ie
      | none => .bad
    | .Return none _ => .retN
    | .If c a b _ => match cT C N n sc c with
      | some ic => .ifS ic (cSs C N sc n a) (cSs C N sc n b)
      | none => .bad
    | .While c b [] _ => match cT C N n sc c with
      | some ic => .whil ic (cSs C N sc n b)
      | none => .bad
    | .For tg it b [] _ => match plainE it, cG N sc n tg, cI C N n sc (isTupE tg) it with
      | true, some g, some ii => .forS g ii (cSs C N sc n b)
      | _, _, _ => .bad
    | .Raise (some (.Call (.Name x _) [.Constant (.str _) _ _] [] _)) none _ => if plainName x && isGlob sc x then match C.gl.lookup x with
        | some (.cls k) => if C.ex.contains k then .raise k .nil else .bad
        | _ => .bad
      else .bad
    | .Try body [.ExceptHandler (some (.Name nm _)) (some en) [.Assign [.Name cn _] (.Name e2 _) _] _] [] [] _ =>
      (match C.gl.lookup nm, idx en N 0, idx cn N 0 with
        | some (.cls j), some ie, some ic => if plainName nm && (isGlob sc nm && (isLoc0 sc en && (isLoc0 sc cn && (plainName e2 && (e2 == en && !body.isEmpty))))) then .tryK (cSs C N sc n body) (keepT C.exm j C.kit) ie ic else .bad
        | _, _, _ => .bad)
    | .Pass _ => .pass
    | .Break _ => .brk
    | .Continue _ => .cont
    | _ => .bad
def cSs (C : Tx) (N : List Str) (sc : Scope) : Nat → List Stmt → ISs
  | _, [] => .nil
  | 0, _ :: _ => .cons .bad .nil
  | n + 1, s :: r => .cons (cS C N sc n s) (cSs C N sc n r)
end
/-! ### a def that keeps the error of what it calls -/
def kpTab (C : Tx) (N : List Str) (is : ISs) (ie ic j : Nat) : List Nat → List (Nat × Str)
  | [] => []
  | k :: r => match (keepT C.exm j C.kit).lookup k with
    | some as => (match evSs ⟨1, fun _ _ _ => .bad, fun _ _ _ => .bad⟩ is (((List.replicate N.length none).set ic (some (.exn k as))).set ie none) [] with
      | .rt (.lst [.str z]) _ => (k, z) :: kpTab C N is ie ic j r
      | _ => kpTab C N is ie ic j r)
    | none => kpTab C N is ie ic j r
def kpHead (is : ISs) (ic it : Nat) : Bool := match is with
  | .cons (.ifS (.cmp .Is (.var i1) (.cst .non)) (.cons (.ret (.var i2)) .nil) .nil) _ => i1 == ic && i2 == it
  | _ => false
def kpOf (C : Tx) (N : List Str) (sg : Scope) (n : Nat) (a : Str) : List Stmt → Option (List (Nat × Str))
  | .Assign [.Name cn _] (.Constant .none _ _) _ :: .Assign [.Name tn _] (.Constant .none _ _) _ :: .Try [.Assign [.Name t2 _] (.Call (.Name b _) [] [] _) _] [.ExceptHandler (some (.Name nm _)) (some en) [.Assign [.Name c2 _] (.Name e2 _) _] _] [] [] _ :: rest =>
    (match C.gl.lookup nm, idx en N 0, idx cn N 0, idx tn N 0 with
      | some (.cls j), some ie, some ic, some it => if t2 == tn && (b == a && (c2 == cn && (e2 == en && (plainName nm && (isGlob sg nm && (isLoc0 sg en && (isLoc0 sg cn && (isLoc0 sg tn && (plainName en && (kpHead (cSs C N sg n rest) ic it && (ic != it && (it != 0 && (ic != 0 && decide (ic < N.length))))))))))))))
          then some (kpTab C N (cSs C N sg n rest) ie ic j C.ex) else none
      | _, _, _, _ => none)
  | _ => none
theorem kpTab_ok {C : Tx} {N : List Str} {is : ISs} {ie ic j k : Nat} {z : Str} : ∀ {l : List Nat}, (kpTab C N is ie ic j l).lookup k = some z → ∃ as S, (keepT C.exm j C.kit).lookup k = some as ∧ evSs ⟨1, fun _ _ _ => .bad, fun _ _ _ => .bad⟩ is (((List.replicate N.length none).set ic (some (.exn k as))).set ie none) [] = .rt (.lst [.str z]) S
  | [], h => by cases h
  | a :: r, h => by
    unfold kpTab at h
    split at h
    · rename_i as h1
      split at h
      · rename_i y S h2
        rw [List.lookup_cons] at h
        cases hk : (k == a) with
        | true =>
          rw [hk] at h
          have e := eq_of_beq hk
          subst e
          cases h
          exact ⟨as, S, h1, h2⟩
        | false =>
          rw [hk] at h
          exact kpTab_ok h
      · exact kpTab_ok h
    · exact kpTab_ok h
/-- what a def without named parts gives to its caller -/
def gdAll (C : Tx) (N : List Str) (sg : Scope) (n : Nat) (a : Str) (bg : List Stmt) : Option (Option Str × List (Nat × Str)) := match gdOf C.gl sg a bg with
  | some (w, hs) => if w = some keepS then none else some (w, hs)
  | none => (kpOf C.nof N sg n a bg).map fun t => (some keepS, t)
/-! ### soundness -/
structure OkS (G : Gx) (T : List Fn) (lf : Nat) (C : Tx) (lv : Nat) (N : List Str) (sc : Scope) (X : Cx) (W : WX) : Prop where
  x : OkX G T lf C lv N sc X W
  kind : sc.kind = .function
  fn : ∀ x, X.fn x = true
  pa : PassesOwn (model X.prog X.w) X.A X.env X.xe
  stk : X.stack = X.env :: X.outer
  fr : X.env.frame = some X.env.locals
section
variable {X : Cx} {G : Gx} {cf : Cf} {W : WX}
theorem ps_bad {st : Stmt} : PS X st (tS X.K G cf W .bad) := ⟨fun pins s σ H D I ⟨env, S, w, R, p⟩ => by
  simp only [evS] at p
  exact p.elim⟩
theorem ps_guard {st : Stmt} {c : Prop} [Decidable c] {a : IS} (h : c → PS X st (tS X.K G cf W a)) : PS X st (tS X.K G cf W (if c then a else .bad)) := by
  by_cases z : c
  · rw [if_pos z]; exact h z
  · rw [if_neg z]; exact ps_bad
theorem pss_bad {st : List Stmt} {r : ISs} : PSs X st (tSs X.K G cf W (.cons .bad r)) := ⟨fun pins s σ H D I ⟨env, S, w, R, p⟩ => by
  simp only [evSs, evS, SR.then] at p
  exact p.elim⟩
end
section
variable {lm : IE → Env' → Store → Ev.R D} {G : Gx} {T : List Fn} {lf : Nat} {C : Tx} {lv : Nat} {N : List Str} {sc : Scope} {X : Cx} {W : WX}
theorem OkS.loc (o : OkS G T lf C lv N sc X W) {x : Str} (h : isLocal sc x = true) : Loc X.env.scope x ∧ (X.fn x = true ∨ X.env.scope.names.lookup x = some .local) := by
  refine ⟨?_, .inl (o.fn x)⟩
  rw [o.x.hsc]
  exact loc_of h
theorem OkS.g (o : OkS G T lf C lv N sc X W) {n : Nat} {e : Expr} {g : IG} (h : cG N sc n e = some g) : PG X e (tG X.K G g) :=
  (snd_G o.x.nd o.x.calm (fun x hx => o.loc hx) n).1 e g (by rw [o.x.hN]; exact h)
theorem OkS.ix (o : OkS G T lf C lv N sc X W) {x : Str} {i : Nat} (h : idx x N 0 = some i) : X.N[i]? = some x := by rw [o.x.hN]; exact idx_at h
/-- a comprehension's parts -/
theorem lc_parts {n : Nat} {elt : Expr} {gens : List Comprehension} {scope : Scope} {pos : Pos} {i : IE} (h : cE C N n sc (.ListComp elt gens scope pos) = some i) :
    ∃ m tg iter ifs g own it c x, n = m + 1 ∧ gens = [⟨tg, iter, ifs, 0⟩] ∧ cG N scope m tg = some g ∧ own2 N (gslots g) = some own ∧ blkC N sc scope own = true ∧ plainE iter = true ∧ cI C N m sc (isTupE tg) iter = some it ∧ cC C N m (relS scope sc) ifs = some c ∧ cE C N m (relS scope sc) elt = some x ∧
      i = .comp (isMu C pos) (own.map (·.2)) g it c x := by
  cases n with
  | zero => simp [cE] at h
  | succ n =>
    cases gens with
    | nil => simp [cE] at h
    | cons gen r =>
      cases r with
      | cons _ _ => simp [cE] at h
      | nil =>
        obtain ⟨tg, iter, ifs, k⟩ := gen
        by_cases hk : k = 0
        · subst hk
          simp only [cE] at h
          split at h
          · rename_i g hg
            split at h
            · rename_i own ho
              split at h
              · rename_i hc
                simp only [Bool.and_eq_true] at hc
                split at h
                · rename_i it c x h1 h2 h3
                  cases h
                  exact ⟨n, tg, iter, ifs, g, own, it, c, x, rfl, rfl, hg, ho, hc.1, hc.2, h1, h2, h3, rfl⟩
                · cases h
              · cases h
            · cases h
          · cases h
        · exfalso
          unfold cE at h
          split at h
          all_goals (first | (cases h; done) | simp_all)
theorem ps_setC (hT : ∀ (k : Nat) (fi : FI) (fn : Fn), C.fns[k]? = some fi → T[k]? = some fn → fn.np = fi.ps.length) (hlm : lf % 2 = 0 → lm = lamAt T lf lv) (o : OkS G T lf C lv N sc X W) {n i : Nat} {x : Str} {px pos : Pos} {e : Expr} {ie : IE} (hi : idx x N 0 = some i) (h : cE C N n sc e = some ie) (hs : setOk sc x px e = true) :
    PS X (.Assign [.Name x px] e pos) (tS X.K G ⟨lf, evF T lf lv, lm⟩ W (.asg (.nm i) ie)) := by
  cases e with
  | ListComp elt gens scope cpos =>
    obtain ⟨m, tg, iter, ifs, g, own, it, c, y, rfl, rfl, hg, ho, hb, hp, h1, h2, h3, rfl⟩ := lc_parts h
    simp only [setOk, Bool.and_eq_true, Bool.not_eq_true', beq_iff_eq] at hs
    have ih := snd (N := N) (lf := lf) (lv := lv) (G := G) hT m hlm
    have hsw : swapsWith (.ListComp elt [⟨tg, iter, ifs, 0⟩] scope cpos) (some (.Name x px)) pos.line X.env = pure true :=
      sw_true (by rw [o.x.hsc]; exact o.kind) (by rw [o.x.hsc]; exact hs.2.1) (by simpa using hs.1) hs.2.2
    refine (ps_setLc o.x.calm o.x.nd (o.ix hi) (by rw [o.x.hsc]; exact hs.2.1) hsw (ih.i o.x h1) (by rw [o.x.hN, o.x.hsc]; exact blkOk_by hb) (fun s H D' cl fp => (snd_G (X := X.blk s H scope (compEnvC scope cl D' X.env) fp) (G := G) o.x.nd o.x.calm (fun x hx => blk_loc hx) m).1 tg g (by show cG X.N _ _ _ = _; rw [o.x.hN]; exact hg)) (fun s H D' cl fp => ih.c (o.x.blk s H scope cl D' fp) h2) (fun s H D' cl fp => ih.e (o.x.blk s H scope cl D' fp) h3) (plain_fold hp)).imp
      fun D σ H q => asgN_reading (fun Q q => lc_reading (own2_map ho) q) q
  | _ => simp [setOk] at hs
theorem swaps_tup {ts : List Expr} {k : Nat} {p : Pos} {l : Nat} {env : Env} (e : Expr) : swapsWith e (some (.Tuple ts k p)) l env = pure false := by
  cases e <;> rfl
theorem sw_no {elt : Expr} {gens : List Comprehension} {scope sc : Scope} {pos px : Pos} {x : Str} {l : Nat} {env : Env} (he : env.scope = sc) (hk : sc.kind = .function) (h : setOk sc x px (.ListComp elt gens scope pos) = false) :
    swapsWith (.ListComp elt gens scope pos) (some (.Name x px)) l env = pure false := by
  have hb : env.blockKind = .function := by unfold Env.blockKind; rw [he, hk]; rfl
  have hf : ∀ id, env.kindOf id = sc.names.lookup id := by intro id; unfold Env.kindOf; rw [he]
  have hp : (Expr.ListComp elt gens scope pos).pos = pos := rfl
  unfold swapsWith
  simp only [hb, hf, hp]
  replace h : ((px.line == pos.line) && ((sc.names.lookup x == some .local) && !(scope.names.any fun (n, k) => n == x && (k == .local || k == .cell)))) = false := h
  have k : ∀ a b c : Bool, (a && (b && c)) = false → (true && b && a && c) = false := by decide
  exact congrArg pure (k _ _ _ h)
theorem parOk_len {N : List Str} {sc : Scope} : ∀ {ts : List Expr} {is : List Nat}, parOk N sc ts = some is → is.length = ts.length
  | [], is, h => by cases h; rfl
  | t :: r, is, h => by
    cases t <;> first
      | (simp [parOk] at h; done)
      | skip
    simp only [parOk] at h
    split at h
    · rename_i h1 h2 h3
      split at h
      · cases h
      · cases h
        simp [parOk_len h3]
    · cases h
theorem parOk_cons {N : List Str} {sc : Scope} {t : Expr} {r : List Expr} {js : List Nat} (h : parOk N sc (t :: r) = some js) : ∃ x px i is, t = .Name x px ∧ js = i :: is ∧ sc.names.lookup x = some .local ∧ idx x N 0 = some i ∧ i ∉ is ∧ parOk N sc r = some is := by
  cases t <;> first
    | (simp [parOk] at h; done)
    | skip
  rename_i x px
  simp only [parOk] at h
  split at h
  · rename_i h1 h2 h3
    split at h
    · cases h
    · rename_i h4
      cases h
      exact ⟨x, px, _, _, rfl, rfl, by simpa using h1, h2, by simpa using h4, h3⟩
  · cases h
theorem par_reading2 {X : Cx} {cf : Cf} {W : WX} {i j : Nat} {es : IEs} {D : Ends} {σ : L2.St} {H : Hp} (h : tS X.K G cf W (.par [i, j] es) D σ H) : tPar i j (tEs X.K G cf W es) D σ H := by
  obtain ⟨env, S, w, R, p⟩ := h
  simp only [evS] at p
  refine ⟨env, S, w, R, PostS.go (rep := Reps X.K G) R.en p fun ds S1 vs H1 w1 _ e1 st1 r1 p1 => ?_⟩
  match ds, r1, p1 with
  | [], _, p1 => exact p1.elim
  | [_], _, p1 => exact p1.elim
  | _ :: _ :: _ :: _, _, p1 => exact p1.elim
  | [a, b], .cons ra (.cons rb .nil), p1 => exact ⟨_, _, rfl, p1 _ H1 w1 (Ext.refl _ _) ⟨st1, ((R.en.ext e1).set ra).set rb⟩⟩
theorem par_reading3 {X : Cx} {cf : Cf} {W : WX} {i j l : Nat} {es : IEs} {D : Ends} {σ : L2.St} {H : Hp} (h : tS X.K G cf W (.par [i, j, l] es) D σ H) : tPar3 i j l (tEs X.K G cf W es) D σ H := by
  obtain ⟨env, S, w, R, p⟩ := h
  simp only [evS] at p
  refine ⟨env, S, w, R, PostS.go (rep := Reps X.K G) R.en p fun ds S1 vs H1 w1 _ e1 st1 r1 p1 => ?_⟩
  match ds, r1, p1 with
  | [], _, p1 => exact p1.elim
  | [_], _, p1 => exact p1.elim
  | [_, _], _, p1 => exact p1.elim
  | _ :: _ :: _ :: _ :: _, _, p1 => exact p1.elim
  | [a, b, c], .cons ra (.cons rb (.cons rc .nil)), p1 => exact ⟨_, _, _, rfl, p1 _ H1 w1 (Ext.refl _ _) ⟨st1, (((R.en.ext e1).set ra).set rb).set rc⟩⟩
theorem sw_plain {ts : List Expr} {k : Nat} {p : Pos} {e : Expr} {env : Env} (h : isTup e = false) : swappedStores [.Tuple ts k p] e env = pure none := by
  cases e <;> first
    | rfl
    | (simp [isTup] at h; done)
theorem snd_asg (hT : ∀ (k : Nat) (fi : FI) (fn : Fn), C.fns[k]? = some fi → T[k]? = some fn → fn.np = fi.ps.length) (hlm : lf % 2 = 0 → lm = lamAt T lf lv) (o : OkS G T lf C lv N sc X W) (n : Nat) (tg e : Expr) (pos : Pos) :
    PS X (.Assign [tg] e pos) (tS X.K G ⟨lf, evF T lf lv, lm⟩ W (cAsg C N sc n tg e)) := by
  have ih := snd (N := N) (lf := lf) (lv := lv) (G := G) hT n hlm
  cases tg with
  | Name x px =>
    simp only [cAsg]
    split
    · rename_i h1 h2 h3
      split
      · rename_i hc
        simp only [Bool.or_eq_true] at hc
        by_cases hn : noComp e = true
        · exact ps_asgN o.x.nd (o.ix h2) (o.loc h1).1 (o.loc h1).2 (ih.e o.x h3) (swaps_of hn)
        · have hl := hc.resolve_left hn
          cases hs : setOk sc x px e with
          | true => exact ps_setC hT hlm o h2 h3 hs
          | false =>
            cases e with
            | ListComp elt gens scope cpos => exact ps_asgN o.x.nd (o.ix h2) (o.loc h1).1 (o.loc h1).2 (ih.e o.x h3) (sw_no o.x.hsc o.kind hs)
            | _ => simp [isLC] at hl
      · exact ps_bad
    · exact ps_bad
  | Subscript ob i p2 =>
    simp only [cAsg]
    split
    · rename_i hc h1 h2 h3
      simp only [Bool.and_eq_true] at hc
      exact ps_setIx1 (by have := o.x.units; omega) (ih.e o.x h1) (ih.e o.x h2) (ih.e o.x h3) hc.1 hc.2
    · exact ps_bad
  | Tuple ts k p =>
    simp only [cAsg]
    split
    · rename_i es tl sp hst
      have e0 := starOf_eq hst
      subst e0
      split
      · rename_i gs' ie' hc h1 h2
        simp only [Bool.and_eq_true, Bool.not_eq_true'] at hc
        have hpl := (cGs_len h1).2
        simp only [List.all_append, List.all_cons, List.all_nil, Bool.and_true, Bool.and_eq_true] at hpl
        exact ps_star1 o.x.calm (ih.e o.x h2) ((snd_G (X := X) (G := G) o.x.nd o.x.calm (fun x hx => o.loc hx) n).2 _ gs' (by rw [o.x.hN]; exact h1)) hpl.1 hpl.2 hc.1 (sw_plain hc.2)
      · exact ps_bad
    split
    · rename_i ht
      have : ∃ vs k2 p2, e = .Tuple vs k2 p2 := by
        cases e <;> first
          | exact ⟨_, _, _, rfl⟩
          | (simp [isTup] at ht; done)
      obtain ⟨vs, k2, p2, rfl⟩ := this
      simp only [exprOf]
      split
      · rename_i h1
        split
        · rename_i h2 h3
          exact ps_asgG (ih.e o.x h3) (o.g h2) (swaps_tup _) rfl (swC_ok h1 o.x.hsc o.kind)
        · exact ps_bad
      · rename_i ns h1
        split
        · rename_i is ies h2 h3
          refine ps_guard fun hc => ?_
          · simp only [Bool.and_eq_true, Bool.or_eq_true, beq_iff_eq, decide_eq_true_eq] at hc
            obtain ⟨⟨hl, hl2⟩, hns⟩ := hc
            have hw := swC_ok (k := k) (k2 := k2) (p := p) (p2 := p2) h1 o.x.hsc o.kind
            have ha := ih.es o.x h3
            rcases hl with hl | hl
            · match ts, vs, hl, hl2, h2, hw, ha with
              | [t1, t2], [a, b], _, _, h2, hw, ha =>
                obtain ⟨x, px, i, is1, rfl, rfl, l1, x1, n1, h2⟩ := parOk_cons h2
                obtain ⟨y, py, j, is2, rfl, rfl, l2, x2, n2, h2⟩ := parOk_cons h2
                cases h2
                have en : ns = [x, y] := by
                  simp only [List.map_cons, List.map_nil, idx_at x1, idx_at x2] at hns
                  match ns, hns with
                  | [a, b], hns => simp at hns; rw [hns.1, hns.2]
                subst en
                exact (ps_par o.x.calm o.x.nd (o.ix x1) (o.ix x2) (by simpa using n1) (by rw [o.x.hsc]; exact l1) (by rw [o.x.hsc]; exact l2) ha hw).imp fun D σ H q => par_reading2 q
            · match ts, vs, hl, hl2, h2, hw, ha with
              | [t1, t2, t3], [a, b, c], _, _, h2, hw, ha =>
                obtain ⟨x, px, i, is1, rfl, rfl, l1, x1, n1, h2⟩ := parOk_cons h2
                obtain ⟨y, py, j, is2, rfl, rfl, l2, x2, n2, h2⟩ := parOk_cons h2
                obtain ⟨z, pz, l, is3, rfl, rfl, l3, x3, n3, h2⟩ := parOk_cons h2
                cases h2
                have en : ns = [x, y, z] := by
                  simp only [List.map_cons, List.map_nil, idx_at x1, idx_at x2, idx_at x3] at hns
                  match ns, hns with
                  | [a, b, c], hns => simp at hns; rw [hns.1, hns.2.1, hns.2.2]
                subst en
                simp only [List.mem_cons, List.not_mem_nil, not_or, or_false] at n1 n2
                exact (ps_par3 o.x.calm o.x.nd (o.ix x1) (o.ix x2) (o.ix x3) n1.1 n1.2 n2 (by rw [o.x.hsc]; exact l1) (by rw [o.x.hsc]; exact l2) (by rw [o.x.hsc]; exact l3) ha hw).imp fun D σ H q => par_reading3 q
        · exact ps_bad
      · exact ps_bad
    · rename_i ht
      have ht := Bool.eq_false_iff.mpr ht
      split
      · rename_i h0 h1 h2
        exact ps_asgG (ih.e o.x h2) (o.g h1) (swaps_tup _) rfl (sw_plain ht)
      · exact ps_bad
  | _ => exact ps_bad
end
end Ev
/-! Ev, part L: statements are sound; defs. -/
namespace Ev
open PySem PySem.Spec PyProof.Rows L2
section
variable {lm : IE → Env' → Store → Ev.R D} {G : Gx} {T : List Fn} {lf : Nat} {C : Tx} {lv : Nat} {N : List Str} {sc : Scope} {X : Cx} {W : WX}
theorem raise_shape {n : Nat} {pos : Pos} (e : Expr) : (∃ x p1 m j p2 p3, e = .Call (.Name x p1) [.Constant (.str m) j p2] [] p3) ∨ cS C N sc (n + 1) (.Raise (some e) none pos) = .bad := by
  cases e with
  | Call f es kws p =>
    cases f with
    | Name x p1 =>
      cases kws with
      | cons _ _ => exact .inr (by simp [cS])
      | nil =>
        cases es with
        | nil => exact .inr (by simp [cS])
        | cons a r =>
          cases r with
          | cons _ _ => exact .inr (by simp [cS])
          | nil =>
            cases a with
            | Constant c j p2 =>
              cases c with
              | str m => exact .inl ⟨_, _, _, _, _, _, rfl⟩
              | _ => exact .inr (by simp [cS])
            | _ => exact .inr (by simp [cS])
    | _ => exact .inr (by simp [cS])
  | _ => exact .inr (by simp [cS])
theorem ps_raise1 (o : OkS G T lf C lv N sc X W) {x m : Str} {k j : Nat} {p1 p2 p3 pos : Pos} (hk : C.gl.lookup x = some (.cls k)) (he : C.ex.contains k = true) (hg : Gl X x) (hdb : (x == ("__debug__" : Str)) = false) :
    PS X (.Raise (some (.Call (.Name x p1) [.Constant (.str m) j p2] [] p3)) none pos) (tS X.K G ⟨lf, evF T lf lv, lm⟩ W (.raise k .nil)) := by
  obtain ⟨q1, q2, q3, q4⟩ := o.x.f.exc k he
  refine (L2.ps_raise o.x.calm o.x.tk (pmk_own PySem.F.excBase_ValueError q1 (o.x.f.cls x k hk) q2 (raises_own q3 q4) hg hdb)).imp fun D σ H ⟨env, S, w, R, p⟩ => ?_
  simp only [evS, evEs, Ev.R.go] at p
  exact p σ _ none H w (Ext.refl _ _) R ⟨rfl, rfl, rfl⟩
theorem try_shape {n : Nat} {pos : Pos} (body el fi : List Stmt) (hs : List ExceptHandler) : (∃ nm p1 en cn p2 e2 p3 p4 p5, hs = [.ExceptHandler (some (.Name nm p1)) (some en) [.Assign [.Name cn p2] (.Name e2 p3) p4] p5] ∧ el = [] ∧ fi = []) ∨ cS C N sc (n + 1) (.Try body hs el fi pos) = .bad := by
  cases hs with
  | nil => right; simp only [cS]
  | cons h r =>
    cases r with
    | cons _ _ => right; simp only [cS]
    | nil =>
      cases el with
      | cons _ _ => right; simp only [cS]
      | nil =>
        cases fi with
        | cons _ _ => right; simp only [cS]
        | nil =>
          obtain ⟨t, nm, b, p5⟩ := h
          cases t with
          | none => right; simp only [cS]
          | some t =>
            cases t with
            | Name x p1 =>
              cases nm with
              | none => right; simp only [cS]
              | some en =>
                cases b with
                | nil => right; simp only [cS]
                | cons st r2 =>
                  cases r2 with
                  | cons _ _ => right; simp only [cS]
                  | nil =>
                    cases st with
                    | Assign tgs e p4 =>
                      cases tgs with
                      | nil => right; simp only [cS]
                      | cons tg r3 =>
                        cases r3 with
                        | cons _ _ => right; simp only [cS]
                        | nil =>
                          cases tg with
                          | Name cn p2 =>
                            cases e with
                            | Name e2 p3 => left; exact ⟨x, p1, en, cn, p2, e2, p3, p4, p5, rfl, rfl, rfl⟩
                            | _ => right; simp only [cS]
                          | _ => right; simp only [cS]
                    | _ => right; simp only [cS]
            | _ => right; simp only [cS]
theorem OkS.tr (o : OkS G T lf C lv N sc X W) {W' : WX} {pn : List (Addr × Obj)} {xe : Value → Shared → Prop} (tk : Takes (X.tr pn xe) W') (pa : PassesOwn (model X.prog X.w) X.A X.env xe) : OkS G T lf C lv N sc (X.tr pn xe) W' :=
  ⟨⟨o.x.f, o.x.hN, o.x.nd, o.x.hsc, o.x.calm, o.x.gu, o.x.room, tk, o.x.lam, o.x.lo⟩, o.kind, o.fn, pa, o.stk, o.fr⟩
theorem snd_try (o : OkS G T lf C lv N sc X W) {is : ISs} {body : List Stmt} {nm en cn : Str} {j ie ic : Nat} {p1 p2 p3 p4 p5 pos : Pos} {cf : Cf}
    (hb : ∀ (W' : WX) (pn : List (Addr × Obj)) (xe : Value → Shared → Prop), OkS G T lf C lv N sc (X.tr pn xe) W' → PSs (X.tr pn xe) body (tSs X.K G cf W' is))
    (hj : C.gl.lookup nm = some (.cls j)) (he : idx en N 0 = some ie) (hc : idx cn N 0 = some ic) (h1 : plainName nm = true) (h2 : isGlob sc nm = true) (h3 : isLoc0 sc en = true) (h4 : isLoc0 sc cn = true) (h5 : plainName en = true) :
    PS X (.Try body [.ExceptHandler (some (.Name nm p1)) (some en) [.Assign [.Name cn p2] (.Name en p3) p4] p5] [] [] pos) (tS X.K G cf W (.tryK is (keepT C.exm j C.kit) ie ic)) := by
  have l0 : ∀ {x : Str}, isLoc0 sc x = true → sc.names.lookup x = some .local := fun {x} h => by
    unfold isLoc0 at h
    split at h
    · assumption
    · cases h
  have ki : X.N[ie]? = some en := o.ix he
  have kc : X.N[ic]? = some cn := o.ix hc
  have le : X.env.scope.names.lookup en = some .local := by rw [o.x.hsc]; exact l0 h3
  have lc : X.env.scope.names.lookup cn = some .local := by rw [o.x.hsc]; exact l0 h4
  have hln : X.env.kindOf en = some .local := le
  obtain ⟨d1, d2, d3⟩ := plain_nm h5
  have hsu : ∀ (a : Addr) (oe : Obj) (pn : List (Addr × Obj)), PSs (X.suite a ((a, oe) :: pn)) [.Assign [.Name cn p2] (.Name en p3) p4] (fun D σ H => σ[ie]? = some (some (.ref a)) ∧ D.nx (σ.set ic (some (.ref a))) H) := fun a oe pn =>
    pss_one ((ps_set (X := X.suite a ((a, oe) :: pn)) o.x.nd kc (.inl lc) (pe_var (X := X.suite a ((a, oe) :: pn)) ki (.inl le) d1 d2) rfl (.inr lc)).imp fun D σ H q => ⟨.ref a, q.1, q.2⟩)
  refine (EvZe.ps_try_keep (tb := fun W' => tSs X.K G cf W' is) o.stk o.fr o.x.nd ki hln ⟨o.x.gl h2, (plain_nm h1).1, .inl (o.x.f.cls nm j hj)⟩ (fun W' pn xe tk pa => hb W' pn xe (o.tr tk pa)) hsu).imp fun D σ H ⟨env, S, w, R, p⟩ => ⟨env, S, w, R, ?_⟩
  simp only [evS] at p
  cases h : evSs cf is env S with
  | exc x e1 S1 =>
    rw [h] at p
    simp only at p
    split at p
    · rename_i as hf hk
      obtain ⟨g1, g2⟩ := keepT_ok hk
      intro σ2 cls dd H2 w2 e2 R2 xr
      refine ⟨G x.cls, xr.1, xr.2.2, ?_, fun a ha => ?_⟩
      · rw [xr.1]; exact o.x.f.exm _ _ _ g2
      · have ex : Ext w2 H2 w2 (upd H2 a (EvZe.ErrO (G x.cls) a)) := Ext.laid ha
        have st := R2.st.laid (o := EvZe.ErrO (G x.cls) a) ha
        have rp : Rep X.K G w2 (upd H2 a (EvZe.ErrO (G x.cls) a)) (.exn x.cls as) (.ref a) := .exn upd_same (R2.st.fresh ha) (o.x.f.kit _ _ g1)
        exact p _ _ w2 (e2.trans ex) ⟨st, (((R2.en.ext ex).set rp).set rp).unset ie none⟩
    · exact p.elim
  | nx e1 S1 => rw [h] at p; exact p
  | rt d S1 => rw [h] at p; exact p
  | bk e1 S1 => rw [h] at p; exact p
  | ct e1 S1 => rw [h] at p; exact p
  | bad => rw [h] at p; exact p
theorem snd_S (hT : ∀ (k : Nat) (fi : FI) (fn : Fn), C.fns[k]? = some fi → T[k]? = some fn → fn.np = fi.ps.length) (hlm : lf % 2 = 0 → lm = lamAt T lf lv) :
    ∀ (n : Nat) (X : Cx) (W : WX), OkS G T lf C lv N sc X W → (∀ st, PS X st (tS X.K G ⟨lf, evF T lf lv, lm⟩ W (cS C N sc n st))) ∧ (∀ sts, PSs X sts (tSs X.K G ⟨lf, evF T lf lv, lm⟩ W (cSs C N sc n sts)))
  | 0, X, W, o => ⟨fun st => by simp only [cS]; exact ps_bad, fun sts => by
      cases sts with
      | nil => simp only [cSs]; exact pss_nil1
      | cons _ _ => simp only [cSs]; exact pss_bad⟩
  | n + 1, X, W, o => by
    obtain ⟨ih1, ih2⟩ := snd_S hT hlm n X W o
    have ih := snd (N := N) (lf := lf) (lv := lv) (G := G) hT n hlm
    refine ⟨fun st => ?_, fun sts => ?_⟩
    · cases st with
      | Assign tgs e pos =>
        cases tgs with
        | nil => simp only [cS]; exact ps_bad
        | cons tg r =>
          cases r with
          | nil => simp only [cS]; exact snd_asg hT hlm o n tg e pos
          | cons _ _ => simp only [cS]; exact ps_bad
      | AugAssign tg op e pos =>
        cases tg with
        | Name x px =>
          simp only [cS]
          split
          · rename_i h1 h2 h3
            split
            · exact ps_aug1 o.x.nd (o.ix h2) (o.loc h1).1 (o.loc h1).2 (ih.e o.x h3) (.inl rfl)
            · exact ps_aug1 o.x.nd (o.ix h2) (o.loc h1).1 (o.loc h1).2 (ih.e o.x h3) (.inr (.inl rfl))
            · exact ps_aug1 o.x.nd (o.ix h2) (o.loc h1).1 (o.loc h1).2 (ih.e o.x h3) (.inr (.inr (.inl rfl)))
            · exact ps_aug1 o.x.nd (o.ix h2) (o.loc h1).1 (o.loc h1).2 (ih.e o.x h3) (.inr (.inr (.inr rfl)))
            · exact ps_bad
          · exact ps_bad
        | _ => simp only [cS]; exact ps_bad
      | Expr e pos =>
        simp only [cS]
        split
        · rename_i h1 h2; exact ps_expr1 (ih.e o.x h2) h1
        · exact ps_bad
      | Return e pos =>
        cases e with
        | none => simp only [cS]; exact ps_retN1
        | some e =>
          simp only [cS]
          split
          · rename_i h1; exact ps_ret1 (ih.e o.x h1)
          · exact ps_bad
      | If c a b pos =>
        simp only [cS]
        split
        · rename_i h1; exact ps_if1 (ih.t o.x h1) (ih2 a) (ih2 b)
        · exact ps_bad
      | While c b els pos =>
        cases els with
        | nil =>
          simp only [cS]
          split
          · rename_i h1; exact ps_while1 o.pa (ih.t o.x h1) (ih2 b)
          · exact ps_bad
        | cons _ _ => simp only [cS]; exact ps_bad
      | For tg it b els pos =>
        cases els with
        | nil =>
          simp only [cS]
          split
          · rename_i h1 h2 h3; exact ps_for1 o.pa o.x.calm (ih.i o.x h3) (o.g h2) (ih2 b) h1
          · exact ps_bad
        | cons _ _ => simp only [cS]; exact ps_bad
      | Raise e c pos =>
        have hb : PS X (.Raise e c pos) (tS X.K G ⟨lf, evF T lf lv, lm⟩ W .bad) := ps_bad
        cases c with
        | some _ => simp only [cS]; exact ps_bad
        | none =>
          cases e with
          | none => simp only [cS]; exact ps_bad
          | some e =>
            rcases raise_shape e with ⟨x, p1, m, j, p2, p3, rfl⟩ | hs
            · simp only [cS]
              split
              · rename_i hc
                simp only [Bool.and_eq_true] at hc
                split
                · rename_i k hk
                  split
                  · rename_i he
                    exact ps_raise1 o hk he (o.x.gl hc.2) (plain_nm hc.1).1
                  · exact ps_bad
                · exact ps_bad
              · exact ps_bad
            · rw [hs]; exact ps_bad
      | Try body hs el fi pos =>
        rcases try_shape (C := C) (N := N) (sc := sc) (n := n) (pos := pos) body el fi hs with ⟨nm, p1, en, cn, p2, e2, p3, p4, p5, rfl, rfl, rfl⟩ | h
        · simp only [cS]
          split
          · rename_i j ie ic h1 h2 h3
            split
            · rename_i hc
              simp only [Bool.and_eq_true, beq_iff_eq] at hc
              obtain ⟨c1, c2, c3, c4, c5, c6, c7⟩ := hc
              subst c6
              exact snd_try o (fun W' pn xe o' => (snd_S hT hlm n _ _ o').2 body) h1 h2 h3 c1 c2 c3 c4 c5
            · exact ps_bad
          · exact ps_bad
        · rw [h]; exact ps_bad
      | Pass pos => simp only [cS]; exact ps_pass1
      | Break pos => simp only [cS]; exact ps_brk1
      | Continue pos => simp only [cS]; exact ps_cont1
      | _ => simp only [cS]; exact ps_bad
    · cases sts with
      | nil => simp only [cSs]; exact pss_nil1
      | cons s r => simp only [cSs]; exact pss_cons1 (ih1 s) (ih2 r)
end
/-- what is known of the program's names -/
theorem kp_cf {T : List Fn} : (⟨1, evF T 1 0, fun _ _ _ => .bad⟩ : Cf) = ⟨1, fun _ _ _ => .bad, fun _ _ _ => .bad⟩ := by
  have : evF T 1 0 = fun _ _ _ => .bad := by
    funext k args S
    rw [evF]
  rw [this]
theorem loc0_of {sc : Scope} {x : Str} (h : isLoc0 sc x = true) : sc.names.lookup x = some .local := by
  unfold isLoc0 at h
  split at h
  · assumption
  · cases h
theorem gives_keep {G : Gx} {T : List Fn} {C0 : Tx} {fuel n : Nat} {X : Cx} {Ng : List Str} {x a qn : Str} {sg : Scope} {g : Addr} {cdg : Value} {bg : List Stmt} {tbl : List (Nat × Str)} (f : Facts X.prog X.w X.K X.mg X.base G T 1 C0 0) (hT : C0.fns = []) (hr : Room (n + 1) X.A)
    (Sg : FnScope Ng [a] sg) (ha : plainName a = true) (hk : kpOf C0 Ng sg fuel a bg = some tbl) : LamX.GivesTo X Ng x sg g cdg bg a qn (TTkeep X.K G tbl) := by
  unfold kpOf at hk
  split at hk
  · rename_i cn p1 j1 p2 p3 tn p4 j2 p5 p6 tn2 p7 b p8 p9 p10 nm p11 en cn2 p12 en2 p13 p14 p15 p16 rest
    split at hk
    · rename_i j ie ic it hj hie hic hit
      split at hk
      · rename_i hc
        simp only [Bool.and_eq_true, beq_iff_eq, bne_iff_ne, decide_eq_true_eq] at hc
        obtain ⟨rfl, rfl, rfl, rfl, c1, c2, c3, c4, c5, c6, c7, c8, c9, c10, c11⟩ := hc
        cases hk
        intro fa c' s H Q tl act hcode hq
        have ok : OkS G T 1 C0 0 Ng sg (cxOf C8.CX0 X.prog X.w X.K X.mg X.base Ng x sg g cdg X.A X.stack s H C8.E0).nox (fun _ _ _ _ => False) :=
          ⟨⟨f, rfl, Sg.nd, rfl, rfl, fun z => by omega, hr.deeper _ |>.mono (by omega), takes0, fun z => by omega, fun z => by omega⟩, Sg.kind, fun _ => rfl, PassesOwn.never, rfl, rfl⟩
        have sndR := (snd_S (lm := fun _ _ _ => .bad) (fun k fi fn h1 _ => by rw [hT] at h1; cases h1) (fun z => by omega) fuel _ _ ok).2 rest
        rw [kp_cf] at sndR
        have ki := ok.ix hie
        have kc := ok.ix hic
        have kt := ok.ix hit
        have le := loc0_of c3
        have lc := loc0_of c4
        have lt := loc0_of c5
        obtain ⟨d1, d2, d3⟩ := plain_nm c6
        have hln : (cxOf C8.CX0 X.prog X.w X.K X.mg X.base Ng x sg g cdg X.A X.stack s H C8.E0).nox.env.kindOf en2 = some .local := le
        have hsu : ∀ (a' : Addr) (oe : Obj) (pn : List (Addr × Obj)), PSs ((cxOf C8.CX0 X.prog X.w X.K X.mg X.base Ng x sg g cdg X.A X.stack s H C8.E0).nox.suite a' ((a', oe) :: pn)) [.Assign [.Name cn2 p12] (.Name en2 p13) p14] (fun D σ H => σ[ie]? = some (some (.ref a')) ∧ D.nx (σ.set ic (some (.ref a'))) H) := fun a' oe pn =>
          pss_one ((ps_set (X := (cxOf C8.CX0 X.prog X.w X.K X.mg X.base Ng x sg g cdg X.A X.stack s H C8.E0).nox.suite a' ((a', oe) :: pn)) ok.x.nd kc (.inl lc) (pe_var (X := (cxOf C8.CX0 X.prog X.w X.K X.mg X.base Ng x sg g cdg X.A X.stack s H C8.E0).nox.suite a' ((a', oe) :: pn)) ki (.inl le) d1 d2) rfl (.inr lc)).imp fun D σ H q => ⟨.ref a', q.1, q.2⟩)
        refine ⟨_, pss_cons (ps_set (i := ic) ok.x.nd kc (.inl lc) pe_non rfl (.inr lc)) (pss_cons (ps_set (i := it) ok.x.nd kt (.inl lt) pe_non rfl (.inr lt)) (pss_cons (EvZe.ps_try_keep (ic := ic) (tb := fun W D σ H => ∃ Ech : XK, (∀ cls d σ' H', σ'.length = Ng.length → Ech cls d H' → W cls d σ' H') ∧ σ[0]? = some (some (.ref fa)) ∧ H c' = some (LamX.CodeO c' qn) ∧ tl Ech H (fun v H' => D.nx (σ.set it (some v)) H')) ok.stk ok.fr ok.x.nd ki hln ⟨ok.x.gl c2, (plain_nm c1).1, .inl (ok.x.f.cls nm j hj)⟩ (fun W' pn xe tk pa => ?_) hsu) sndR)), ?_⟩
        · refine ⟨fun pins s' σ H' D I h' => ?_⟩
          obtain ⟨Ech, hW, h1, h2, h3⟩ := h'
          have tk2 : Takes ((cxOf C8.CX0 X.prog X.w X.K X.mg X.base Ng x sg g cdg X.A X.stack s H C8.E0).tr pn xe) (fun cls d σ H => σ.length = Ng.length → W' cls d σ H) := fun u s' ⟨a, B, sI, pins, σ, H, cls, d, e, I, nb, up, sky, na, os, ag, w⟩ =>
            tk u s' ⟨a, B, sI, pins, σ, H, cls, d, e, I, nb, up, sky, na, os, ag, w I.len⟩
          have hp := act _ pn xe Ech p8 p9 tk2 (fun cls d σ' H' hE hl => hW cls d σ' H' hl hE)
          exact (pss_one (ps_set (X := (cxOf C8.CX0 X.prog X.w X.K X.mg X.base Ng x sg g cdg X.A X.stack s H C8.E0).tr pn xe) ok.x.nd kt (.inl lt) hp rfl (.inr lt))).run pins s' σ H' D I ⟨h1, h2, h3⟩
        · have li : it < Ng.length := (List.getElem?_eq_some_iff.mp kt).1
          have base : ∀ (w : Wd) (H : Hp) (σ : L2.St), σ.length = Ng.length → RepEnv X.K G w H (List.replicate Ng.length none) σ := fun w H σ hl => ⟨by rw [List.length_replicate, hl], fun i d h => by
            rw [List.getElem?_replicate] at h
            split at h <;> cases h⟩
          have l0 : (L2.start Ng [V.ref fa]).length = Ng.length := by
            have : 0 < Ng.length := by omega
            simp [L2.start]; omega
          have z0 : (L2.start Ng [V.ref fa])[0]? = some (some (.ref fa)) := rfl
          refine ⟨fun cls dd H' => ∃ k z w, cls = .ref (G k) ∧ dd = none ∧ (kpTab C0 Ng (cSs C0 Ng sg fuel rest) ie ic j C0.ex).lookup k = some z ∧ RepSt X.K G w H' [] ∧ ∀ (v : V) (H2 : Hp), Ext w H' w H2 → RepSt X.K G w H2 [] → Rep X.K G w H2 (.lst [.str z]) v → Q v H2, ?_, ?_, hcode, hq _ _ (fun _ _ _ h => h) (fun v H' hh => ?_)⟩
          · rintro cls dd σ' H' hl ⟨k, z, w, rfl, rfl, hz, st, hQ⟩
            obtain ⟨as, S', hk1, hev⟩ := kpTab_ok hz
            obtain ⟨g1, g2⟩ := keepT_ok hk1
            refine ⟨G k, rfl, rfl, ok.x.f.exm _ _ _ g2, fun a' ha' => ?_⟩
            have ex : Ext w H' w (upd H' a' (EvZe.ErrO (G k) a')) := Ext.laid ha'
            have rp : Rep X.K G w (upd H' a' (EvZe.ErrO (G k) a')) (.exn k as) (.ref a') := .exn upd_same (st.fresh ha') (ok.x.f.kit _ _ g1)
            refine ⟨_, [], w, ⟨st.laid ha', ((base w _ _ (by rw [List.length_set]; exact hl)).set rp).unset ie none⟩, ?_⟩
            rw [hev]
            intro v2 H2 w2 e2 st2 r2
            exact hQ v2 H2 (ex.trans e2).back (st.back (ex.trans e2) st2) (r2.calmer (off_back (ex.trans e2) st) rfl)
          · show (((L2.start Ng [V.ref fa]).set ic (some .non)).set it (some .non))[0]? = _
            rw [List.getElem?_set_ne c9, List.getElem?_set_ne c10]
            exact z0
          · obtain ⟨w, d, st, rd, hcalm, hQ⟩ := hh
            have en := (((base w H' _ l0).set (i := ic) .non).set (i := it) .non).set (i := it) rd
            refine ⟨_, [], w, ⟨st, en⟩, ?_⟩
            have hc1 : ((((List.replicate Ng.length (none : Option D)).set ic (some .non)).set it (some .non)).set it (some d))[ic]? = some (some .non) := by
              rw [List.getElem?_set_ne (Ne.symm c8), List.getElem?_set_ne (Ne.symm c8), List.getElem?_set_self (by simpa using c11)]
            have hc2 : ((((List.replicate Ng.length (none : Option D)).set ic (some .non)).set it (some .non)).set it (some d))[it]? = some (some d) := List.getElem?_set_self (by simpa using li)
            unfold kpHead at c7
            split at c7
            · rename_i i1 i2 r heq
              simp only [Bool.and_eq_true, beq_iff_eq] at c7
              obtain ⟨rfl, rfl⟩ := c7
              rw [heq]
              have : evSs ⟨1, fun _ _ _ => .bad, fun _ _ _ => .bad⟩ (.cons (.ifS (.cmp .Is (.var i1) (.cst .non)) (.cons (.ret (.var i2)) .nil) .nil) r) ((((List.replicate Ng.length (none : Option D)).set i1 (some .non)).set i2 (some .non)).set i2 (some d)) [] = .rt d [] := by
                have q1 : ∀ cf : Cf, evE cf (.cmp .Is (.var i1) (.cst .non)) ((((List.replicate Ng.length (none : Option D)).set i1 (some .non)).set i2 (some .non)).set i2 (some d)) [] = .ok (.bl true) [] := fun cf => by
                  have q0 : evE cf (.var i1) ((((List.replicate Ng.length (none : Option D)).set i1 (some .non)).set i2 (some .non)).set i2 (some d)) [] = .ok .non [] := by rw [evE, hc1]
                  rw [evE, q0]; rfl
                have q2 : ∀ cf : Cf, evE cf (.var i2) ((((List.replicate Ng.length (none : Option D)).set i1 (some .non)).set i2 (some .non)).set i2 (some d)) [] = .ok d [] := fun cf => by
                  rw [evE, hc2]
                rw [evSs, evS, q1]
                show (evSs _ (.cons (.ret (.var i2)) .nil) _ []).then _ = _
                rw [evSs, evS, q2]
                rfl
              rw [this]
              intro v2 H2 w2 e2 st2 r2
              exact hQ v2 H2 e2.back (st.back e2 st2) (r2.calmer (off_back e2 st) hcalm)
            · cases c7
      · cases hk
    · cases hk
  · cases hk
structure Stat (P : Program) (wd : World) (K : PySem.W.Frag) (mg : Str → Option Value) (base : Heap) (G : Gx) (T : List Fn) (C : Tx) : Prop where
  bl : ∀ x, C.bl.contains x = true → mg x = none
  cst : ∀ x d, C.gl.lookup x = some (.cst d) → ∃ u v, mg x = some u ∧ RelV v u ∧ ∀ w H, Rep K G w H d v
  fn : ∀ x k, C.gl.lookup x = some (.fn k) → mg x = some (.ref (G k))
  cls : ∀ x k, C.gl.lookup x = some (.cls k) → mg x = some (.ref (G k))
  exc : ∀ k, C.ex.contains k = true → PySem.W.excIn K (G k) He.veBase "ValueError.__new__" = true ∧ PySem.W.keepIn K (.ref (G k)) = true ∧ PySem.W.subIn K (.ref (G k)) (.type "BaseException") = some true ∧ PySem.W.typeIn K (.ref (G k)) = some (.type "type")
  exm : ∀ k j b, C.exm.lookup (k, j) = some b → PySem.W.exmOne K (.ref (G k)) (.ref (G j)) = some b
  kit : ∀ k as, C.kit.lookup k = some as → ErrF K G k as
  gd : ∀ k fi w hs, C.fns[k]? = some fi → fi.gd = some (w, hs) → ∃ oc od osl pg bg sg dV kV doc pm an cdv ct a Ng, K.lookup (G k) = some ⟨oc, od, .func (PySem.W.fnOf fi.name fi.name pg bg sg dV kV doc pm an cdv ct), osl⟩ ∧ PySem.W.codeIn K cdv fi.name = true ∧
    L2.Binds K (PySem.W.fnOf fi.name fi.name pg bg sg dV kV doc pm an cdv ct) [a] [] ∧ FnScope Ng [a] sg ∧ (∃ fuel, gdAll C Ng sg fuel a bg = some (w, hs)) ∧ plainName a = true
  tab : ∀ x kvs, C.gl.lookup x = some (.tab kvs) → ∃ a, mg x = some (.ref a) ∧ ∀ z d, kvs.lookup z = some d → ∃ v, KDct K wd a z v ∧ ∀ w H, Rep K G w H d v
  tabI : ∀ x kvs, C.gl.lookup x = some (.tabI kvs) → ∃ a, mg x = some (.ref a) ∧ KDI K a kvs
  defs : ∀ k fi, C.fns[k]? = some fi → PySem.W.keepIn K (.ref (G k)) = true ∧ ∃ fd, (∃ x qual params body scope dvs kws N n, FunD K x qual params body scope dvs kws (G k) fd ∧ FnScope N fi.ps scope ∧ T[k]? = some ⟨fi.ps.length, N.length, cSs C N scope n body⟩ ∧
    (C.lams.contains N = true → ∃ c Pt, fd.code = .ref c ∧ LamX.TabB base mg c Pt ∧ (Pt, qual ++ ".<locals>." ++ "<lambda>") ∈ G.tb ∧ ∀ p ∈ G.tb, p.1 = Pt → p.2 = qual ++ ".<locals>." ++ "<lambda>")) ∧ ∀ p ∈ fi.pats, BindF K G fd fi.ps p.1 p.2.1 p.2.2
section
variable {P : Program} {wd : World} {K : PySem.W.Frag} {mg : Str → Option Value} {base : Heap} {G : Gx} {T : List Fn} {C : Tx}
theorem Stat.np (st : Stat P wd K mg base G T C) : ∀ (k : Nat) (fi : FI) (fn : Fn), C.fns[k]? = some fi → T[k]? = some fn → fn.np = fi.ps.length := fun k fi fn h1 h2 => by
  obtain ⟨_, fd, ⟨_, _, _, _, _, _, _, _, _, _, _, ht, _⟩, _⟩ := st.defs k fi h1
  rw [h2] at ht
  cases ht
  rfl
theorem _root_.L2.FunD.at_ {x qual : Str} {params : Arguments} {body : List Stmt} {scope : Scope} {dvs : List V} {kws : List (Str × V)} {f : Addr} {fd : FuncData} (F : FunD K x qual params body scope dvs kws f fd) : ∃ oc od osl, K.lookup f = some ⟨oc, od, .func fd, osl⟩ := by
  obtain ⟨oc, od, _, _, _, _, _, _, _, osl, _, lk, _⟩ := F.ex
  exact ⟨oc, od, osl, lk⟩
theorem evF_zero {T : List Fn} {lf k : Nat} {args : List D} {S : Store} : evF T lf 0 k args S = .bad := by rw [evF]
theorem no_fi {C : Tx} {k : Nat} {fi : FI} (h : C.nof.fns[k]? = some fi) : False := by
  have h' : ([] : List FI)[k]? = some fi := h
  simp at h'
theorem Stat.f0 (st : Stat P wd K mg base G T C) : Facts P wd K mg base G T 1 C.nof 0 :=
  ⟨st.bl, st.cst, st.fn, st.cls, fun k fi h => (no_fi h).elim, st.exc, st.exm, st.kit, fun k fi w hs h => (no_fi h).elim, st.tab, st.tabI, fun h => absurd h (by decide)⟩
theorem Stat.gdf (st : Stat P wd K mg base G T C) : ∀ k fi w hs, C.fns[k]? = some fi → fi.gd = some (w, hs) → ∃ oc od osl pg bg sg dV kV doc pm an cdv ct a Ng, K.lookup (G k) = some ⟨oc, od, .func (PySem.W.fnOf fi.name fi.name pg bg sg dV kV doc pm an cdv ct), osl⟩ ∧ PySem.W.codeIn K cdv fi.name = true ∧
    L2.Binds K (PySem.W.fnOf fi.name fi.name pg bg sg dV kV doc pm an cdv ct) [a] [] ∧ FnScope Ng [a] sg ∧ (∀ (X : Cx) (qn : Str) (n : Nat), X.prog = P → X.w = wd → X.K = K → X.mg = mg → X.base = base → Room (n + 1) X.A → LamX.GivesTo X Ng fi.name sg (G k) cdv bg a qn (TTx K G w hs)) ∧ plainName a = true := fun k fi w hs h1 h2 => by
  obtain ⟨oc, od, osl, pg, bg, sg, dV, kV, doc, pm, an, cdv, ct, a, Ng, e1, e2, e3, e4, ⟨fuel, e5⟩, e6⟩ := st.gd k fi w hs h1 h2
  refine ⟨oc, od, osl, pg, bg, sg, dV, kV, doc, pm, an, cdv, ct, a, Ng, e1, e2, e3, e4, fun X qn n x1 x2 x3 x4 x5 hr => ?_, e6⟩
  subst x1 x2 x3 x4 x5
  unfold gdAll at e5
  unfold TTx
  split at e5
  · rename_i w' hs' hg
    split at e5
    · cases e5
    · rename_i hw
      cases e5
      rw [if_neg hw]
      exact gives_pre (fun x j hj => st.cls x j hj) hg
  · cases hk : kpOf C.nof Ng sg fuel a bg with
    | none => rw [hk] at e5; cases e5
    | some t =>
      rw [hk] at e5
      cases e5
      rw [if_pos rfl]
      exact gives_keep st.f0 rfl hr e4 e6 hk
theorem facts_zero (st : Stat P wd K mg base G T C) (lf : Nat) (ow : Own G lf) : Facts P wd K mg base G T lf C 0 := ⟨st.bl, st.cst, st.fn, st.cls, fun k fi h => by
      obtain ⟨h1, fd, ⟨_, _, _, _, _, _, _, _, _, F, _, _, _⟩, h3⟩ := st.defs k fi h
      refine ⟨h1, fd, F.at_, ⟨fun vs H Q E q => q.1, fun A outer s H args us vs Q E _ _ _ _ _ q => ?_⟩, h3⟩
      obtain ⟨_, ds, S, w, _, _, q⟩ := q
      rw [evF_zero] at q
      exact q.elim, st.exc, st.exm, st.kit, st.gdf, st.tab, st.tabI, ow⟩
theorem facts_step (st : Stat P wd K mg base G T C) (lf lv : Nat) (ow : Own G lf) (hf : Facts P wd K mg base G T lf C lv) (hlo : lf % 2 = 0 → ∀ lv', lv = lv' + 2 → Facts P wd K mg base G T (lf + 1) C lv') : Facts P wd K mg base G T lf C (lv + 1) := ⟨st.bl, st.cst, st.fn, st.cls, fun k fi h => by
      obtain ⟨h1, fd, ⟨x, qual, params, body, scope, dvs, kws, N, n, F, sc, ht, hlam⟩, h3⟩ := st.defs k fi h
      refine ⟨h1, fd, F.at_, fnG_of F sc (fun vs H Q E q => q.1) fun cdv A outer s H vs Q E hcd hr hgu hsp => ?_, h3⟩
      have ok : OkS G T lf C lv N scope (cxOf (L2.CX P wd) P wd K mg base N qual scope (G k) cdv A outer s H E) (fun cls d _ H => E cls d H) :=
        ⟨⟨hf, rfl, sc.nd, rfl, rfl, hgu, hr, takes_of rfl rfl rfl rfl, fun _ hl => by
            obtain ⟨c, Pt, e1, e2, e3, e4⟩ := hlam hl
            have hq : (cxOf (L2.CX P wd) P wd K mg base N qual scope (G k) cdv A outer s H E).env.qual = qual ++ ".<locals>." := rfl
            rw [hq]
            exact ⟨c, Pt, e2, hcd.symm.trans e1, e3, e4⟩, fun hz lv' e => hlo hz lv' e⟩, sc.kind, fun _ => rfl, passes_of rfl, rfl, rfl⟩
      refine ⟨_, (snd_S (lm := lamAt T lf lv) st.np (fun _ => rfl) n _ _ ok).2 body, ?_⟩
      obtain ⟨hl, ds, S, w, rst, rds, q⟩ := hsp
      have hlen : ds.length = fi.ps.length := by rw [rds.length, hl]
      simp only [evF_succ, cfAt, ht, hlen, decide_true, if_true] at q
      refine ⟨ds.map some ++ List.replicate (N.length - fi.ps.length) none, S, w, ⟨rst, ?_⟩, ?_⟩
      · refine ⟨by simp [L2.start, hlen, hl], fun i d hd => ?_⟩
        unfold L2.start
        by_cases hi : i < ds.length
        · rw [List.getElem?_append_left (by simpa using hi)] at hd
          rw [List.getElem?_append_left (by rw [List.length_map, hl, ← hlen]; exact hi)]
          rw [List.getElem?_map] at hd ⊢
          cases e : ds[i]? with
          | none => rw [e] at hd; cases hd
          | some d' =>
            rw [e] at hd
            cases hd
            obtain ⟨v, h1, h2⟩ := rds.get e
            exact ⟨v, by rw [h1]; rfl, h2⟩
        · rw [List.getElem?_append_right (by simpa using hi)] at hd
          rw [List.getElem?_replicate] at hd
          split at hd <;> cases hd
      · show PostS K G (fun cls d _ H => E cls d H) (evSs ⟨lf, evF T lf lv, lamAt T lf lv⟩ (cSs C N scope n body) (ds.map some ++ List.replicate (N.length - fi.ps.length) none) S) w H _
        generalize evSs ⟨lf, evF T lf lv, lamAt T lf lv⟩ (cSs C N scope n body) (ds.map some ++ List.replicate (N.length - fi.ps.length) none) S = r at q ⊢
        cases r with
        | nx e S' => exact fun σ' H' w' ex R' => q .non H' w ex.back (rst.back ex R'.st) .non
        | rt d S' =>
          intro v H' w' ex st' rv
          simp only [finR] at q
          by_cases hc : d.calm = true
          · rw [if_pos hc] at q
            exact q v H' w ex.back (rst.back ex st') (rv.calmer (off_back ex rst) hc)
          · rw [if_neg hc] at q
            exact q v H' w' ex st' rv
        | exc x e S' => exact fun σ' cls dd H' w' ex R' xr => q cls dd H' w ex.back (rst.back ex R'.st) xr
        | bk _ _ => exact q.elim
        | ct _ _ => exact q.elim
        | bad => exact q.elim, st.exc, st.exm, st.kit, st.gdf, st.tab, st.tabI, ow⟩
theorem facts_all (st : Stat P wd K mg base G T C) : ∀ m lv, lv ≤ m → ∀ lf, Own G lf → Facts P wd K mg base G T lf C lv
  | _, 0, _, lf, ow => facts_zero st lf ow
  | 0, lv + 1, hm, _, _ => absurd hm (by omega)
  | m + 1, lv + 1, hm, lf, ow => facts_step st lf lv ow (facts_all st m lv (by omega) lf ow) fun hz lv' e => facts_all st m lv' (by omega) (lf + 1) fun h => ow (by omega)
theorem facts_of (st : Stat P wd K mg base G T C) (lf lv : Nat) (ow : Own G lf) : Facts P wd K mg base G T lf C lv := facts_all st lv lv (Nat.le_refl _) lf ow
end
end Ev
/-! Ev, part M: binding; a law's end. -/
namespace Ev
open PySem PySem.Spec PyProof.Rows L2
/-! ### binding -/
inductive Sl where
  | a (j : Nat)
  | m (i : Nat)
def pick {α : Type} (us mv : List α) : List Sl → List α
  | [] => []
  | .a j :: r => match us[j]? with
    | some u => u :: pick us mv r
    | none => pick us mv r
  | .m i :: r => match mv[i]? with
    | some u => u :: pick us mv r
    | none => pick us mv r
def slSrc (md : List D) : List Sl → List Src
  | [] => []
  | .a j :: r => .arg j :: slSrc md r
  | .m i :: r => match md[i]? with
    | some d => .dfl d :: slSrc md r
    | none => slSrc md r
theorem Vals.get_ {vs : List V} {us : List Value} (h : Vals vs us) : ∀ {i : Nat} {v : V}, vs[i]? = some v → ∃ u, us[i]? = some u ∧ RelV v u := by
  induction h with
  | nil => intro i v h; simp at h
  | cons r _ ih =>
    intro i v h
    cases i with
    | zero => simp at h; subst h; exact ⟨_, rfl, r⟩
    | succ i => exact ih (by simpa using h)
theorem pick_ok {K : PySem.W.Frag} {G : Gx} {w : Wd} {H : Hp} {ds md : List D} {vs mw : List V} {us mv : List Value} (r : Reps K G w H ds vs) (v : Vals vs us) (rm : Reps K G w H md mw) (vm : Vals mw mv) :
    ∀ {ss : List Sl} {es : List D}, getSrc ds (slSrc md ss) = some es → ∃ xs, Reps K G w H es xs ∧ Vals xs (pick us mv ss)
  | [], es, h => by
    cases h
    exact ⟨[], .nil, .nil⟩
  | .a j :: ss, es, h => by
    simp only [slSrc, getSrc] at h
    split at h
    · rename_i d es' h1 h2
      cases h
      obtain ⟨xs, q1, q2⟩ := pick_ok r v rm vm h2
      obtain ⟨x, g1, g2⟩ := r.get h1
      obtain ⟨u, k1, k2⟩ := Vals.get_ v g1
      simp only [pick, k1]
      exact ⟨x :: xs, .cons g2 q1, .cons k2 q2⟩
    · cases h
  | .m i :: ss, es, h => by
    simp only [slSrc] at h
    cases e : md[i]? with
    | none =>
      rw [e] at h
      have e2 : mv[i]? = none := by
        rw [List.getElem?_eq_none_iff] at e ⊢
        rw [← vm.length, ← rm.length]; exact e
      simp only [pick, e2]
      exact pick_ok r v rm vm h
    | some d =>
      rw [e] at h
      simp only [getSrc] at h
      cases e3 : getSrc ds (slSrc md ss) with
      | none => rw [e3] at h; cases h
      | some es' =>
        rw [e3] at h
        cases h
        obtain ⟨xs, q1, q2⟩ := pick_ok r v rm vm e3
        obtain ⟨x, g1, g2⟩ := rm.get e
        obtain ⟨u, k1, k2⟩ := Vals.get_ vm g1
        simp only [pick, k1]
        exact ⟨x :: xs, .cons g2 q1, .cons k2 q2⟩
section
variable {K : PySem.W.Frag} {G : Gx} {x qual : Str} {params : Arguments} {body : List Stmt} {scope : Scope} {kws : List (Str × V)} {f : Addr} {fd : FuncData} {ps : List Str}
theorem bindF_all (F : FunD K x qual params body scope [] kws f fd) (n : Nat) (ks : List Str) (ss : List Sl)
    (h : ∀ (kV doc pm : Value) (an : Option Addr) (cdv ct : Value) (us ws : List Value), us.length = n → ws.length = ks.length → bindArgs (PySem.W.fnOf x qual params body scope .none kV doc pm an cdv ct) ⟨us, ks.zip ws⟩ = pure (ps.zip (pick (us ++ ws) [] ss))) : BindF K G fd ps n ks (slSrc [] ss) := by
  obtain ⟨oc, od, dV, kV, doc, pm, an, cdv, ct, osl, rfl, lk, hcd, hD, hK⟩ := F.ex
  rcases hD with ⟨_, rfl⟩ | ⟨e, _⟩
  · exact ⟨⟨fun us => pick us [] ss, fun s us ws _ l1 l2 => .of_eq (h kV doc pm an cdv ct us ws l1 l2), fun w H ds es vs us r v _ q => pick_ok r v .nil .nil q⟩⟩
  · exact absurd rfl e
theorem bindF_kw (F : FunD K x qual params body scope [] kws f fd) (n : Nat) (ks : List Str) (ss : List Sl) (ms : List (Str × V)) (md : List D) (hms : ∀ q ∈ ms, q ∈ kws) (hk : kws ≠ []) (hr : ∀ w H, Reps K G w H md (ms.map (·.2)))
    (h : ∀ (D' : Addr) (doc pm : Value) (an : Option Addr) (cdv ct : Value) (us ws mv : List Value), us.length = n → ws.length = ks.length → mv.length = ms.length →
      KwChain D' ((ms.map (·.1)).zip mv) (bindArgs (PySem.W.fnOf x qual params body scope .none (.ref D') doc pm an cdv ct) ⟨us, ks.zip ws⟩) (ps.zip (pick (us ++ ws) mv ss))) : BindF K G fd ps n ks (slSrc md ss) := by
  obtain ⟨oc, od, dV, kV, doc, pm, an, cdv, ct, osl, rfl, lk, hcd, hD, hK⟩ := F.ex
  rcases hD with ⟨_, rfl⟩ | ⟨e, _⟩
  · rcases hK with e | ⟨D', rfl, hq⟩
    · exact absurd e hk
    · obtain ⟨mv, l, vm, hl⟩ := kwd_vals (K := K) (D := D') (ms := ms) fun q hq2 => hq q (hms q hq2)
      exact ⟨⟨fun us => pick us mv ss, fun s us ws X l1 l2 => L2.BindsTo.of_looks fun M => KwChain.looks X hl (h D' doc pm an cdv ct us ws mv l1 l2 l), fun w H ds es vs us r v _ q => pick_ok r v (hr w H) vm q⟩⟩
  · exact absurd rfl e
end
/-! ### the law's call -/
/-- where the call begins the script alone is tracked, and the tables, which are empty -/
def H0 (K : PySem.W.Frag) (cs : List (Addr × Addr)) (a : Addr) (vs : List Value) (ns : List Int) : Hp := fun b =>
  if b ∈ cs.map (·.2) then some (.tbl #[]) else if b = a ∧ K.lookup a = none then some (.frz { cls := .type "list", data := .seq vs.toArray } (.lst (ns.map V.int))) else none
theorem H0_at {K : PySem.W.Frag} {cs : List (Addr × Addr)} {a b : Addr} {vs : List Value} {ns : List Int} {o : HO} (h : H0 K cs a vs ns b = some o) :
    (b ∈ cs.map (·.2) ∧ o = .tbl #[]) ∨ (b ∉ cs.map (·.2) ∧ b = a ∧ K.lookup a = none ∧ o = .frz { cls := .type "list", data := .seq vs.toArray } (.lst (ns.map V.int))) := by
  unfold H0 at h
  split at h
  · rename_i c; cases h; exact .inl ⟨c, rfl⟩
  · rename_i c
    split at h
    · rename_i c2; cases h; exact .inr ⟨c, c2.1, c2.2, rfl⟩
    · cases h
theorem script_rep {K : PySem.W.Frag} {G : Gx} {H : Hp} {a : Addr} {ns : List Int} (h : FrzAt K ⟨[], []⟩ H a (ns.map V.int)) : Rep K G ⟨[], []⟩ H (.frz (ns.map D.int)) (.ref a) := by
  refine .frz h ?_
  clear h
  induction ns with
  | nil => exact .nil
  | cons n r ih => exact .cons (.int n) ih
theorem call_law {P : Program} {wd : World} {K : PySem.W.Frag} {mg mb : Str → Option Value} {G : Gx} {T : List Fn} {lf lv kl : Nat} {fa a : Addr} {cs : List (Addr × Addr)} {fd : FuncData} {x : Str} {s₁ : Shared} {vs : List Value} {ns : List Int}
    (KX : K.In s₁.heap) (hns : s₁.heap.Ns mainGlobals mg) (hb : s₁.heap.Ns builtinsNs mb) (hbb : ∀ x : Str, x ≠ "__name__" → mb x = bootBuiltins x) (hlim : s₁.heap.NoLimit) (hg : s₁.gens = #[])
    (tE : ∀ q ∈ cs, s₁.heap.get? q.2 = some { cls := .none, data := .fields #[] }) (tN : ∀ q ∈ cs, K.lookup q.2 = none) (tC : ∀ q ∈ cs, PySem.W.CodeHd s₁.heap q.1 q.2)
    (tM : cs ≠ [] → ∃ (bm : Addr) (om : Obj), mg "__builtins__" = some (.ref bm) ∧ bm ≠ builtinsNs ∧ s₁.heap.get? bm = some om ∧ om.cls = .type "module" ∧ om.dict = some builtinsNs ∧ om.data = .plain)
    (tG : ∀ p ∈ G.tb, ∃ q ∈ cs, p.1 = q.2)
    (ha : s₁.heap.get? a = some { cls := .type "list", data := .seq vs.toArray }) (hi : IntsAre vs ns) (hl : ns.length ≤ sizeLine) (hr : Room lv callerA)
    (F : ∀ base : Heap, K.In base → base.Ns mainGlobals mg → (∀ q ∈ cs, LamX.TabB base mg q.1 q.2) → FnG (lf % 2 = 0) P wd K mg base lv fa fd [x] (spF K G T lf lv kl 1)) (hbind : ∀ (s : Shared) (u : Value), BindsTo s fd ⟨[u], []⟩ [(x, u)])
    (hlaw : ∃ S, evF T lf lv kl [.frz (ns.map D.int)] [] = .ok (.bl true) S) :
    codeAny (model P wd) callerA (.call (.ref fa) ⟨[.ref a], []⟩) (fun r s' => r = .ok (.ret (.bool true)) ∧ OldK s₁.heap s'.heap ∧ s'.os = s₁.os ∧ AllBare s'.gens) s₁ := by
  have rv := vals_ints hi
  have lenV := hi.length
  generalize eH : H0 K cs a vs ns = H
  have at_ : ∀ {b : Addr} {o : HO}, H b = some o → (b ∈ cs.map (·.2) ∧ o = .tbl #[]) ∨ (b ∉ cs.map (·.2) ∧ b = a ∧ K.lookup a = none ∧ o = .frz { cls := .type "list", data := .seq vs.toArray } (.lst (ns.map V.int))) := fun h => by subst eH; exact H0_at h
  have tab : ∀ b ∈ cs.map (·.2), s₁.heap.get? b = some { cls := .none, data := .fields #[] } ∧ K.lookup b = none := fun b m => by
    obtain ⟨q, hq, rfl⟩ := List.mem_map.mp m
    exact ⟨tE q hq, tN q hq⟩
  have hok : HOk P wd H s₁.heap := fun b o h => by
    rcases at_ h with ⟨m, rfl⟩ | ⟨_, rfl, _, rfl⟩
    · exact (tab b m).1
    · exact ⟨ha, by rw [List.length_map]; exact hl, vs, _, rv, ha⟩
  have keepB : ∀ {b : Addr} {o : Obj}, s₁.heap.get? b = some o → H b = none → (hidT s₁.heap H).get? b = some o := fun e n => hidT_get e n
  have offO : ∀ {b : Addr} {o : Obj}, s₁.heap.get? b = some o → (∀ us n, o.data ≠ .seq us n) → o.data ≠ .fields #[] → H b = none := fun {b o} e d1 d2 => by
    cases q : H b with
    | none => rfl
    | some u =>
      rcases at_ q with ⟨m, _⟩ | ⟨_, rfl, _, _⟩
      · rw [(tab b m).1] at e
        cases e
        exact (d2 rfl).elim
      · rw [ha] at e
        cases e
        exact (d1 _ _ rfl).elim
  have nsB : ∀ {b : Addr} {m : Str → Option Value}, s₁.heap.Ns b m → (hidT s₁.heap H).Ns b m := fun ⟨o, es, ep, e, d, r⟩ => ⟨o, es, ep, keepB e (offO e (fun us n z => by rw [d] at z; cases z) (fun z => by rw [d] at z; cases z)), d, r⟩
  have inB : K.In (hidT s₁.heap H) := fun b o e => keepB (KX b o e) (by
    cases q : H b with
    | none => rfl
    | some u =>
      rcases at_ q with ⟨m, _⟩ | ⟨_, rfl, z, _⟩
      · rw [(tab b m).2] at e; cases e
      · rw [z] at e; cases e)
  have hM : Mod K mg (hidT s₁.heap H) := ⟨inB, nsB hns, ⟨mb, nsB hb, hbb⟩, hlim.elim fun mc z => ⟨mc, nsB z.1, z.2⟩⟩
  have tB : ∀ q ∈ cs, LamX.TabB (hidT s₁.heap H) mg q.1 q.2 := fun q hq => by
    have e2 := tE q hq
    refine ⟨?_, ?_, fun z => ?_⟩
    · obtain ⟨o, us, y1, y2, y3, y4, y5, y6, y7, g1, r1, r2, r3, r4⟩ := tC q hq
      exact ⟨o, us, y1, y2, y3, y4, y5, y6, y7, keepB g1 (offO g1 (fun us n z => by rw [r2] at z; cases z) (fun z => by rw [r2] at z; cases z; simp at r3)), r1, r2, r3, r4⟩
    · obtain ⟨bm, om, m1, m2, m3, m4, m5, m6⟩ := tM (by rintro rfl; cases hq)
      refine ⟨bm, om, m1, m2, fun z => ?_, fun z => ?_, keepB m3 (offO m3 (fun us n z => by rw [m6] at z; cases z) (fun z => by rw [m6] at z; cases z)), m4, m5, m6⟩
      · obtain ⟨o, es, ep, g, d, _⟩ := hns
        rw [z, g] at m3
        cases m3
        rw [d] at m6
        cases m6
      · rw [z, e2] at m3
        cases m3
        cases m6
    · obtain ⟨o, es, ep, g, d, _⟩ := hns
      rw [z, e2] at g
      cases g
      cases d
  have env0 : Env0 P wd K mg (hidT s₁.heap H) callerA [] s₁ H := ⟨rfl, hM, fun b o e => of_hidT e, Nat.le_of_eq (hidT_size _ _), trivial, fun b hb => absurd (show b ∈ ([] : List Addr) from hb) (by simp), hok, .of_eq hg⟩
  have aT : a ∉ cs.map (·.2) := fun m => by
    rw [(tab a m).1] at ha
    cases ha
  have frz : FrzAt K ⟨[], []⟩ H a (ns.map V.int) := by
    cases hk : K.lookup a with
    | none => exact .inl ⟨{ cls := .type "list", data := .seq vs.toArray }, by subst eH; exact (if_neg aT).trans (if_pos ⟨rfl, hk⟩), by simp [Wd.off]⟩
    | some o =>
      have e := KX a o hk
      rw [ha] at e
      cases e
      exact .inr ⟨_, vs.toArray, _, hk, rfl, rfl, rfl, by rw [List.size_toArray, lenV]; exact hl, by simpa using rv⟩
  have tabs : LamX.Tabs G.tb H := fun p hp => by
    obtain ⟨q, hq, e⟩ := tG p hp
    rw [e]
    exact LamX.TabS.nil (by subst eH; exact if_pos (List.mem_map.mpr ⟨q, hq, rfl⟩))
  obtain ⟨S, hS⟩ := hlaw
  have sp : spF K G T lf lv kl 1 [.ref a] H (fun v _ => v = .bl true) (fun _ _ _ => False) := by
    refine ⟨rfl, [.frz (ns.map D.int)], [], ⟨[], []⟩, ⟨rfl, List.nodup_nil, fun l ds h => by simp at h, fun b h => (by cases h), tabs⟩, .cons (script_rep frz) .nil, ?_⟩
    rw [hS]
    intro v H' w' _ _ rv
    cases rv
    rfl
  refine codeAny_mono ((F _ inB (nsB hns) tB).run callerA [] s₁ H ⟨[.ref a], []⟩ [.ref a] [.ref a] _ _ hr (fun _ => rfl) env0 (hbind s₁ (.ref a)) (.cons rfl .nil) sp) fun r s' h => ?_
  cases r with
  | error e =>
    obtain ⟨_, _, _, _, _, _, _, _, _, _, _, _, z⟩ := h
    exact z.elim
  | ok fl =>
    cases fl with
    | ret u =>
      obtain ⟨v, H', os, bare, un, hok', r', q⟩ := h
      cases (show v = .bl true from q)
      cases (show u = Value.bool true from r')
      have same : ∀ b o, b ∉ cs.map (·.2) → s₁.heap.get? b = some o → s'.heap.get? b = some o := fun b o nb e => by
        cases q : H b with
        | none => exact un.keep b o e q (fun z => by cases (show b ∈ ([] : List Addr) from z)) (by simp)
        | some u =>
          rcases at_ q with ⟨m, _⟩ | ⟨_, rfl, _, rfl⟩
          · exact absurd m nb
          · have z2 := un.frzs b _ _ q
            have e2 := (hok' b _ z2).1
            rw [ha] at e
            cases e
            exact e2
      have more : ∀ q ∈ cs, ∃ ms : Array Value, s'.heap.get? q.2 = some { cls := .none, data := .fields ms } := fun q hq => by
        obtain ⟨ms, z⟩ := un.tbls q.2 #[] (by subst eH; exact if_pos (List.mem_map.mpr ⟨q, hq, rfl⟩))
        exact ⟨_, hok' q.2 _ z⟩
      refine ⟨rfl, ⟨fun b o e => ?_, fun b o e => ?_⟩, os, bare⟩
      · by_cases m : b ∈ cs.map (·.2)
        · obtain ⟨q, hq, rfl⟩ := List.mem_map.mp m
          obtain ⟨ms, z⟩ := more q hq
          rw [tE q hq] at e
          cases e
          exact .inr (.inl ⟨((tC q hq).tab (tE q hq)).isCodeTable, rfl, #[], ms, rfl, by rw [Array.empty_append]; exact z⟩)
        · exact .inl (same b o m e)
      · by_cases m : b ∈ cs.map (·.2)
        · obtain ⟨q, hq, rfl⟩ := List.mem_map.mp m
          obtain ⟨ms, z⟩ := more q hq
          exact ⟨_, z⟩
        · exact ⟨o, same b o m e⟩
    | _ => exact False.elim h
/-- a law, from the facts of its head -/
theorem walk_law {l : PySem.W.OpenLaw} {n lv : Nat} {q : Program} {loose : List Str} {XP : (Str → Option Value) → Heap → Prop} {YP : World → Heap → Prop} {d : DefRec} {x : Str}
    (hn : l.most = some n) (hn2 : n ≤ sizeLine) (hdf : d.params.defaults = []) (hr : Room lv callerA)
    (F : ∀ (w : World) (mg : Str → Option Value) (fa : Addr) (h : Heap), YP w h → h.Ns mainGlobals mg → mg d.name = some (.ref fa) →
      ∃ (K : PySem.W.Frag) (fd : FuncData) (G : Gx) (T : List Fn) (lf kl : Nat) (cs : List (Addr × Addr)), K.In h ∧ (∀ q ∈ cs, h.get? q.2 = some { cls := .none, data := .fields #[] }) ∧ (∀ q ∈ cs, K.lookup q.2 = none) ∧ (∀ q ∈ cs, PySem.W.CodeHd h q.1 q.2) ∧
        (cs ≠ [] → ∃ (bm : Addr) (om : Obj), mg "__builtins__" = some (.ref bm) ∧ bm ≠ builtinsNs ∧ h.get? bm = some om ∧ om.cls = .type "module" ∧ om.dict = some builtinsNs ∧ om.data = .plain) ∧ (∀ p ∈ G.tb, ∃ q ∈ cs, p.1 = q.2) ∧
        (∀ (s : Shared) (u : Value), BindsTo s fd ⟨[u], []⟩ [(x, u)]) ∧
        (∀ ns : List Int, ns.length ≤ n → (∀ k ∈ ns, Builtin.Int.intBits k ≤ 1048576) → ∃ S, evF T lf lv kl [.frz (ns.map D.int)] [] = .ok (.bl true) S) ∧
        ∀ base : Heap, K.In base → base.Ns mainGlobals mg → (∀ q ∈ cs, LamX.TabB base mg q.1 q.2) → FnG (lf % 2 = 0) l.prog w K mg base lv fa fd [x] (spF K G T lf lv kl 1)) :
    PySem.W.WalkO q loose XP YP l.row.toRowW d [] (fun f vs => PySem.call f vs) := by
  refine Att.attach_callB hn hdf fun w s₀ s₁ mg mb fa o pm cd doc a vs ns Gr Y ho hd hcd hmg hobj hints hlen hbits hg => ?_
  obtain ⟨K, fd, G, T, lf, kl, cs, KX, t1, t2, t3, t4, t5, hb, hlaw, hF⟩ := F w mg fa _ Y Gr.T.g hmg
  exact call_law KX Gr.T.g Gr.T.b Gr.T.builtins Gr.T.nolimit hg t1 t2 t3 t4 t5 hobj hints (Nat.le_trans hlen hn2) hr hF hb (hlaw ns hlen hbits)
end Ev
/-! Ev, part N: a law's text as data; what its head tells gives Stat. -/
namespace Ev
open PySem PySem.Spec PyProof.Rows L2
structure Df where
  x : Str
  i : Nat
  N : List Str
  ps : List Str
  kwd : List (Str × He.Dv)
  pats : List (Nat × List Str × List Src)
structure Lw where
  body : List Stmt
  ds : List Df
  cls : List Str
  csts : List (Str × Int)
  bl : List Str
  mus : List (Nat × Nat)
  fuel : Nat
  exs : List Str := []
  exm : List (Str × Str × Bool) := []
  gds : List Str := []
  lamd : List Str := []
  cds : List (Str × D) := []
  vls : List Str := []
  kits : List (Str × List ((Str ⊕ String) × Bool)) := []
  tbs : List (Str × List (Str × D)) := []
  tbi : List (Str × List (Int × Int)) := []
mutual
/-- a constant of the text is this -/
def cstB (K : PySem.W.Frag) : D → Value → Bool
  | .int i, u => (match u with | .int j _ => decide (j = i) | _ => false)
  | .str x, u => (match u with | .str y _ => decide (y = x) | _ => false)
  | .bl b, u => (match u with | .bool c => decide (c = b) | _ => false)
  | .non, u => (match u with | .none => true | _ => false)
  | .tup ds, u => (match u with
    | .ref a => (match K.lookup a with
      | some ⟨.type c, _, .seq its _, _⟩ => decide (c = "tuple") && (decide (its.size ≤ sizeLine) && cstBs K ds its.toList)
      | _ => false)
    | _ => false)
  | .lst _, _ => false
  | .frz _, _ => false
  | .ref _, _ => false
  | .gl _, _ => false
  | .ty _, _ => false
  | .dct, _ => false
  | .mk _, _ => false
  | .sz _, _ => false
  | .exn _ _, _ => false
  | .dic _ _, _ => false
  | .rg _ _, _ => false
def cstBs (K : PySem.W.Frag) : List D → List Value → Bool
  | [], us => us.isEmpty
  | d :: ds, us => (match us with
    | u :: us => cstB K d u && cstBs K ds us
    | [] => false)
end
def D.noT : D → Bool
  | .tup _ => false
  | _ => true
mutual
theorem cstB_ok {K : PySem.W.Frag} {G : Gx} : ∀ {d : D} {u : Value}, (G.own = true → d.noT = true) → cstB K d u = true → ∃ v, RelV v u ∧ ∀ w H, Rep K G w H d v
  | .int i, u, ho, h => by
    unfold cstB at h
    split at h
    · rename_i j t
      have e := of_decide_eq_true h
      subst e
      exact ⟨.int _, ⟨t, rfl⟩, fun w H => .int _⟩
    · cases h
  | .str x, u, ho, h => by
    unfold cstB at h
    split at h
    · rename_i j t
      have e := of_decide_eq_true h
      subst e
      exact ⟨.str _, ⟨t, rfl⟩, fun w H => .str _⟩
    · cases h
  | .bl x, u, ho, h => by
    unfold cstB at h
    split at h
    · have e := of_decide_eq_true h
      subst e
      exact ⟨.bl _, rfl, fun w H => .bl _⟩
    · cases h
  | .non, u, ho, h => by
    unfold cstB at h
    split at h
    · exact ⟨.non, rfl, fun w H => .non⟩
    · cases h
  | .tup ds, u, ho, h => by
    unfold cstB at h
    split at h
    · rename_i a
      split at h
      · rename_i c dd its n sl hk
        simp only [Bool.and_eq_true, decide_eq_true_eq] at h
        obtain ⟨h1, h2, h3⟩ := h
        subst h1
        obtain ⟨vs, h4, h5⟩ := cstBs_ok (G := G) (fun q => absurd (ho q) (by simp [D.noT])) h3
        exact ⟨.ref a, rfl, fun w H => .tup (.inr ⟨_, its, n, hk, rfl, rfl, h2, h4⟩) (h5 w H) (fun q => absurd (ho q) (by simp [D.noT]))⟩
      · cases h
    · cases h
  | .lst _, _, ho, h => by simp [cstB] at h
  | .frz _, _, ho, h => by simp [cstB] at h
  | .ref _, _, ho, h => by simp [cstB] at h
  | .gl _, _, ho, h => by simp [cstB] at h
  | .ty _, _, ho, h => by simp [cstB] at h
  | .mk _, _, ho, h => by cases h
  | .dct, _, ho, h => by simp [cstB] at h
  | .sz _, _, ho, h => by simp [cstB] at h
  | .exn _ _, _, ho, h => by simp [cstB] at h
  | .dic _ _, _, ho, h => by simp [cstB] at h
  | .rg _ _, _, ho, h => by simp [cstB] at h
theorem cstBs_ok {K : PySem.W.Frag} {G : Gx} : ∀ {ds : List D} {us : List Value}, (G.own = true → False) → cstBs K ds us = true → ∃ vs, Vals vs us ∧ ∀ w H, Reps K G w H ds vs
  | [], us, ho, h => by
    unfold cstBs at h
    rw [List.isEmpty_iff.mp h]
    exact ⟨[], .nil, fun _ _ => .nil⟩
  | d :: ds, us, ho, h => by
    unfold cstBs at h
    split at h
    · simp only [Bool.and_eq_true] at h
      obtain ⟨v, h1, h2⟩ := cstB_ok (G := G) (fun q => (ho q).elim) h.1
      obtain ⟨vs, h3, h4⟩ := cstBs_ok (G := G) ho h.2
      exact ⟨v :: vs, .cons h1 h3, fun w H => .cons (h2 w H) (h4 w H)⟩
    · cases h
end
/-- a table's value -/
def tvB (K : PySem.W.Frag) (g : Nat → Addr) (d : D) (u : Value) : Bool := match d with
  | .gl k => (match u with | .ref a => decide (a = g k) | _ => false)
  | d => cstB K d u
theorem tvB_ok {K : PySem.W.Frag} {G : Gx} {d : D} {u : Value} (ho : G.own = true → d.noT = true) (h : tvB K G.f d u = true) : ∃ v, RelV v u ∧ ∀ w H, Rep K G w H d v := by
  cases d with
  | gl k =>
    unfold tvB at h
    simp only at h
    split at h
    · rename_i a
      have e := of_decide_eq_true h
      subst e
      exact ⟨.ref (G.f k), rfl, fun w H => .gl k⟩
    · cases h
  | _ => exact cstB_ok ho h
def tabG (K : PySem.W.Frag) (g : Nat → Addr) (p : Str × List (Str × D)) : Bool := (match PySem.W.nsIn K mainGlobals p.1 with
  | some (some u) => decide (u = .ref (He.ga K p.1))
  | _ => false) && p.2.all fun q => match PySem.W.nsIn K (He.ga K p.1) q.1 with
  | some (some u) => tvB K g q.2 u
  | _ => false
/-- a written dict from numbers to numbers -/
def tabIG (K : PySem.W.Frag) (p : Str × List (Int × Int)) : Bool := (match PySem.W.nsIn K mainGlobals p.1 with
  | some (some u) => decide (u = .ref (He.ga K p.1))
  | _ => false) && kdiB K (He.ga K p.1) p.2
def cstG (K : PySem.W.Frag) (p : Str × D) : Bool := match PySem.W.nsIn K mainGlobals p.1 with
  | some (some u) => cstB K p.2 u
  | _ => false
section
variable (L : Lw)
def Lw.top (i : Nat) : Stmt := L.body.getD i (.Pass ⟨0, 0, 0, 0⟩)
def Df.he (d : Df) : He.DefD := ⟨(d.x, none), d.x, d.x, defArgs (L.top d.i), defBody (L.top d.i), defScope (L.top d.i), [], d.kwd⟩
def Lw.names : List Str := L.ds.map (·.x) ++ L.cls
def Lw.fa : List He.Fa := (L.names.map .glo ++ (L.bl.map .free ++ L.csts.map fun p => .int p.1 p.2)) ++ (L.exs.map .exc ++ L.exm.map fun p => .exm p.1 p.2.1 p.2.2)
def Lw.fn : List He.DefD := L.ds.map (Df.he L)
def glFn : List Df → Nat → List (Str × GK)
  | [], _ => []
  | d :: r, n => (d.x, .fn n) :: glFn r (n + 1)
def glCls : List Str → Nat → List (Str × GK)
  | [], _ => []
  | x :: r, n => (x, .cls n) :: glCls r (n + 1)
def Lw.gl : List (Str × GK) := glFn L.ds 0 ++ (glCls L.cls L.ds.length ++ ((L.csts.map fun p => (p.1, .cst (.int p.2))) ++ ((L.cds.map fun p => (p.1, .cst p.2)) ++ ((L.tbs.map fun p => (p.1, .tab p.2)) ++ L.tbi.map fun p => (p.1, .tabI p.2)))))
def exIx (names : List Str) : List Str → List Nat
  | [] => []
  | x :: r => match idx x names 0 with
    | some k => k :: exIx names r
    | none => exIx names r
def exmIx (names : List Str) : List (Str × Str × Bool) → List ((Nat × Nat) × Bool)
  | [] => []
  | (x, y, b) :: r => match idx x names 0, idx y names 0 with
    | some k, some j => ((k, j), b) :: exmIx names r
    | _, _ => exmIx names r
/-- what kept errors answer, by numbers -/
def ansIx (names : List Str) : List ((Str ⊕ String) × Bool) → List ((Nat ⊕ String) × Bool)
  | [] => []
  | (.inl y, b) :: r => match idx y names 0 with
    | some j => (.inl j, b) :: ansIx names r
    | none => ansIx names r
  | (.inr n, b) :: r => (.inr n, b) :: ansIx names r
def kitIx (names : List Str) : List (Str × List ((Str ⊕ String) × Bool)) → List (Nat × List ((Nat ⊕ String) × Bool))
  | [] => []
  | (x, as) :: r => match idx x names 0 with
    | some k => (k, ansIx names as) :: kitIx names r
    | none => kitIx names r
def Lw.C0 : Tx := ⟨L.gl, [], L.bl, L.mus, exIx L.names L.exs, exmIx L.names L.exm, [], kitIx L.names L.kits⟩
def Lw.gdd (d : Df) : Option (Option Str × List (Nat × Str)) := if L.gds.contains d.x then (match d.ps with
  | [a] => if plainName a then gdAll L.C0 d.N (defScope (L.top d.i)) L.fuel a (defBody (L.top d.i)) else none
  | _ => none) else none
/-- no tuple among the text's constants -/
def Lw.own : Bool := L.cds.all (fun p => p.2.noT) && L.tbs.all fun p => p.2.all fun q => q.2.noT
def Lw.C : Tx := ⟨L.gl, L.ds.map fun d => ⟨d.x, d.ps, d.pats, L.gdd d, L.vls.contains d.x⟩, L.bl, L.mus, exIx L.names L.exs, exmIx L.names L.exm, (L.ds.filter fun d => L.lamd.contains d.x).map (·.N), kitIx L.names L.kits⟩
def Lw.ts : List He.Tab := L.tbs.map fun p => ((fun K => He.ga K p.1), p.2.map (·.1))
def Lw.tf : List He.Defn := L.lamd.map fun x => (x, none)
def Lw.T : List Fn := L.ds.map fun d => ⟨d.ps.length, d.N.length, cSs L.C d.N (defScope (L.top d.i)) L.fuel (defBody (L.top d.i))⟩
def Lw.G (K : PySem.W.Frag) : Gx := ⟨fun k => He.ga K (L.names.getD k ""), L.lamd.map fun x => ((He.cT K (x, none)).2, x ++ ".<locals>." ++ "<lambda>"), L.own⟩
def Lw.cs (K : PySem.W.Frag) : List (Addr × Addr) := L.lamd.map fun x => He.cT K (x, none)
def Lw.lamOk : Bool := L.ds.all fun d => !L.C.lams.contains d.N || L.lamd.contains d.x
def scB (N ps : List Str) (sc : Scope) : Bool :=
  (match sc.kind with | .function => true | _ => false) && (!sc.isCoroutine && (!sc.isGenerator && (decide N.Nodup && (decide (N.take ps.length = ps) && (ps.all (fun x => isLocal sc x) && sc.names.all fun y => match y.2 with | .free => false | _ => true)))))
theorem sc_of {N ps : List Str} {sc : Scope} (h : scB N ps sc = true) : FnScope N ps sc := by
  unfold scB at h
  simp only [Bool.and_eq_true, Bool.not_eq_true', decide_eq_true_eq] at h
  obtain ⟨h1, h2, h3, h4, h5, h6, h7⟩ := h
  refine ⟨?_, h2, h3, h4, h5, fun x hx => loc_of (List.all_eq_true.mp h6 x hx), fun y hy e => ?_⟩
  · revert h1
    cases sc.kind <;> simp
  · have := List.all_eq_true.mp h7 y hy
    rw [e] at this
    cases this
def Lw.scs : Bool := L.ds.all fun d => scB d.N d.ps (defScope (L.top d.i))
theorem rep_glo {L : Lw} {K : PySem.W.Frag} {G : Gx} {x : Str} {ds : List D} (ho : G.own = true → L.own = true) (hc : L.cds.all (cstG K) = true) (h : (x, D.tup ds) ∈ L.cds) : ∀ w H, Rep K G w H (.tup ds) (.ref (He.ga K x)) := by
  have q := List.all_eq_true.mp hc _ h
  unfold cstG at q
  split at q
  · rename_i u hu
    have hn : G.own = true → (D.tup ds).noT = true := fun q => by
      have := ho q
      unfold Lw.own at this
      simp only [Bool.and_eq_true, List.all_eq_true] at this
      exact this.1 _ h
    obtain ⟨v, h1, h2⟩ := cstB_ok (G := G) hn q
    intro w H
    have r := h2 w H
    have hga : ∀ a, u = .ref a → He.ga K x = a := fun a e => by unfold He.ga; rw [hu, e]
    cases r with
    | tup k1 k2 k3 =>
      rw [hga _ h1]
      exact .tup k1 k2 k3
  · cases q
/-- each way of calling binds -/
def BdOk (d : Df) : Prop := ∀ (K : PySem.W.Frag) (G : Gx) (f : Addr) (fd : FuncData), (G.own = true → L.own = true) → L.cds.all (cstG K) = true → FunD K d.x d.x (defArgs (L.top d.i)) (defBody (L.top d.i)) (defScope (L.top d.i)) [] (d.kwd.map fun q => (q.1, q.2.v K)) f fd → ∀ p ∈ d.pats, BindF K G fd d.ps p.1 p.2.1 p.2.2
def DfAll (P : Df → Prop) : List Df → Prop
  | [] => True
  | d :: r => P d ∧ DfAll P r
theorem DfAll.mem {P : Df → Prop} : ∀ {l : List Df}, DfAll P l → ∀ d ∈ l, P d
  | d :: r, ⟨h1, h2⟩, e, he => by
    rcases List.mem_cons.mp he with z | z
    · rw [z]; exact h1
    · exact h2.mem e z
def PatAll (P : Nat × List Str × List Src → Prop) : List (Nat × List Str × List Src) → Prop
  | [] => True
  | d :: r => P d ∧ PatAll P r
theorem PatAll.mem {P : Nat × List Str × List Src → Prop} : ∀ {l : List (Nat × List Str × List Src)}, PatAll P l → ∀ d ∈ l, P d
  | d :: r, ⟨h1, h2⟩, e, he => by
    rcases List.mem_cons.mp he with z | z
    · rw [z]; exact h1
    · exact h2.mem e z
theorem lookup_in {α : Type} {x : Str} {v : α} : ∀ {l : List (Str × α)}, l.lookup x = some v → (x, v) ∈ l
  | [], h => by cases h
  | (y, u) :: r, h => by
    rw [List.lookup_cons] at h
    split at h
    · rename_i e
      cases h
      rw [eq_of_beq e]
      exact List.mem_cons_self
    · exact List.mem_cons_of_mem _ (lookup_in h)
theorem glFn_mem {x : Str} {k : GK} : ∀ {l : List Df} {n : Nat}, (x, k) ∈ glFn l n → ∃ j, k = .fn (n + j) ∧ (l.map (·.x))[j]? = some x
  | d :: r, n, h => by
    rcases List.mem_cons.mp h with z | z
    · cases z; exact ⟨0, rfl, rfl⟩
    · obtain ⟨j, h1, h2⟩ := glFn_mem z
      exact ⟨j + 1, by rw [h1]; congr 1; omega, by simpa using h2⟩
theorem glCls_mem {x : Str} {k : GK} : ∀ {l : List Str} {n : Nat}, (x, k) ∈ glCls l n → ∃ j, k = .cls (n + j) ∧ l[j]? = some x
  | d :: r, n, h => by
    rcases List.mem_cons.mp h with z | z
    · cases z; exact ⟨0, rfl, rfl⟩
    · obtain ⟨j, h1, h2⟩ := glCls_mem z
      exact ⟨j + 1, by rw [h1]; congr 1; omega, by simpa using h2⟩
end
section
variable {L : Lw} {P : Program} {wd : World} {K : PySem.W.Frag} {mg : Str → Option Value} {base h : Heap} {lf : Nat}
theorem Lw.gl_at {x : Str} {g : GK} (h : L.C.gl.lookup x = some g) : (∃ k, g = .fn k ∧ L.names[k]? = some x) ∨ (∃ k, g = .cls k ∧ L.names[k]? = some x) ∨ (∃ i, g = .cst (.int i) ∧ (x, i) ∈ L.csts) ∨ (∃ d, g = .cst d ∧ (x, d) ∈ L.cds) ∨ (∃ kvs, g = .tab kvs ∧ (x, kvs) ∈ L.tbs) ∨ (∃ kvs, g = .tabI kvs ∧ (x, kvs) ∈ L.tbi) := by
  have m := lookup_in h
  rcases List.mem_append.mp m with m | m
  · obtain ⟨j, h1, h2⟩ := glFn_mem m
    refine .inl ⟨j, by rw [h1]; congr 1; omega, ?_⟩
    unfold Lw.names
    rw [List.getElem?_append_left (by
      have := (List.getElem?_eq_some_iff.mp h2).1
      exact this)]
    exact h2
  · rcases List.mem_append.mp m with m | m
    · obtain ⟨j, h1, h2⟩ := glCls_mem m
      refine .inr (.inl ⟨_, h1, ?_⟩)
      unfold Lw.names
      rw [List.getElem?_append_right (by simp)]
      simpa using h2
    · rcases List.mem_append.mp m with m | m
      · obtain ⟨⟨y, i⟩, h1, h2⟩ := List.mem_map.mp m
        cases h2
        exact .inr (.inr (.inl ⟨i, rfl, h1⟩))
      · rcases List.mem_append.mp m with m | m
        · obtain ⟨⟨y, i⟩, h1, h2⟩ := List.mem_map.mp m
          cases h2
          exact .inr (.inr (.inr (.inl ⟨i, rfl, h1⟩)))
        · rcases List.mem_append.mp m with m | m
          · obtain ⟨⟨y, i⟩, h1, h2⟩ := List.mem_map.mp m
            cases h2
            exact .inr (.inr (.inr (.inr (.inl ⟨i, rfl, h1⟩))))
          · obtain ⟨⟨y, i⟩, h1, h2⟩ := List.mem_map.mp m
            cases h2
            exact .inr (.inr (.inr (.inr (.inr ⟨i, rfl, h1⟩))))
theorem Lw.name_mem {x : Str} {k : Nat} (h : L.names[k]? = some x) : x ∈ L.names ∧ L.G K k = He.ga K x := by
  refine ⟨List.mem_of_getElem? h, ?_⟩
  show He.ga K (L.names.getD k "") = _
  rw [List.getD_eq_getElem?_getD, h]
  rfl
theorem says_all (c : He.SaysD L.fa L.fn K) : ∀ f ∈ L.fa, f.ok K = true := by
  have c1 := (He.ba (show ((L.fa.all fun f => f.ok K) && L.fn.all fun d => d.ok K) = true from congrArg (fun z : He.AlD => z.1) c)).1
  exact List.all_eq_true.mp c1
theorem idx_name {x : Str} {k : Nat} (h : idx x L.names 0 = some k) : L.G K k = He.ga K x := (Lw.name_mem (K := K) (idx_at h)).2
theorem exIx_mem {names : List Str} {k : Nat} : ∀ {l : List Str}, k ∈ exIx names l → ∃ x ∈ l, idx x names 0 = some k
  | x :: r, h => by
    unfold exIx at h
    split at h
    · rename_i j e
      rcases List.mem_cons.mp h with z | z
      · exact ⟨x, List.mem_cons_self, by rw [e, z]⟩
      · obtain ⟨y, h1, h2⟩ := exIx_mem z
        exact ⟨y, List.mem_cons_of_mem _ h1, h2⟩
    · obtain ⟨y, h1, h2⟩ := exIx_mem h
      exact ⟨y, List.mem_cons_of_mem _ h1, h2⟩
theorem lookup_in2 {α β : Type} [BEq α] [LawfulBEq α] {x : α} {v : β} : ∀ {l : List (α × β)}, l.lookup x = some v → (x, v) ∈ l
  | [], h => by cases h
  | (y, u) :: r, h => by
    rw [List.lookup_cons] at h
    split at h
    · rename_i e
      cases h
      rw [eq_of_beq e]
      exact List.mem_cons_self
    · exact List.mem_cons_of_mem _ (lookup_in2 h)
theorem exmIx_mem {names : List Str} {k j : Nat} {b : Bool} : ∀ {l : List (Str × Str × Bool)}, ((k, j), b) ∈ exmIx names l → ∃ x y, (x, y, b) ∈ l ∧ idx x names 0 = some k ∧ idx y names 0 = some j
  | (x, y, c) :: r, h => by
    unfold exmIx at h
    split at h
    · rename_i k' j' e1 e2
      rcases List.mem_cons.mp h with z | z
      · cases z; exact ⟨x, y, List.mem_cons_self, e1, e2⟩
      · obtain ⟨u, v, h1, h2⟩ := exmIx_mem z
        exact ⟨u, v, List.mem_cons_of_mem _ h1, h2⟩
    · obtain ⟨u, v, h1, h2⟩ := exmIx_mem h
      exact ⟨u, v, List.mem_cons_of_mem _ h1, h2⟩
theorem fa_exc {x : Str} (c : He.SaysD L.fa L.fn K) (h : x ∈ L.exs) : (He.Fa.exc x).ok K = true := says_all c _ (List.mem_append_right _ (List.mem_append_left _ (List.mem_map_of_mem h)))
theorem fa_exm {x y : Str} {b : Bool} (c : He.SaysD L.fa L.fn K) (h : (x, y, b) ∈ L.exm) : (He.Fa.exm x y b).ok K = true := says_all c _ (List.mem_append_right _ (List.mem_append_right _ (List.mem_map.mpr ⟨(x, y, b), h, rfl⟩)))
def GdOk (L : Lw) (d : Df) : Prop := L.gds.contains d.x = true → ∀ a, d.ps = [a] → ∀ (kV doc pm : Value) (an : Option Addr) (cdv ct u : Value),
  bindArgs (PySem.W.fnOf d.x d.x (defArgs (L.top d.i)) (defBody (L.top d.i)) (defScope (L.top d.i)) .none kV doc pm an cdv ct) ⟨[u], []⟩ = pure [(a, u)]
instance : LawfulBEq (Nat ⊕ String) where
  eq_of_beq := fun {a b} h => by
    cases a <;> cases b
    · exact congrArg _ (eq_of_beq h)
    · cases h
    · cases h
    · exact congrArg _ (eq_of_beq h)
  rfl := fun {a} => by
    cases a with
    | inl x => exact (beq_self_eq_true x : (x == x) = true)
    | inr x => exact (beq_self_eq_true x : (x == x) = true)
def ctK (K : PySem.W.Frag) : Str ⊕ String → Value
  | .inl y => .ref (He.ga K y)
  | .inr n => .type n
def excB (K : PySem.W.Frag) (D : Addr) : Bool := He.eqO (PySem.W.findIn K (.ref D) "__getattribute__") (some (some (.builtin "BaseException.__getattribute__"))) && (He.eqO (PySem.W.findIn K (.ref D) "__getattr__") (some none) && (decide (PySem.W.subIn K (.ref D) (.type "BaseException") = some true) && (PySem.W.hasDictIn K D &&
  (He.eqO (PySem.W.findIn K (.ref D) "__class__") (some (some (.builtin "object.__class__"))) && (He.eqO (PySem.W.specialIn K (.builtin "object.__class__") "__get__") (some (some (.builtin "getset_descriptor.__get__"))) && (decide (PySem.W.takesIn K (.builtin "object.__class__") = some true) && decide (PySem.W.mroIn K D (.type "object") = some true)))))))
theorem excB_ok {K : PySem.W.Frag} {D : Addr} (h : excB K D = true) : L2.ExcC K D := by
  unfold excB at h
  simp only [Bool.and_eq_true, decide_eq_true_eq] at h
  obtain ⟨h1, h2, h3, h4, h5, h6, h7, h8⟩ := h
  exact ⟨He.eqO_ok h1, He.eqO_ok h2, h3, h4, He.eqO_ok h5, He.eqO_ok h6, h7, h8⟩
def kitK (K : PySem.W.Frag) (p : Str × List ((Str ⊕ String) × Bool)) : Bool := excB K (He.ga K p.1) && p.2.all fun q => decide (PySem.W.kitOne K (.ref (He.ga K p.1)) (ctK K q.1) = some q.2)
theorem ansIx_mem {L : Lw} {K : PySem.W.Frag} {t : Nat ⊕ String} {b : Bool} : ∀ {l : List ((Str ⊕ String) × Bool)}, (t, b) ∈ ansIx L.names l → ∃ u, (u, b) ∈ l ∧ ctK K u = ctV (L.G K) t
  | (.inl y, c) :: r, h => by
    unfold ansIx at h
    split at h
    · rename_i j e
      rcases List.mem_cons.mp h with z | z
      · cases z
        exact ⟨.inl y, List.mem_cons_self, by show Value.ref (He.ga K y) = .ref ((L.G K) j); rw [idx_name e]⟩
      · obtain ⟨u, h1, h2⟩ := ansIx_mem (K := K) z
        exact ⟨u, List.mem_cons_of_mem _ h1, h2⟩
    · obtain ⟨u, h1, h2⟩ := ansIx_mem (K := K) h
      exact ⟨u, List.mem_cons_of_mem _ h1, h2⟩
  | (.inr n, c) :: r, h => by
    unfold ansIx at h
    rcases List.mem_cons.mp h with z | z
    · cases z
      exact ⟨.inr n, List.mem_cons_self, rfl⟩
    · obtain ⟨u, h1, h2⟩ := ansIx_mem (K := K) z
      exact ⟨u, List.mem_cons_of_mem _ h1, h2⟩
theorem kitIx_mem {names : List Str} {k : Nat} {as : List ((Nat ⊕ String) × Bool)} : ∀ {l : List (Str × List ((Str ⊕ String) × Bool))}, (k, as) ∈ kitIx names l → ∃ x bs, (x, bs) ∈ l ∧ idx x names 0 = some k ∧ as = ansIx names bs
  | (x, bs) :: r, h => by
    unfold kitIx at h
    split at h
    · rename_i k' e
      rcases List.mem_cons.mp h with z | z
      · cases z
        exact ⟨x, bs, List.mem_cons_self, e, rfl⟩
      · obtain ⟨y, cs, h1, h2⟩ := kitIx_mem z
        exact ⟨y, cs, List.mem_cons_of_mem _ h1, h2⟩
    · obtain ⟨y, cs, h1, h2⟩ := kitIx_mem h
      exact ⟨y, cs, List.mem_cons_of_mem _ h1, h2⟩
theorem Lw.stat (X : K.In h) (Gm : h.Ns mainGlobals mg) (c : He.SaysD L.fa L.fn K) (hs : L.scs = true) (hb : DfAll (BdOk L) L.ds) (hg : DfAll (GdOk L) L.ds) (hlo : L.lamOk = true) (hcd : L.cds.all (cstG K) = true) (hkt : L.kits.all (kitK K) = true) (htb : L.tbs.all (tabG K (L.G K).f) = true) (hti : L.tbi.all (tabIG K) = true) (htd : ∀ p ∈ L.tbs, ∃ es n, L2.KDict K wd (He.ga K p.1) es n)
    (hTB : ∀ q ∈ L.cs K, LamX.TabB base mg q.1 q.2) (hinj : ∀ x ∈ L.lamd, ∀ y ∈ L.lamd, (He.cT K (x, none)).2 = (He.cT K (y, none)).2 → x = y) : Stat P wd K mg base (L.G K) L.T L.C where
  bl := fun x hx => by
    have m : x ∈ L.bl := by simpa [Lw.C] using hx
    exact He.free_ok X Gm (says_all c (.free x) (List.mem_append_left _ (List.mem_append_right _ (List.mem_append_left _ (List.mem_map_of_mem m)))))
  cst := fun x d hx => by
    rcases Lw.gl_at hx with ⟨k, e, _⟩ | ⟨k, e, _⟩ | ⟨i, e, m⟩ | ⟨i, e, m⟩ | ⟨_, e, _⟩ | ⟨_, e, _⟩
    · cases e
    · cases e
    · cases e
      obtain ⟨t, ht⟩ := He.int_ok X Gm (says_all c (.int x i) (List.mem_append_left _ (List.mem_append_right _ (List.mem_append_right _ (List.mem_map.mpr ⟨(x, i), m, rfl⟩)))))
      exact ⟨_, .int i, ht, ⟨t, rfl⟩, fun w H => .int i⟩
    · cases e
      have q := List.all_eq_true.mp hcd _ m
      unfold cstG at q
      split at q
      · rename_i u hu
        obtain ⟨v, h1, h2⟩ := cstB_ok (G := L.G K) (fun z => by
          have z' : L.own = true := z
          unfold Lw.own at z'
          simp only [Bool.and_eq_true, List.all_eq_true] at z'
          exact z'.1 _ m) q
        exact ⟨u, v, PySem.W.mg_of X Gm hu, h1, h2⟩
      · cases q
    · cases e
    · cases e
  fn := fun x k hx => by
    rcases Lw.gl_at hx with ⟨k, e, m⟩ | ⟨k, e, _⟩ | ⟨i, e, m⟩ | ⟨i, e, m⟩ | ⟨_, e, _⟩ | ⟨_, e, _⟩
    · cases e
      obtain ⟨m1, m2⟩ := Lw.name_mem (K := K) m
      rw [m2]
      exact He.glo_ok X Gm (says_all c (.glo x) (List.mem_append_left _ (List.mem_append_left _ (List.mem_map_of_mem m1))))
    · cases e
    · cases e
    · cases e
    · cases e
    · cases e
  cls := fun x k hx => by
    rcases Lw.gl_at hx with ⟨k, e, m⟩ | ⟨k, e, m⟩ | ⟨i, e, m⟩ | ⟨i, e, m⟩ | ⟨_, e, _⟩ | ⟨_, e, _⟩
    · cases e
    · cases e
      obtain ⟨m1, m2⟩ := Lw.name_mem (K := K) m
      rw [m2]
      exact He.glo_ok X Gm (says_all c (.glo x) (List.mem_append_left _ (List.mem_append_left _ (List.mem_map_of_mem m1))))
    · cases e
    · cases e
    · cases e
    · cases e
  tab := fun x kvs hx => by
    rcases Lw.gl_at hx with ⟨k, e, m⟩ | ⟨k, e, m⟩ | ⟨i, e, m⟩ | ⟨i, e, m⟩ | ⟨kv, e, m⟩ | ⟨_, e, _⟩
    · cases e
    · cases e
    · cases e
    · cases e
    · cases e
      have q := List.all_eq_true.mp htb _ m
      unfold tabG at q
      rw [Bool.and_eq_true] at q
      obtain ⟨q1, q2⟩ := q
      split at q1
      · rename_i u hu
        have eu := of_decide_eq_true q1
        subst eu
        refine ⟨_, PySem.W.mg_of X Gm hu, fun z d hz => ?_⟩
        have q3 := List.all_eq_true.mp q2 _ (lookup_in2 hz)
        split at q3
        · rename_i u2 hu2
          obtain ⟨v, r1, r2⟩ := tvB_ok (G := L.G K) (fun zz => by
            have z' : L.own = true := zz
            unfold Lw.own at z'
            simp only [Bool.and_eq_true, List.all_eq_true] at z'
            exact z'.2 _ m _ (lookup_in2 hz)) q3
          obtain ⟨es, n, kd⟩ := htd _ m
          exact ⟨v, ⟨es, n, u2, kd.1, kd.2, hu2, r1⟩, r2⟩
        · cases q3
      · cases q1
    · cases e
  tabI := fun x kvs hx => by
    rcases Lw.gl_at hx with ⟨k, e, m⟩ | ⟨k, e, m⟩ | ⟨i, e, m⟩ | ⟨i, e, m⟩ | ⟨_, e, m⟩ | ⟨kv, e, m⟩
    · cases e
    · cases e
    · cases e
    · cases e
    · cases e
    · cases e
      have q := List.all_eq_true.mp hti _ m
      unfold tabIG at q
      rw [Bool.and_eq_true] at q
      obtain ⟨q1, q2⟩ := q
      split at q1
      · rename_i u hu
        have eu := of_decide_eq_true q1
        subst eu
        exact ⟨_, PySem.W.mg_of X Gm hu, kdiB_ok q2⟩
      · cases q1
  exc := fun k hk => by
    have hk : k ∈ exIx L.names L.exs := by simpa [Lw.C] using hk
    obtain ⟨x, hx, e⟩ := exIx_mem hk
    rw [idx_name e]
    exact He.exc_ok (fa_exc c hx)
  exm := fun k j b hk => by
    obtain ⟨x, y, hx, e1, e2⟩ := exmIx_mem (lookup_in2 hk)
    rw [idx_name e1, idx_name e2]
    exact He.exm_ok (fa_exm c hx)
  kit := fun k as hk => by
    obtain ⟨x, bs, hx, e1, rfl⟩ := kitIx_mem (lookup_in2 hk)
    have q := List.all_eq_true.mp hkt _ hx
    unfold kitK at q
    rw [Bool.and_eq_true] at q
    have eg : (L.G K) k = He.ga K x := idx_name e1
    refine ⟨by rw [eg]; exact excB_ok q.1, fun t b hb => ?_⟩
    obtain ⟨u, h1, h2⟩ := ansIx_mem (L := L) (K := K) (lookup_in2 hb)
    have := List.all_eq_true.mp q.2 _ h1
    rw [eg, ← h2]
    exact of_decide_eq_true this
  gd := fun k fi w hs' h1 h2 => by
    have : (L.ds.map fun d => (⟨d.x, d.ps, d.pats, L.gdd d, L.vls.contains d.x⟩ : FI))[k]? = some fi := h1
    rw [List.getElem?_map] at this
    cases e : L.ds[k]? with
    | none => rw [e] at this; cases this
    | some d =>
      rw [e] at this
      cases this
      have hm := List.mem_of_getElem? e
      obtain ⟨fd, F⟩ := c.def_ k (d := Df.he L d) (by unfold Lw.fn; rw [List.getElem?_map, e]; rfl)
      have hn : L.names[k]? = some d.x := by
        unfold Lw.names
        rw [List.getElem?_append_left (by simpa using (List.getElem?_eq_some_iff.mp e).1), List.getElem?_map, e]
        rfl
      have eG := (Lw.name_mem (K := K) hn).2
      have h2 : L.gdd d = some (w, hs') := h2
      unfold Lw.gdd at h2
      split at h2
      · rename_i hgc
        split at h2
        · rename_i a hp
          split at h2
          · rename_i hpl
            obtain ⟨oc, od, dV, kV, doc, pm, an, cdv, ct, osl, rfl, lk, hcd, hD, hK⟩ := F.ex
            rcases hD with ⟨_, rfl⟩ | ⟨z, _⟩
            · have S := sc_of (List.all_eq_true.mp hs d hm)
              refine ⟨oc, od, osl, defArgs (L.top d.i), defBody (L.top d.i), defScope (L.top d.i), .none, kV, doc, pm, an, cdv, ct, a, d.N, ?_, hcd, .all fun us hl => ?_, hp ▸ S, ⟨L.fuel, h2⟩, hpl⟩
              · rw [eG]; exact lk
              · match us, hl with
                | [u], _ => exact hg.mem d hm hgc a hp kV doc pm an cdv ct u
            · exact absurd rfl z
          · cases h2
        · cases h2
      · cases h2
  defs := fun k fi hk => by
    have e : ∃ d, L.ds[k]? = some d ∧ fi = ⟨d.x, d.ps, d.pats, L.gdd d, L.vls.contains d.x⟩ := by
      have : (L.ds.map fun d => (⟨d.x, d.ps, d.pats, L.gdd d, L.vls.contains d.x⟩ : FI))[k]? = some fi := hk
      rw [List.getElem?_map] at this
      cases e : L.ds[k]? with
      | none => rw [e] at this; cases this
      | some d => rw [e] at this; cases this; exact ⟨d, rfl, rfl⟩
    obtain ⟨d, hd, rfl⟩ := e
    have hm := List.mem_of_getElem? hd
    obtain ⟨fd, F⟩ := c.def_ k (d := Df.he L d) (by unfold Lw.fn; rw [List.getElem?_map, hd]; rfl)
    have hn : L.names[k]? = some d.x := by
      unfold Lw.names
      rw [List.getElem?_append_left (by simpa using (List.getElem?_eq_some_iff.mp hd).1), List.getElem?_map, hd]
      rfl
    have eG := (Lw.name_mem (K := K) hn).2
    have F' : FunD K d.x d.x (defArgs (L.top d.i)) (defBody (L.top d.i)) (defScope (L.top d.i)) [] (d.kwd.map fun q => (q.1, q.2.v K)) (L.G K k) fd := by rw [eG]; exact F
    refine ⟨F'.kp, fd, ⟨_, _, _, _, _, _, _, d.N, L.fuel, F', sc_of (List.all_eq_true.mp hs d hm), ?_, fun hl => ?_⟩, (hb.mem d hm) K (L.G K) _ fd (fun z => z) hcd F'⟩
    · unfold Lw.T
      rw [List.getElem?_map, hd]
      rfl
    · have hx : d.x ∈ L.lamd := by
        have := List.all_eq_true.mp hlo d hm
        rw [hl] at this
        simpa using this
      obtain ⟨oc, od, dV, kV, doc, pm, an, cdv, ct, osl, rfl, lk, hcd, _, _⟩ := F.ex
      obtain ⟨c1, rfl⟩ := He.codeIn_ref hcd
      have e1 : He.codeOf K (d.x, none) = c1 := He.codeOf_eq (p := (d.x, none)) lk rfl
      refine ⟨(He.cT K (d.x, none)).1, (He.cT K (d.x, none)).2, ?_, hTB _ (List.mem_map.mpr ⟨d.x, hx, rfl⟩), List.mem_map.mpr ⟨d.x, hx, rfl⟩, fun p hp ep => ?_⟩
      · show Value.ref c1 = .ref (He.codeOf K (d.x, none))
        rw [e1]
      · obtain ⟨y, hy, rfl⟩ := List.mem_map.mp hp
        have := hinj y hy d.x hx ep
        rw [this]
/-- the law, from its head's facts -/
theorem Lw.law {w : World} {fa : Addr} {kl lv lf : Nat} {d : Df} {x : Str} (X : K.In h) (Gm : h.Ns mainGlobals mg) (c : He.SaysD L.fa L.fn K) (hs : L.scs = true) (hb : DfAll (BdOk L) L.ds) (hg : DfAll (GdOk L) L.ds) (hlo : L.lamOk = true) (how : 500000 ≤ lf / 2 → L.own = true) (hcd : L.cds.all (cstG K) = true) (hkt : L.kits.all (kitK K) = true) (htb : L.tbs.all (tabG K (L.G K).f) = true) (hti : L.tbi.all (tabIG K) = true) (htd : ∀ p ∈ L.tbs, ∃ es n, L2.KDict K w (He.ga K p.1) es n)
    (hinj : ∀ x ∈ L.lamd, ∀ y ∈ L.lamd, (He.cT K (x, none)).2 = (He.cT K (y, none)).2 → x = y) (hd : L.ds[kl]? = some d) (hp : d.ps = [x]) (hkw : d.kwd = []) (hfa : mg d.x = some (.ref fa))
    (hbind : ∀ (kV doc pm : Value) (an : Option Addr) (cdv ct u : Value), bindArgs (PySem.W.fnOf d.x d.x (defArgs (L.top d.i)) (defBody (L.top d.i)) (defScope (L.top d.i)) .none kV doc pm an cdv ct) ⟨[u], []⟩ = pure [(x, u)]) :
    ∃ fd : FuncData, (∀ (s : Shared) (u : Value), BindsTo s fd ⟨[u], []⟩ [(x, u)]) ∧ ∀ base : Heap, K.In base → base.Ns mainGlobals mg → (∀ q ∈ L.cs K, LamX.TabB base mg q.1 q.2) → FnG (lf % 2 = 0) P w K mg base lv fa fd [x] (spF K (L.G K) L.T lf lv kl 1) := by
  have hn : L.names[kl]? = some d.x := by
    unfold Lw.names
    rw [List.getElem?_append_left (by simpa using (List.getElem?_eq_some_iff.mp hd).1), List.getElem?_map, hd]
    rfl
  have hk : L.C.fns[kl]? = some ⟨d.x, d.ps, d.pats, L.gdd d, L.vls.contains d.x⟩ := by
    show (L.ds.map _)[kl]? = _
    rw [List.getElem?_map, hd]
    rfl
  obtain ⟨m1, m2⟩ := Lw.name_mem (K := K) hn
  have e := hfa.symm.trans (He.glo_ok X Gm (says_all c (.glo d.x) (List.mem_append_left _ (List.mem_append_left _ (List.mem_map_of_mem m1)))))
  cases e
  obtain ⟨fd, F⟩ := c.def_ kl (d := Df.he L d) (by unfold Lw.fn; rw [List.getElem?_map, hd]; rfl)
  have F' : FunD K d.x d.x (defArgs (L.top d.i)) (defBody (L.top d.i)) (defScope (L.top d.i)) [] (d.kwd.map fun q => (q.1, q.2.v K)) (He.ga K d.x) fd := F
  refine ⟨fd, fun s u => ?_, fun base kb nb tb => ?_⟩
  · have := FunD.bindsA (ps := [x]) F' (fun kV doc pm an cdv ct us hl => match us, hl with | [u], _ => hbind kV doc pm an cdv ct u) s [u] rfl
    exact this
  · have st : Stat P w K mg base (L.G K) L.T L.C := Lw.stat X Gm c hs hb hg hlo hcd hkt htb hti htd tb hinj
    obtain ⟨_, fd2, ⟨_, _, _, l2⟩, FG, _⟩ := (facts_of (base := base) st lf lv how).call kl _ hk
    have : fd2 = fd := by
      obtain ⟨_, _, _, l1⟩ := F'.at_
      rw [m2, l1] at l2
      cases l2
      rfl
    subst this
    rw [hp, m2] at FG
    exact FG
end
end Ev
/-! Ev, part O: from the head's hook to the law. -/
namespace Ev
open PySem PySem.Spec PyProof.Rows L2
def bmB (K : PySem.W.Frag) : Bool := match PySem.W.nsIn K mainGlobals "__builtins__" with
  | some (some (.ref bm)) => decide (bm ≠ builtinsNs) && (match K.lookup bm with
    | some ⟨.type c, some dd, .plain, _⟩ => decide (c = "module") && decide (dd = builtinsNs)
    | _ => false)
  | _ => false
theorem bmB_ok {K : PySem.W.Frag} {h : Heap} {mg : Str → Option Value} (X : K.In h) (Gm : h.Ns mainGlobals mg) (e : bmB K = true) :
    ∃ (bm : Addr) (om : Obj), mg "__builtins__" = some (.ref bm) ∧ bm ≠ builtinsNs ∧ h.get? bm = some om ∧ om.cls = .type "module" ∧ om.dict = some builtinsNs ∧ om.data = .plain := by
  unfold bmB at e
  split at e
  · rename_i bm hb
    simp only [Bool.and_eq_true, decide_eq_true_eq] at e
    obtain ⟨e1, e2⟩ := e
    split at e2
    · rename_i c dd sl hk
      simp only [Bool.and_eq_true, decide_eq_true_eq] at e2
      obtain ⟨rfl, rfl⟩ := e2
      exact ⟨bm, _, PySem.W.mg_of X Gm hb, e1, X _ _ hk, rfl, rfl, rfl⟩
    · cases e2
  · cases e
/-- a world by one of its answers -/
def wB (w : World) (b : Bool) : World := { w with params := { w.params with followText := fun s => if s == "special-get-raises" then b else w.params.followText s } }
theorem wB_eq (w : World) : wB w (w.params.followText "special-get-raises") = w := by
  obtain ⟨p, q⟩ := w
  unfold wB
  have : (fun s => if (s == "special-get-raises") = true then q.followText "special-get-raises" else q.followText s) = q.followText := funext fun s => by
    by_cases h : s = "special-get-raises"
    · subst h; simp
    · simp [h]
  simp only [this]
theorem wB_all {P : World → Prop} (h : ∀ w b, P (wB w b)) (w : World) : P w := by
  have := h w (w.params.followText "special-get-raises")
  rwa [wB_eq] at this
section
variable (L : Lw)
def Lw.ex (K : PySem.W.Frag) : Bool := (L.cds.all (cstG K) && (L.kits.all (kitK K) && (L.tbs.all (tabG K (L.G K).f) && L.tbi.all (tabIG K)))) && ((L.lamd.isEmpty || bmB K) && L.lamd.all fun x => L.lamd.all fun y => decide (x = y) || !decide ((He.cT K (x, none)).2 = (He.cT K (y, none)).2))
end
section
variable {L : Lw} {P : Program} {K : PySem.W.Frag} {mg : Str → Option Value} {h : Heap} {lf : Nat}
theorem Lw.goal {w : World} {fa : Addr} {kl lv lf n : Nat} {d : Df} {x : Str} (X : K.In h) (Gm : h.Ns mainGlobals mg) (c : He.SaysX L.fa L.fn L.ts L.tf L.ex w h K) (hs : L.scs = true) (hb : DfAll (BdOk L) L.ds) (hg : DfAll (GdOk L) L.ds) (hlo : L.lamOk = true) (how : 500000 ≤ lf / 2 → L.own = true)
    (hd : L.ds[kl]? = some d) (hp : d.ps = [x]) (hkw : d.kwd = []) (hfa : mg d.x = some (.ref fa))
    (hbind : ∀ (kV doc pm : Value) (an : Option Addr) (cdv ct u : Value), bindArgs (PySem.W.fnOf d.x d.x (defArgs (L.top d.i)) (defBody (L.top d.i)) (defScope (L.top d.i)) .none kV doc pm an cdv ct) ⟨[u], []⟩ = pure [(x, u)])
    (hlaw : ∀ ns : List Int, ns.length ≤ n → (∀ k ∈ ns, Builtin.Int.intBits k ≤ 1048576) → ∃ S, evF L.T lf lv kl [.frz (ns.map D.int)] [] = .ok (.bl true) S) :
    ∃ (K : PySem.W.Frag) (fd : FuncData) (G : Gx) (T : List Fn) (lf kl : Nat) (cs : List (Addr × Addr)), K.In h ∧ (∀ q ∈ cs, h.get? q.2 = some { cls := .none, data := .fields #[] }) ∧ (∀ q ∈ cs, K.lookup q.2 = none) ∧ (∀ q ∈ cs, PySem.W.CodeHd h q.1 q.2) ∧
        (cs ≠ [] → ∃ (bm : Addr) (om : Obj), mg "__builtins__" = some (.ref bm) ∧ bm ≠ builtinsNs ∧ h.get? bm = some om ∧ om.cls = .type "module" ∧ om.dict = some builtinsNs ∧ om.data = .plain) ∧ (∀ p ∈ G.tb, ∃ q ∈ cs, p.1 = q.2) ∧
        (∀ (s : Shared) (u : Value), BindsTo s fd ⟨[u], []⟩ [(x, u)]) ∧
        (∀ ns : List Int, ns.length ≤ n → (∀ k ∈ ns, Builtin.Int.intBits k ≤ 1048576) → ∃ S, evF T lf lv kl [.frz (ns.map D.int)] [] = .ok (.bl true) S) ∧
        ∀ base : Heap, K.In base → base.Ns mainGlobals mg → (∀ q ∈ cs, LamX.TabB base mg q.1 q.2) → FnG (lf % 2 = 0) P w K mg base lv fa fd [x] (spF K G T lf lv kl 1) := by
  have hm := c.more
  unfold Lw.ex at hm
  simp only [Bool.and_eq_true, Bool.or_eq_true] at hm
  obtain ⟨⟨hcd, hkt, htb, hti⟩, hm⟩ := hm
  have htd : ∀ p ∈ L.tbs, ∃ es n, L2.KDict K w (He.ga K p.1) es n := fun p hp => by
    obtain ⟨i, hi, e⟩ := List.mem_iff_getElem.mp hp
    exact c.t.tab i (t := ((fun K => He.ga K p.1), p.2.map (·.1))) (by unfold Lw.ts; rw [List.getElem?_map, List.getElem?_eq_getElem hi, e]; rfl)
  have hinj : ∀ x ∈ L.lamd, ∀ y ∈ L.lamd, (He.cT K (x, none)).2 = (He.cT K (y, none)).2 → x = y := fun x hx y hy e => by
    have := List.all_eq_true.mp (List.all_eq_true.mp hm.2 x hx) y hy
    simpa [e] using this
  obtain ⟨fd, h1, h2⟩ := Lw.law (P := P) (w := w) (lv := lv) (lf := lf) X Gm c.t.d hs hb hg hlo how hcd hkt htb hti htd hinj hd hp hkw hfa hbind
  have mt : ∀ q ∈ L.cs K, ∃ p ∈ L.tf, q = He.cT K p := fun q hq => by
    obtain ⟨y, hy, rfl⟩ := List.mem_map.mp hq
    exact ⟨(y, none), List.mem_map.mpr ⟨y, hy, rfl⟩, rfl⟩
  refine ⟨K, fd, L.G K, L.T, lf, kl, L.cs K, X, fun q hq => ?_, fun q hq => ?_, fun q hq => ?_, fun hne => ?_, fun p hp => ?_, h1, hlaw, h2⟩
  · obtain ⟨p, hp, rfl⟩ := mt q hq; exact c.empty p hp
  · obtain ⟨p, hp, rfl⟩ := mt q hq; exact c.out p hp
  · obtain ⟨p, hp, rfl⟩ := mt q hq; exact PySem.W.codeHd_of_K X (c.hd p hp)
  · refine bmB_ok X Gm (hm.1.resolve_left fun z => hne ?_)
    unfold Lw.cs
    rw [List.isEmpty_iff.mp z]
    rfl
  · obtain ⟨y, hy, rfl⟩ := List.mem_map.mp hp
    exact ⟨He.cT K (y, none), List.mem_map.mpr ⟨y, hy, rfl⟩, rfl⟩
end
end Ev
/-! Ev, part Oh: the top's run, looked at in parts (each part is a reckoning of its own: less memory). -/
namespace Ev
open PySem PySem.W PySem.Calls PyProof.Rows HandSHeadRun
noncomputable def topEnd (r : OpenRow) (M : Nat) (w : World) (os : OsState) := endF (stepQ (denQ tabQ) r.prog w) M r.prog w os
theorem run_two {r : OpenRow} {q : Program} {H : Hook} {ob : SharedT → H.α} {M : Nat} {loose : List PySem.Str} {w : World}
    (a : ∀ os : OsState, (topEnd r M w os).map (fun s => (looksF r.prog (boot_heap w.params) s.abs, seenQ q loose (importedModules r.prog.main.body) (fun s => xlAt q [] s && recOk r.toRowW.records s) s.abs)) = some (true, openGood q loose))
    (b : ∀ os : OsState, (topEnd r M w os).map (fun s => ob s) = some (H.val w)) : RunEq r q H ob M loose w := by
  intro os
  have a := a os
  have b := b os
  show (topEnd r M w os).map _ = _
  cases e : topEnd r M w os with
  | none => rw [e] at a; cases a
  | some s =>
    rw [e] at a b
    simp only [Option.map_some, Option.some.injEq, Prod.mk.injEq] at a b ⊢
    exact ⟨a.1, a.2, b⟩
end Ev
/-! Ev, part R: lemmas for reckoning with evF. -/
namespace Ev
open PySem L2
theorem evF_at {T : List Fn} {lf lv k np ns : Nat} {body : ISs} {args : List D} {S : Store} (h : T[k]? = some ⟨np, ns, body⟩) (hl : args.length = np) :
    evF T lf (lv + 1) k args S = finR S.length (evSs (cfAt T lf lv) body (args.map some ++ List.replicate (ns - args.length) none) S) := by
  rw [evF_succ, h]
  simp [hl]
theorem log2_le {n m : Nat} (h : n < 2 ^ m) : n.log2 ≤ m := by
  by_cases z : n = 0
  · subst z; simp
  · exact Nat.le_of_lt ((Nat.log2_lt z).mpr h)
theorem mulOk_of {i j : Int} {m : Nat} (hm : 2 * m < 1000000) (h1 : i.natAbs < 2 ^ m) (h2 : j.natAbs < 2 ^ m) : mulOk i j = true := by
  have a := log2_le h1
  have b := log2_le h2
  unfold mulOk
  simp only [decide_eq_true_eq]
  omega
theorem divOk_of {j : Int} {m : Nat} (hm : m < 9000) (h : 0 < j) (h2 : j.natAbs < 2 ^ m) : divOk j = true := by
  have a := log2_le h2
  unfold divOk
  simp only [Bool.and_eq_true, decide_eq_true_eq]
  omega
theorem divOk_small {j : Int} (h : 0 < j) (h2 : j < 2 ^ 8000) : divOk j = true := divOk_of (m := 8000) (by decide) h (by
  have : ((j.natAbs : Nat) : Int) = j := by omega
  have h3 : ((j.natAbs : Nat) : Int) < ((2 ^ 8000 : Nat) : Int) := by rw [this]; push_cast; exact h2
  exact_mod_cast h3)
theorem nat_lt {j : Int} {m : Nat} (h : 0 ≤ j) (h2 : j < 2 ^ m) : j.natAbs < 2 ^ m := by
  have : ((j.natAbs : Nat) : Int) = j := by omega
  have h3 : ((j.natAbs : Nat) : Int) < ((2 ^ m : Nat) : Int) := by rw [this]; push_cast; exact h2
  exact_mod_cast h3
theorem char_lt (c : Char) : c.toNat < 0x110000 := by
  have h := c.valid
  show c.val.toNat < _
  rcases h with h | h
  · have : c.val.toNat < 0xd800 := h
    omega
  · exact h.2
theorem int_cps (m : Nat) : (PyData.shown (.int (m : Int))).cps.toList = (Nat.toDigits 10 m).map Char.toNat := PySem.W.KIN.signs_num m
/-- whole numbers are shown, by a good text -/
theorem show_int {S : Store} {i : Int} (h0 : 0 ≤ i) (h : i < 2 ^ 1900) : ∃ s, showD S (.int i) = some s ∧ PyData.strOk s = true := by
  have h1 := nat_lt h0 h
  have h2 := log2_le h1
  obtain ⟨m, rfl⟩ : ∃ m : Nat, i = (m : Int) := ⟨i.toNat, by omega⟩
  have q := int_cps m
  have e1 : PyData.showable (.int (m : Int)) = true := by simp only [PyData.showable, decide_eq_true_eq]; omega
  have e2 : PyData.canLay0 (.int (m : Int)) = true := by simp [PyData.canLay0]
  have e3 : PyData.depth (.int (m : Int)) ≤ 64 := by simp [PyData.depth]
  have e4 : small (PyData.shown (.int (m : Int))).length = true := by
    have hl : (PyData.shown (.int (m : Int))).length = (Nat.toDigits 10 m).length := by
      have : (PyData.shown (.int (m : Int))).cps.toList.length = (Nat.toDigits 10 m).length := by rw [q, List.length_map]
      rw [Array.length_toList] at this
      exact this
    have hm : m < 10 ^ 600 := by
      have h3 : m < 2 ^ 1900 := by simpa using h1
      exact Nat.lt_of_lt_of_le h3 (by decide +kernel)
    have := PyProof.Rows.digits10_le (k := 600) (by decide) hm
    unfold small
    rw [hl]
    simp only [decide_eq_true_eq]
    exact Nat.le_trans this (by decide)
  refine ⟨PyData.shown (.int (m : Int)), ?_, ?_⟩
  · unfold showD pyS D.py
    simp only [e1, e2, e3, e4, decide_true, Bool.and_self, if_true]
  · show (PyData.shown (.int (m : Int))).cps.all (· < 0x110000) = true
    rw [← Array.all_toList, q, List.all_map, List.all_eq_true]
    intro c _
    simpa using char_lt c
theorem eq_str {S : Store} {s : Str} (h : PyData.strOk s = true) : eqD S (.str s) (.str s) = some true := by
  have : PyData.eqv (.str s) (.str s) = true := by simp [PyData.eqv]
  have h2 : SeqAt.shaped (.str s) = true := by simp [SeqAt.shaped, PyData.canLay0, PyData.depth, h]
  unfold eqD pyS D.py
  simp only [this, h2, Bool.and_self, if_true]
theorem eq_int {S : Store} {i j : Int} : eqD S (.int i) (.int j) = some (i == j) := by
  have h1 : ∀ k : Int, SeqAt.shaped (.int k) = true := fun k => by simp [SeqAt.shaped, PyData.canLay0, PyData.depth]
  have h2 : PyData.eqv (.int i) (.int j) = (i == j) := by simp [PyData.eqv]
  unfold eqD pyS D.py
  simp only [h1, h2, Bool.and_self, if_true]
/-! ### rules -/
section
variable {α β : Type} {a b : Int} {S S' : Store} {c : Cf} {env : Env'}
@[simp] theorem r_bind_ok {x : α} {f : α → Store → R β} : (R.ok x S).bind f = f x S := rfl
@[simp] theorem r_go_ok {x : α} {f : α → Store → SR} : (R.ok x S).go env f = f x S := rfl
@[simp] theorem sr_nx {f : Env' → Store → SR} : (SR.nx env S).then f = f env S := rfl
@[simp] theorem sr_rt {d : D} {f : Env' → Store → SR} : (SR.rt d S).then f = .rt d S := rfl
@[simp] theorem sr_bk {f : Env' → Store → SR} : (SR.bk env S).then f = .bk env S := rfl
@[simp] theorem sr_ct {f : Env' → Store → SR} : (SR.ct env S).then f = .ct env S := rfl
@[simp] theorem ofO_some {x : α} : ofO (some x) S = .ok x S := rfl
@[simp] theorem tr_bl {b : Bool} : truth S (.bl b) = some b := rfl
@[simp] theorem tr_int : truth S (.int a) = some (a != 0) := rfl
@[simp] theorem tr_non : truth S .non = some false := rfl
@[simp] theorem bo_add : binop .Add (.int a) (.int b) S = some (.int (a + b)) := rfl
@[simp] theorem bo_sub : binop .Sub (.int a) (.int b) S = some (.int (a - b)) := rfl
@[simp] theorem bo_or : binop .BitOr (.int a) (.int b) S = some (.int (Builtin.bitOr a b)) := rfl
theorem bo_mul (h : mulOk a b = true) : binop .Mult (.int a) (.int b) S = some (.int (a * b)) := by simp [binop, iop, h]
theorem bo_div (h : divOk b = true) : binop .FloorDiv (.int a) (.int b) S = some (.int (a / b)) := by simp [binop, iop, h]
theorem bo_mod (h : 0 < b) : binop .Mod (.int a) (.int b) S = some (.int (a % b)) := by simp [binop, iop, h]
theorem bo_pow (h : powOk a b = true) : binop .Pow (.int a) (.int b) S = some (.int (a ^ b.toNat)) := by simp [binop, iop, h]
theorem bo_shl (h : shlOk a b = true) : binop .LShift (.int a) (.int b) S = some (.int (a * 2 ^ b.toNat)) := by simp [binop, iop, h]
@[simp] theorem co_lt : cmpop .Lt (.int a) (.int b) S = some (.bl (decide (a < b))) := rfl
@[simp] theorem co_le : cmpop .LtE (.int a) (.int b) S = some (.bl (decide (a ≤ b))) := rfl
@[simp] theorem co_gt : cmpop .Gt (.int a) (.int b) S = some (.bl (decide (b < a))) := rfl
@[simp] theorem co_ge : cmpop .GtE (.int a) (.int b) S = some (.bl (decide (b ≤ a))) := rfl
@[simp] theorem co_eq : cmpop .Eq (.int a) (.int b) S = some (.bl (a == b)) := by simp [cmpop, eq_int]
@[simp] theorem co_ne : cmpop .NotEq (.int a) (.int b) S = some (.bl (!(a == b))) := by simp [cmpop, eq_int]
theorem ix_ref {l : Nat} {xs : List D} (h : cel S l = some xs) : ixD S (.ref l) (.int a) = atI xs a := by simp [ixD, itemsS, h]
@[simp] theorem ix_frz {xs : List D} : ixD S (.frz xs) (.int a) = atI xs a := rfl
@[simp] theorem ix_lst {xs : List D} : ixD S (.lst xs) (.int a) = atI xs a := rfl
@[simp] theorem ix_tup {xs : List D} : ixD S (.tup xs) (.int a) = atI xs a := rfl
@[simp] theorem at_0 {x : D} {xs : List D} : atI (x :: xs) 0 = some x := by simp [atI, ixN]
@[simp] theorem at_1 {x y : D} {xs : List D} : atI (x :: y :: xs) 1 = some y := by
  have : (1 : Int) < xs.length + 1 + 1 := by omega
  simp [atI, ixN, this]
@[simp] theorem at_2 {x y z : D} {xs : List D} : atI (x :: y :: z :: xs) 2 = some z := by
  have : (2 : Int) < xs.length + 1 + 1 + 1 := by omega
  simp [atI, ixN, this]
@[simp] theorem bg_nm {i : Nat} {d : D} : Ev.bindG (.nm i) d env = some (env.set i (some d)) := rfl
@[simp] theorem bc_max : bcall .max2 [.int a, .int b] S = some (.int (if b > a then b else a)) := rfl
@[simp] theorem bc_min : bcall .min2 [.int a, .int b] S = some (.int (if b < a then b else a)) := rfl
@[simp] theorem bc_abs : bcall .abs [.int a] S = some (.int (if a < 0 then -a else a)) := rfl
@[simp] theorem bc_lenF {xs : List D} : bcall .len [.frz xs] S = some (.int xs.length) := rfl
@[simp] theorem bc_lenT {xs : List D} : bcall .len [.tup xs] S = some (.int xs.length) := rfl
@[simp] theorem mc_bits : mcall .bits (.int a) [] S = some (.int (Builtin.Int.intBits a : Nat), S) := rfl
@[simp] theorem rc_bits : recvOk .bits (.int a) S = true := rfl
@[simp] theorem is_tup {xs : List D} : isSt (.tup xs) S = .ok (.st xs) S := rfl
@[simp] theorem is_lst {xs : List D} : isSt (.lst xs) S = .ok (.st xs) S := rfl
@[simp] theorem is_frz {xs : List D} : isSt (.frz xs) S = .ok (.st xs) S := rfl
@[simp] theorem mkL_f {xs : List D} : mkL false xs S = .ok (.lst xs) S := rfl
@[simp] theorem bc_allL {xs : List D} : bcall .all [.lst xs] S = ((boolsOf xs).map fun ns => .bl (ns.all id)) := rfl
@[simp] theorem bc_repr {x : D} : bcall .repr [x] S = (showD S x).map .str := rfl
@[simp] theorem bc_intb {b : Bool} : bcall .int [.bl b] S = some (.int (if b then 1 else 0)) := rfl
theorem co_neS {s : Str} (h : PyData.strOk s = true) : cmpop .NotEq (.str s) (.str s) S = some (.bl false) := by simp [cmpop, eq_str h]
theorem co_eqS {s : Str} (h : PyData.strOk s = true) : cmpop .Eq (.str s) (.str s) S = some (.bl true) := by simp [cmpop, eq_str h]
@[simp] theorem cf_lf {T : List Fn} {lf lv : Nat} : (cfAt T lf lv).lf = lf := rfl
@[simp] theorem cf_call {T : List Fn} {lf lv : Nat} : (cfAt T lf lv).call = evF T lf lv := rfl
@[simp] theorem bcR_len {n : Nat} {ds : List D} : bcallR n .len ds S = bcall .len ds S := rfl
@[simp] theorem bcR_abs {n : Nat} {ds : List D} : bcallR n .abs ds S = bcall .abs ds S := rfl
@[simp] theorem bcR_max {n : Nat} {ds : List D} : bcallR n .max2 ds S = bcall .max2 ds S := rfl
@[simp] theorem bcR_min {n : Nat} {ds : List D} : bcallR n .min2 ds S = bcall .min2 ds S := rfl
@[simp] theorem bcR_int {n : Nat} {ds : List D} : bcallR n .int ds S = bcall .int ds S := rfl
@[simp] theorem bcR_sum {n : Nat} {ds : List D} : bcallR n .sum ds S = bcall .sum ds S := rfl
@[simp] theorem bcR_all {n : Nat} {ds : List D} : bcallR n .all ds S = bcall .all ds S := rfl
@[simp] theorem bcR_any {n : Nat} {ds : List D} : bcallR n .any ds S = bcall .any ds S := rfl
@[simp] theorem bcR_tup {n : Nat} {ds : List D} : bcallR n .tuple ds S = bcall .tuple ds S := rfl
@[simp] theorem bcR_lst {n : Nat} {ds : List D} : bcallR n .list ds S = bcall .list ds S := rfl
@[simp] theorem bcR_isI {n : Nat} {ds : List D} : bcallR n .isI ds S = bcall .isI ds S := rfl
@[simp] theorem bcR_set {n : Nat} {ds : List D} : bcallR n .set ds S = bcall .set ds S := rfl
@[simp] theorem bcR_max1 {n : Nat} {ds : List D} : bcallR n .max1 ds S = bcall .max1 ds S := rfl
@[simp] theorem bcR_min1 {n : Nat} {ds : List D} : bcallR n .min1 ds S = bcall .min1 ds S := rfl
theorem bcR_repr {n : Nat} {ds : List D} (h : (n % 2 == 0) = true) : bcallR n .repr ds S = bcall .repr ds S := by simp [bcallR, rpOk, h]
@[simp] theorem bc_isI : bcall .isI [.int a, .ty "int"] S = some (.bl true) := rfl
@[simp] theorem bc_isB : bcall .isI [.int a, .ty "bool"] S = some (.bl false) := rfl
@[simp] theorem bc_isT {xs : List D} : bcall .isI [.tup xs, .ty "tuple"] S = some (.bl true) := rfl
theorem fin_rt {n : Nat} {d : D} (h : d.calm = true) : finR n (.rt d S) = .ok d (S.take n) := by simp [finR, h]
@[simp] theorem fin_int {n : Nat} : finR n (.rt (.int a) S) = .ok (.int a) (S.take n) := rfl
@[simp] theorem fin_bl {n : Nat} {b : Bool} : finR n (.rt (.bl b) S) = .ok (.bl b) (S.take n) := rfl
@[simp] theorem fin_ref {n l : Nat} : finR n (.rt (.ref l) S) = .ok (.ref l) S := rfl
@[simp] theorem fin_nx {n : Nat} : finR n (.nx env S) = .ok .non (S.take n) := rfl
@[simp] theorem calm_int : D.calm (.int a) = true := rfl
@[simp] theorem calm_bl {b : Bool} : D.calm (.bl b) = true := rfl
@[simp] theorem calm_non : D.calm .non = true := rfl
@[simp] theorem calm_gl {k : Nat} : D.calm (.gl k) = true := rfl
@[simp] theorem calm_str {x : Str} : D.calm (.str x) = true := rfl
@[simp] theorem take_same (S : Store) : S.take S.length = S := List.take_length
@[simp] theorem take_set (S : Store) (l : Nat) (x : List D) : (S.set l x).take S.length = S.set l x := by
  exact List.take_of_length_le (by simp)
@[simp] theorem take_new (S : Store) (x : List D) : (S ++ [x]).take S.length = S := by simp
theorem forL_inv {h : D → Env' → Store → SR} (I : Env' → Store → Prop) : ∀ (ds : List D) (env : Env') (S : Store), I env S → (∀ d ∈ ds, ∀ env S, I env S → ∃ env' S', h d env S = .nx env' S' ∧ I env' S') → ∃ env' S', forL h ds env S = .nx env' S' ∧ I env' S'
  | [], env, S, i, _ => ⟨env, S, rfl, i⟩
  | d :: r, env, S, i, st => by
    obtain ⟨e1, S1, h1, i1⟩ := st d (List.mem_cons_self ..) env S i
    obtain ⟨e2, S2, h2, i2⟩ := forL_inv I r e1 S1 i1 fun d hd => st d (List.mem_cons_of_mem _ hd)
    exact ⟨e2, S2, by rw [forL, h1]; exact h2, i2⟩
theorem upto_mem {m : Int} {d : D} (h : d ∈ upto 0 m) : ∃ k : Nat, d = .int (k : Nat) ∧ (k : Int) < m := by
  unfold upto at h
  obtain ⟨k, hk, e⟩ := List.mem_map.mp h
  rw [List.mem_range] at hk
  refine ⟨k, by rw [← e, Int.zero_add], by omega⟩
end
/-! list cells -/
@[simp] theorem cel_z {c : List D} {S : Store} : cel (c :: S) 0 = lsO c := rfl
@[simp] theorem cel_s {c : List D} {S : Store} {n : Nat} : cel (c :: S) (n + 1) = cel S n := rfl
@[simp] theorem cel_n {l : Nat} : cel [] l = none := rfl
@[simp] theorem ls_nil : lsO [] = some [] := rfl
@[simp] theorem ls_int {a : Int} {r : List D} : lsO (.int a :: r) = some (.int a :: r) := rfl
@[simp] theorem ls_tup {a r : List D} : lsO (.tup a :: r) = some (.tup a :: r) := rfl
@[simp] theorem ls_lst {a r : List D} : lsO (.lst a :: r) = some (.lst a :: r) := rfl
@[simp] theorem ls_frz {a r : List D} : lsO (.frz a :: r) = some (.frz a :: r) := rfl
@[simp] theorem ls_ref {l : Nat} {r : List D} : lsO (.ref l :: r) = some (.ref l :: r) := rfl
@[simp] theorem ls_str {x : Str} {r : List D} : lsO (.str x :: r) = some (.str x :: r) := rfl
@[simp] theorem ls_bl {x : Bool} {r : List D} : lsO (.bl x :: r) = some (.bl x :: r) := rfl
@[simp] theorem ls_non {r : List D} : lsO (.non :: r) = some (.non :: r) := rfl
theorem ls_ints (l : List Int) : lsO (l.map D.int) = some (l.map D.int) := by cases l <;> rfl
theorem ls_tups {α : Type} (f : α → List D) (l : List α) : lsO (l.map fun x => D.tup (f x)) = some (l.map fun x => D.tup (f x)) := by cases l <;> rfl
theorem cel_of {S : Store} {l : Nat} {c : List D} (h : S[l]? = some c) : cel S l = lsO c := by unfold cel; rw [h]; rfl
@[simp] theorem unp_nm {S : Store} {i : Nat} {d : D} : unp S (.nm i) d = d := by cases d <;> rfl
@[simp] theorem unp_t {S : Store} {g : IG} {ds : List D} : unp S g (.tup ds) = .tup ds := by cases g <;> rfl
@[simp] theorem unp_l {S : Store} {g : IG} {ds : List D} : unp S g (.lst ds) = .lst ds := by cases g <;> rfl
end Ev
/-! Ev, part W: lemmas for laws that are reckoned case by case. -/
namespace Ev
open PySem L2
theorem ss_nx {c : Cf} {s : IS} {r : ISs} {env e1 : Env'} {S S1 : Store} (h : evS c s env S = .nx e1 S1) : evSs c (.cons s r) env S = evSs c r e1 S1 := by
  rw [evSs, h]; rfl
theorem ss_rt {c : Cf} {s : IS} {r : ISs} {env : Env'} {d : D} {S S1 : Store} (h : evS c s env S = .rt d S1) : evSs c (.cons s r) env S = .rt d S1 := by
  rw [evSs, h]; rfl
theorem of_map {α β : Type} {f : α → β} {y : β} : ∀ {l : List α}, l.map f = List.replicate l.length y → ∀ x ∈ l, f x = y
  | [], _, _, h => by cases h
  | a :: l, h, x, hx => by
    simp only [List.map_cons, List.length_cons, List.replicate_succ, List.cons.injEq] at h
    rcases List.mem_cons.mp hx with z | z
    · rw [z]; exact h.1
    · exact of_map h.2 x z
def mapR {α β : Type} (g : α → β) : List α → List β
  | [] => []
  | x :: r => g x :: mapR g r
theorem of_mapR {α β : Type} {f g : α → β} : ∀ {l : List α}, l.map f = mapR g l → ∀ x ∈ l, f x = g x
  | [], _, _, h => by cases h
  | a :: l, h, x, hx => by
    simp only [List.map_cons, mapR, List.cons.injEq] at h
    rcases List.mem_cons.mp hx with z | z
    · rw [z]; exact h.1
    · exact of_mapR h.2 x z
theorem of_mapR2 {α β γ : Type} {f g : α → β → γ} {l : List α} {m : List β} (h : l.map (fun x => m.map (f x)) = mapR (fun x => mapR (g x) m) l) : ∀ x ∈ l, ∀ z ∈ m, f x z = g x z :=
  fun x hx => of_mapR (of_mapR h x hx)
theorem of_map2 {α β γ : Type} {f : α → β → γ} {y : γ} {l : List α} {m : List β} (h : l.map (fun x => m.map (f x)) = List.replicate l.length (List.replicate m.length y)) : ∀ x ∈ l, ∀ z ∈ m, f x z = y :=
  fun x hx => of_map (of_map h x hx)
/-- what a call that is handed one cell tells -/
theorem cut_cell {f : List D → Store → R D} {ds es : List D} {d : D} {c c' : List D} (h1 : shrD ds 0 = some es) (h2 : refsL ds = [0]) (h : f es [c] = .ok d [c']) (hd : d.calm = true) : cutCall f ds [c] = .ok d [c'] := by
  have e1 : cellsL [c] (refsL ds) = some [c] := by rw [h2]; rfl
  have e2 : noDup (refsL ds) = true := by rw [h2]; rfl
  unfold cutCall
  rw [h1, e1, e2]
  simp only [h]
  have e3 : backD (refsL ds) [c] [c'] d = if d.calm then .ok d (putL (refsL ds) [c] [c']) else (match d.thaw (refsL ds).length [c'] with | some y => .ok y (putL (refsL ds) [c] [c']) | none => .bad) := by
    unfold backD
    split
    · cases hd
    · rfl
  rw [e3, if_pos hd, h2]
  rfl
/-- .. of plain values -/
theorem cut_plain {f : List D → Store → R D} {ds : List D} {d : D} {S : Store} (h1 : shrD ds 0 = some ds) (h2 : refsL ds = []) (h : f ds [] = .ok d []) (hd : d.calm = true) : cutCall f ds S = .ok d S := by
  have e1 : cellsL S (refsL ds) = some [] := by rw [h2]; rfl
  have e2 : noDup (refsL ds) = true := by rw [h2]; rfl
  unfold cutCall
  rw [h1, e1, e2]
  simp only [h]
  have e3 : backD (refsL ds) S [] d = if d.calm then .ok d (putL (refsL ds) S []) else (match d.thaw (refsL ds).length [] with | some y => .ok y (putL (refsL ds) S []) | none => .bad) := by
    unfold backD
    split
    · cases hd
    · rfl
  rw [e3, if_pos hd, h2]
  rfl
/-- a new cell comes back -/
theorem cut_new {f : List D → Store → R D} {ds : List D} {S : Store} {c : List D} (h1 : shrD ds 0 = some ds) (h2 : refsL ds = []) (h : f ds [] = .ok (.ref 0) [c]) : cutCall f ds S = .ok (.ref S.length) (S ++ [c]) := by
  have e1 : cellsL S (refsL ds) = some [] := by rw [h2]; rfl
  have e2 : noDup (refsL ds) = true := by rw [h2]; rfl
  unfold cutCall
  rw [h1, e1, e2]
  simp only [h]
  unfold backD
  rw [h2]
  rfl
/-- a cell of many is handed on -/
theorem cut_at {f : List D → Store → R D} {l : Nat} {d : D} {S : Store} {c c' : List D} (hs : S[l]? = some c) (h : f [.ref 0] [c] = .ok d [c']) (hd : d.calm = true) : cutCall f [.ref l] S = .ok d (S.set l c') := by
  have e0 : shrD [D.ref l] 0 = some [.ref 0] := rfl
  have e1 : cellsL S (refsL [D.ref l]) = some [c] := by
    show cellsL S [l] = _
    unfold cellsL
    rw [hs]
    rfl
  have e2 : noDup (refsL [D.ref l]) = true := rfl
  unfold cutCall
  rw [e0, e1, e2]
  simp only [h]
  have e3 : backD (refsL [D.ref l]) S [c'] d = if d.calm then .ok d (putL (refsL [D.ref l]) S [c']) else (match d.thaw (refsL [D.ref l]).length [c'] with | some y => .ok y (putL (refsL [D.ref l]) S [c']) | none => .bad) := by
    unfold backD
    split
    · cases hd
    · rfl
  rw [e3, if_pos hd]
  rfl
theorem mul_lt' {i j : Int} (h0 : 0 ≤ i) (h : i < 2 ^ 450) (h1 : 0 ≤ j) (h2 : j < 2 ^ 450) : mulOk i j = true := mulOk_of (m := 450) (by decide) (nat_lt h0 h) (nat_lt h1 h2)
/-- an item by a number below their number -/
theorem at_lt {ds : List D} {r : Int} (h0 : 0 ≤ r) (h : r < ds.length) : ∃ d ∈ ds, atI ds r = some d := by
  have hl : r.toNat < ds.length := by omega
  refine ⟨ds[r.toNat], List.getElem_mem hl, ?_⟩
  have e : ixN ds.length r = some r.toNat := by
    unfold ixN
    simp [h0, h]
  show (ixN ds.length r).bind _ = _
  rw [e]
  exact List.getElem?_eq_getElem hl
theorem calms_mem : ∀ {ds : List D} {d : D}, D.calms ds = true → d ∈ ds → d.calm = true
  | x :: r, d, h, m => by
    have h' : x.calm = true ∧ D.calms r = true := by simpa [D.calms] using h
    rcases List.mem_cons.mp m with z | z
    · rw [z]; exact h'.1
    · exact calms_mem h'.2 z
theorem evE_call {c : Cf} {k : Nat} {src : List Src} {es : IEs} {env : Env'} {S S1 : Store} {vs ds : List D} (h1 : evEs c es env S = .ok vs S1) (h2 : getSrc vs src = some ds) : evE c (.callF k src es) env S = cutCall (c.call k) ds S1 := by
  simp -implicitDefEqProofs only [evE, h1, r_bind_ok, h2]
theorem asg_nm {c : Cf} {i : Nat} {e : IE} {env : Env'} {S S1 : Store} {d : D} (h : evE c e env S = .ok d S1) : evS c (.asg (.nm i) e) env S = .nx (env.set i (some d)) S1 := by
  simp -implicitDefEqProofs only [evS, h, r_go_ok, bg_nm]
  cases d <;> rfl
/-- a loop over plain items that leaves the cells as they are -/
theorem for_same {c : Cf} {i : Nat} {it : II} {b : ISs} {env : Env'} {S : Store} {ds : List D} (E : Env' → Prop) (h0 : E env) (hi : evI c it env S = .ok (.st ds) S)
    (hb : ∀ d ∈ ds, ∀ e1, E e1 → ∃ e2, evSs c b (e1.set i (some d)) S = .nx e2 S ∧ E e2) : ∃ e2, evS c (.forS (.nm i) it b) env S = .nx e2 S ∧ E e2 := by
  obtain ⟨e2, S2, h1, h2, h3⟩ := forL_inv (h := fun d e1 S2 => match Ev.bindG (.nm i) d e1 with
    | some e2 => evSs c b e2 S2
    | none => .bad) (fun e1 S1 => S1 = S ∧ E e1) ds env S ⟨rfl, h0⟩ (fun d hd e1 S1 ⟨q1, q2⟩ => by
      subst q1
      obtain ⟨e2, h1, h2⟩ := hb d hd e1 q2
      exact ⟨e2, S1, h1, rfl, h2⟩)
  subst h2
  refine ⟨e2, ?_, h3⟩
  simp -implicitDefEqProofs only [evS, hi, r_go_ok]
  exact h1
theorem cut_int {f : List D → Store → R D} {ds : List D} {d : D} {S : Store} (h1 : D.calms ds = true) (h0 : ds.all (fun d => match d with | .ref _ => false | _ => true) = true) (h : f ds [] = .ok d []) (hd : d.calm = true) : cutCall f ds S = .ok d S := by
  have key : ∀ {ds : List D} {n : Nat}, D.calms ds = true → ds.all (fun d => match d with | .ref _ => false | _ => true) = true → shrD ds n = some ds ∧ refsL ds = [] := by
    intro ds
    induction ds with
    | nil => intro n _ _; exact ⟨rfl, rfl⟩
    | cons d r ih =>
      intro n hc h0
      have hc' : d.calm = true ∧ D.calms r = true := by simpa [D.calms] using hc
      simp only [List.all_cons, Bool.and_eq_true] at h0
      obtain ⟨i1, i2⟩ := ih (n := n) hc'.2 h0.2
      cases d with
      | ref l => simp at h0
      | _ => simp [shrD, refsL, hc'.1, i1, i2]
  exact cut_plain (key (n := 0) h1 h0).1 (key (n := 0) h1 h0).2 h hd
/-- a cell of many is handed on, with one plain value -/
theorem cut_at2 {f : List D → Store → R D} {l : Nat} {x d : D} {S : Store} {c c' : List D} (hs : S[l]? = some c) (hx : x.calm = true) (h : f [.ref 0, x] [c] = .ok d [c']) (hd : d.calm = true) : cutCall f [.ref l, x] S = .ok d (S.set l c') := by
  have nr : ∀ k, x ≠ .ref k := fun k e => by subst e; cases hx
  have e0 : shrD [D.ref l, x] 0 = some [.ref 0, x] := by
    have : shrD [x] 1 = some [x] := by
      cases x with
      | ref k => exact absurd rfl (nr k)
      | _ => simp [shrD, hx]
    show (shrD [x] 1).map (D.ref 0 :: ·) = _
    rw [this]; rfl
  have er : refsL [D.ref l, x] = [l] := by
    cases x with
    | ref k => exact absurd rfl (nr k)
    | _ => rfl
  have e1 : cellsL S (refsL [D.ref l, x]) = some [c] := by
    rw [er]
    unfold cellsL
    rw [hs]
    rfl
  have e2 : noDup (refsL [D.ref l, x]) = true := by rw [er]; rfl
  unfold cutCall
  rw [e0, e1, e2]
  simp only [h]
  have e3 : backD (refsL [D.ref l, x]) S [c'] d = if d.calm then .ok d (putL (refsL [D.ref l, x]) S [c']) else (match d.thaw (refsL [D.ref l, x]).length [c'] with | some y => .ok y (putL (refsL [D.ref l, x]) S [c']) | none => .bad) := by
    unfold backD
    split
    · cases hd
    · rfl
  rw [e3, if_pos hd, er]
  rfl
/-- a list that came to be is handed back -/
theorem cut_mk {f : List D → Store → R D} {l : Nat} {S : Store} {c c' e : List D} (hs : S[l]? = some c) (h : f [.ref 0] [c] = .ok (.ref 1) [c', e]) : cutCall f [.ref l] S = .ok (.ref S.length) (S.set l c' ++ [e]) := by
  have e1 : cellsL S (refsL [D.ref l]) = some [c] := by
    show cellsL S [l] = _
    unfold cellsL
    rw [hs]
    rfl
  unfold cutCall
  rw [show shrD [D.ref l] 0 = some [.ref 0] from rfl, e1, show noDup (refsL [D.ref l]) = true from rfl]
  simp only [h]
  rfl
theorem compL_map {h : D → Store → R (Option D)} {g : D → D} {S : Store} : ∀ {ds acc : List D}, (∀ d ∈ ds, h d S = .ok (some (g d)) S) → acc.length + ds.length ≤ 1000 → compL h ds acc S = .ok (acc ++ ds.map g) S
  | [], acc, _, _ => by simp [compL]
  | d :: r, acc, hh, hl => by
    rw [List.length_cons] at hl
    have hz : acc.length < sizeLine := by rw [sizeLine_eq]; omega
    rw [compL, hh d List.mem_cons_self]
    simp only [r_bind_ok, hz, decide_true, if_true, appO]
    rw [compL_map (fun e he => hh e (List.mem_cons_of_mem _ he)) (by simp; omega)]
    simp
theorem comp_map {c : Cf} {own : List Nat} {tg : IG} {it : II} {ifs : IO} {elt : IE} {env : Env'} {S : Store} {ds : List D} (g : D → D) (hi : evI c it env S = .ok (.st ds) S) (hl : ds.length ≤ 1000)
    (hb : ∀ d ∈ ds, ∃ env2, bindG tg d (wipeE env own) = some env2 ∧ evC c ifs env2 S = .ok true S ∧ evE c elt env2 S = .ok (g d) S) : evE c (.comp false own tg it ifs elt) env S = .ok (.lst (ds.map g)) S := by
  rw [evE, hi]
  simp only [r_bind_ok, compI]
  rw [compL_map (g := g) (fun d hd => ?_) (by simp; omega)]
  · simp
  · obtain ⟨env2, h1, h2, h3⟩ := hb d hd
    simp only [h1, h2, r_bind_ok, if_true, h3]
/-- two cells are handed on, a third comes back -/
theorem cut_two {f : List D → Store → R D} {p q : Nat} {S : Store} {c x c' x' e2 e3 : List D} (hp : S[p]? = some c) (hq : S[q]? = some x) (hpq : p ≠ q) (h : f [.ref 0, .ref 1] [c, x] = .ok (.ref 3) [c', x', e2, e3]) : cutCall f [.ref p, .ref q] S = .ok (.ref S.length) ((S.set p c').set q x' ++ [e3]) := by
  have e1 : cellsL S (refsL [D.ref p, D.ref q]) = some [c, x] := by
    show cellsL S [p, q] = _
    simp [cellsL, hp, hq]
  have en : noDup (refsL [D.ref p, D.ref q]) = true := by
    show noDup [p, q] = true
    simp [noDup, hpq]
  unfold cutCall
  rw [show shrD [D.ref p, D.ref q] 0 = some [.ref 0, .ref 1] from rfl, e1, en]
  simp only [h]
  rfl
/-- one cell and a plain value are handed on, a cell comes back -/
theorem cut_mk2 {f : List D → Store → R D} {p : Nat} {x : D} {S : Store} {c c' e1 e2 : List D} (hp : S[p]? = some c) (hx : x.calm = true) (h : f [.ref 0, x] [c] = .ok (.ref 2) [c', e1, e2]) : cutCall f [.ref p, x] S = .ok (.ref S.length) (S.set p c' ++ [e2]) := by
  have nr : ∀ k, x ≠ .ref k := fun k e => by subst e; cases hx
  have e0 : shrD [D.ref p, x] 0 = some [.ref 0, x] := by
    have : shrD [x] 1 = some [x] := by
      cases x with
      | ref k => exact absurd rfl (nr k)
      | _ => simp [shrD, hx]
    show (shrD [x] 1).map (D.ref 0 :: ·) = _
    rw [this]; rfl
  have er : refsL [D.ref p, x] = [p] := by
    cases x with
    | ref k => exact absurd rfl (nr k)
    | _ => rfl
  have ec : cellsL S (refsL [D.ref p, x]) = some [c] := by
    rw [er]
    simp [cellsL, hp]
  have en : noDup (refsL [D.ref p, x]) = true := by rw [er]; rfl
  unfold cutCall
  rw [e0, ec, en]
  simp only [h]
  rw [er]
  rfl
theorem if_false {c : Cf} {t : IE} {a : ISs} {env : Env'} {S S1 : Store} (h : evE c t env S = .ok (.bl false) S1) : evS c (.ifS t a .nil) env S = .nx env S1 := by
  rw [evS, h]; rfl
theorem or_false {c : Cf} {a b : IE} {env : Env'} {S S1 S2 : Store} (h1 : evE c a env S = .ok (.bl false) S1) (h2 : evE c b env S1 = .ok (.bl false) S2) : evE c (.orE a b) env S = .ok (.bl false) S2 := by
  rw [evE, h1]; exact h2
theorem cmp_of {c : Cf} {op : CmpOp} {a b : IE} {env : Env'} {S S1 S2 : Store} {x y d : D} (h1 : evE c a env S = .ok x S1) (h2 : evE c b env S1 = .ok y S2) (h : cmpop op x y S2 = some d) : evE c (.cmp op a b) env S = .ok d S2 := by
  rw [evE, h1]
  simp only [r_bind_ok, h2, h, ofO_some]
/-- a turn of a loop over one name -/
def hB (c : Cf) (i : Nat) (b : ISs) : D → Env' → Store → SR := fun d e1 S2 => evSs c b (e1.set i (some d)) S2
theorem for_dyn {c : Cf} {i l : Nat} {it : II} {b : ISs} {env : Env'} {S S1 : Store} (hi : evI c it env S = .ok (.dyn l) S1) : evS c (.forS (.nm i) it b) env S = forR (hB c i b) l c.lf 0 env S1 := by
  rw [evS, hi]
  rfl
theorem ret_of {c : Cf} {e : IE} {env : Env'} {S S1 : Store} {d : D} (h : evE c e env S = .ok d S1) : evS c (.ret e) env S = .rt d S1 := by
  rw [evS, h]; rfl
theorem expr_of {c : Cf} {e : IE} {env : Env'} {S S1 : Store} {d : D} (h : evE c e env S = .ok d S1) : evS c (.expr e) env S = .nx env S1 := by
  rw [evS, h]; rfl
theorem compL_filt {h : D → Store → R (Option D)} {g : D → D} {p : D → Bool} {S : Store} : ∀ {ds acc : List D}, (∀ d ∈ ds, (p d = true → h d S = .ok (some (g d)) S) ∧ (p d = false → h d S = .ok none S)) → acc.length + ds.length ≤ 1000 → compL h ds acc S = .ok (acc ++ (ds.filter p).map g) S
  | [], acc, _, _ => by simp [compL]
  | d :: r, acc, hh, hl => by
    rw [List.length_cons] at hl
    have hz : acc.length < sizeLine := by rw [sizeLine_eq]; omega
    obtain ⟨t1, t2⟩ := hh d List.mem_cons_self
    cases hp : p d with
    | true =>
      rw [compL, t1 hp]
      simp only [r_bind_ok, hz, decide_true, if_true, appO]
      rw [compL_filt (fun e he => hh e (List.mem_cons_of_mem _ he)) (by simp; omega), List.filter_cons_of_pos hp]
      simp
    | false =>
      rw [compL, t2 hp]
      simp only [r_bind_ok, hz, decide_true, if_true, appO]
      rw [compL_filt (fun e he => hh e (List.mem_cons_of_mem _ he)) (by omega), List.filter_cons_of_neg (by simp [hp])]
theorem comp_filt {c : Cf} {own : List Nat} {tg : IG} {it : II} {ifs : IO} {elt : IE} {env : Env'} {S : Store} {ds : List D} (g : D → D) (p : D → Bool) (hi : evI c it env S = .ok (.st ds) S) (hl : ds.length ≤ 1000)
    (hb : ∀ d ∈ ds, ∃ env2, bindG tg d (wipeE env own) = some env2 ∧ evC c ifs env2 S = .ok (p d) S ∧ (p d = true → evE c elt env2 S = .ok (g d) S)) : evE c (.comp false own tg it ifs elt) env S = .ok (.lst ((ds.filter p).map g)) S := by
  rw [evE, hi]
  simp only [r_bind_ok, compI]
  rw [compL_filt (g := g) (p := p) (fun d hd => ⟨fun hp => ?_, fun hp => ?_⟩) (by simp; omega)]
  · simp
  · obtain ⟨env2, h1, h2, h3⟩ := hb d hd
    rw [hp] at h2
    simp only [h1, h2, r_bind_ok, h3 hp]
    rfl
  · obtain ⟨env2, h1, h2, h3⟩ := hb d hd
    rw [hp] at h2
    simp only [h1, h2, r_bind_ok]
    rfl
end Ev
/-! Ev, part X: pairs of whole numbers are shown, compared. -/
namespace Ev
open PySem L2
theorem strOk_of (s : String) : PyData.strOk (PySem.Str.ofString s) = true := by
  show (PySem.Str.ofString s).cps.all (· < 0x110000) = true
  rw [← Array.all_toList, PyProof.Rows.signs_ofString, List.all_map, List.all_eq_true]
  intro c _
  simpa using char_lt c
theorem strOk_app {a b : Str} (h1 : PyData.strOk a = true) (h2 : PyData.strOk b = true) : PyData.strOk (a ++ b) = true := by
  unfold PyData.strOk at *
  rw [Str.cps_append, Array.all_append, h1, h2]
  rfl
theorem ofS_len (s : String) : (PySem.Str.ofString s).length = s.toList.length := by
  have : (PySem.Str.ofString s).cps.toList.length = s.toList.length := by rw [PyProof.Rows.signs_ofString, List.length_map]
  rw [Array.length_toList] at this
  exact this
theorem digs {m : Nat} (h : m < 2 ^ 1900) : (Nat.toDigits 10 m).length ≤ 600 := by
  have hm : m < 10 ^ 600 := Nat.lt_of_lt_of_le h (by decide +kernel)
  exact PyProof.Rows.digits10_le (k := 600) (by decide) hm
theorem len_int {i : Int} (h : i.natAbs < 2 ^ 1900) : (PyData.shown (.int i)).length ≤ 700 := by
  show (PySem.Str.ofString (toString i)).length ≤ 700
  rw [ofS_len]
  cases i with
  | ofNat m =>
    show (Nat.repr m).toList.length ≤ 700
    rw [Nat.toList_repr]
    exact Nat.le_trans (digs h) (by decide)
  | negSucc m =>
    show ("-" ++ Nat.repr (m + 1)).toList.length ≤ 700
    rw [String.toList_append, List.length_append, Nat.toList_repr]
    have : (Nat.toDigits 10 (m + 1)).length ≤ 600 := digs h
    have e : "-".toList.length = 1 := rfl
    omega
theorem show_pair {S : Store} {x y : Int} (hx : x.natAbs < 2 ^ 1900) (hy : y.natAbs < 2 ^ 1900) : ∃ s, showD S (.tup [.int x, .int y]) = some s ∧ PyData.strOk s = true := by
  have e : PyData.shown (.tuple [.int x, .int y]) = ((("(" : Str) ++ (PyData.shown (.int x) ++ (", " : Str) ++ PyData.shown (.int y))) ++ (")" : Str)) := rfl
  have l1 := len_int hx
  have l2 := len_int hy
  have o1 : PyData.strOk (PyData.shown (.int x)) = true := strOk_of _
  have o2 : PyData.strOk (PyData.shown (.int y)) = true := strOk_of _
  have g1 := log2_le hx
  have g2 := log2_le hy
  have e1 : PyData.showable (.tuple [.int x, .int y]) = true := by
    simp only [PyData.showable, PyData.showableAll, Bool.and_eq_true, decide_eq_true_eq]
    exact ⟨by omega, by omega, trivial⟩
  have e2 : PyData.canLay0 (.tuple [.int x, .int y]) = true := by simp [PyData.canLay0, PyData.canLayAll0]
  have e3 : PyData.depth (.tuple [.int x, .int y]) ≤ 64 := by simp [PyData.depth, PyData.depthAll]
  have e4 : small (PyData.shown (.tuple [.int x, .int y])).length = true := by
    unfold small
    rw [e, Str.length_append, Str.length_append, Str.length_append, Str.length_append]
    have z1 : (("(" : String) : Str).length = 1 := rfl
    have z2 : ((", " : String) : Str).length = 2 := rfl
    have z3 : ((")" : String) : Str).length = 1 := rfl
    rw [z1, z2, z3]
    have : (2000 : Nat) ≤ sizeLine := by decide
    simp only [decide_eq_true_eq]
    omega
  refine ⟨PyData.shown (.tuple [.int x, .int y]), ?_, ?_⟩
  · have ep : pyS S (.tup [.int x, .int y]) = some (.tuple [.int x, .int y]) := rfl
    unfold showD
    rw [ep]
    simp only [e1, e2, e3, e4, decide_true, Bool.and_self, if_true]
  · rw [e]
    exact strOk_app (strOk_app (strOk_of _) (strOk_app (strOk_app o1 (strOk_of _)) o2)) (strOk_of _)
theorem eq_pair {S : Store} {a b c d : Int} : eqD S (.tup [.int a, .int b]) (.tup [.int c, .int d]) = some (a == c && b == d) := by
  have h1 : ∀ x y : Int, SeqAt.shaped (.tuple [.int x, .int y]) = true := fun x y => by simp [SeqAt.shaped, PyData.canLay0, PyData.canLayAll0, PyData.depth, PyData.depthAll]
  have h2 : PyData.eqv (.tuple [.int a, .int b]) (.tuple [.int c, .int d]) = (a == c && b == d) := by simp [PyData.eqv, PyData.eqvAll]
  have ep : ∀ x y : Int, pyS S (.tup [.int x, .int y]) = some (.tuple [.int x, .int y]) := fun _ _ => rfl
  unfold eqD
  rw [ep, ep]
  simp only [h1, h2, Bool.and_self, if_true]
/-- a list of pairs in a cell is not [] -/
theorem pys_pairs : ∀ ps : List (Int × Int), D.pys (ps.map fun p => D.tup [.int p.1, .int p.2]) = some (ps.map fun p => PyData.tuple [.int p.1, .int p.2])
  | [] => rfl
  | p :: r => by
    rw [List.map_cons, D.pys, pys_pairs r]
    rfl
theorem lay_pairs : ∀ ps : List (Int × Int), PyData.canLayAll0 (ps.map fun p => PyData.tuple [.int p.1, .int p.2]) = true ∧ PyData.depthAll (ps.map fun p => PyData.tuple [.int p.1, .int p.2]) ≤ 1
  | [] => ⟨rfl, by simp [PyData.depthAll]⟩
  | p :: r => by
    obtain ⟨h1, h2⟩ := lay_pairs r
    constructor
    · simp [PyData.canLayAll0, PyData.canLay0, h1]
    · simp only [List.map_cons, PyData.depthAll, PyData.depth]
      omega
theorem eq_nil {S : Store} {l : Nat} {ps : List (Int × Int)} (h : S[l]? = some (ps.map fun p => D.tup [.int p.1, .int p.2])) : eqD S (.ref l) (.lst []) = some ps.isEmpty := by
  have e1 : pyS S (.ref l) = some (.list (ps.map fun p => PyData.tuple [.int p.1, .int p.2])) := by
    show (match cel S l with | some ds => (D.pys ds).map PyData.list | none => none) = _
    have hc : cel S l = some (ps.map fun p => D.tup [.int p.1, .int p.2]) := by
      unfold cel
      rw [h]
      cases ps <;> rfl
    rw [hc]
    simp only [pys_pairs, Option.map_some]
  have e2 : pyS S (.lst []) = some (.list []) := rfl
  obtain ⟨h1, h2⟩ := lay_pairs ps
  have s1 : SeqAt.shaped (.list (ps.map fun p => PyData.tuple [.int p.1, .int p.2])) = true := by
    simp only [SeqAt.shaped, PyData.canLay0, PyData.depth, h1, Bool.true_and, decide_eq_true_eq]
    exact decide_eq_true (Nat.le_trans (Nat.add_le_add_right h2 1) (by decide : 1 + 1 ≤ 64))
  have s2 : SeqAt.shaped (.list []) = true := by simp [SeqAt.shaped, PyData.canLay0, PyData.canLayAll0, PyData.depth, PyData.depthAll]
  unfold eqD
  rw [e1, e2]
  simp only [s1, s2, Bool.and_self, if_true]
  cases ps <;> simp [PyData.eqv, PyData.eqvAll]
end Ev
/-! Ev, part Y: rows of whole numbers are compared. -/
namespace Ev
open PySem L2
theorem pys_ints : ∀ r : List Int, D.pys (r.map D.int) = some (r.map PyData.int)
  | [] => rfl
  | x :: r => by rw [List.map_cons, D.pys, pys_ints r]; rfl
theorem lay_ints : ∀ r : List Int, PyData.canLayAll0 (r.map PyData.int) = true ∧ PyData.depthAll (r.map PyData.int) = 0
  | [] => ⟨rfl, by simp [PyData.depthAll]⟩
  | x :: r => by
    obtain ⟨h1, h2⟩ := lay_ints r
    constructor
    · simp [PyData.canLayAll0, PyData.canLay0, h1]
    · simp only [List.map_cons, PyData.depthAll, PyData.depth, h2]; rfl
theorem eqv_ints : ∀ r s : List Int, PyData.eqvAll (r.map PyData.int) (s.map PyData.int) = (r == s)
  | [], [] => by simp [PyData.eqvAll]
  | [], _ :: _ => by simp [PyData.eqvAll]
  | _ :: _, [] => by simp [PyData.eqvAll]
  | x :: r, y :: s => by
    have := eqv_ints r s
    simp [PyData.eqvAll, PyData.eqv, this]
theorem shp {p : PyData} (h1 : PyData.canLay0 p = true) (h2 : PyData.depth p ≤ 64) : SeqAt.shaped p = true := by
  simp only [SeqAt.shaped, h1, Bool.true_and, decide_eq_true_eq]
  exact h2
theorem shp_t (r : List Int) : SeqAt.shaped (.tuple (r.map PyData.int)) = true := by
  obtain ⟨h1, h2⟩ := lay_ints r
  exact shp (by simp [PyData.canLay0, h1]) (by simp only [PyData.depth, h2]; decide)
theorem shp_l (r : List Int) : SeqAt.shaped (.list (r.map PyData.int)) = true := by
  obtain ⟨h1, h2⟩ := lay_ints r
  exact shp (by simp [PyData.canLay0, h1]) (by simp only [PyData.depth, h2]; decide)
theorem eq_row {S : Store} {r s : List Int} : eqD S (.tup (r.map D.int)) (.tup (s.map D.int)) = some (r == s) := by
  have e : ∀ r : List Int, pyS S (.tup (r.map D.int)) = some (.tuple (r.map PyData.int)) := fun r => by
    show (D.pys (r.map D.int)).map PyData.tuple = _
    rw [pys_ints]; rfl
  unfold eqD
  rw [e, e]
  simp only [shp_t, Bool.and_self, if_true]
  congr 1
  simp only [PyData.eqv, eqv_ints]
theorem eq_lrow {S : Store} {r s : List Int} : eqD S (.lst (r.map D.int)) (.lst (s.map D.int)) = some (r == s) := by
  have e : ∀ r : List Int, pyS S (.lst (r.map D.int)) = some (.list (r.map PyData.int)) := fun r => by
    show (D.pys (r.map D.int)).map PyData.list = _
    rw [pys_ints]; rfl
  unfold eqD
  rw [e, e]
  simp only [shp_l, Bool.and_self, if_true]
  congr 1
  simp only [PyData.eqv, eqv_ints]
theorem pys_rows : ∀ rs : List (List Int), D.pys (rs.map fun r => D.tup (r.map D.int)) = some (rs.map fun r => PyData.tuple (r.map PyData.int))
  | [] => rfl
  | r :: rs => by
    have : D.py (.tup (r.map D.int)) = some (.tuple (r.map PyData.int)) := by
      show (D.pys (r.map D.int)).map PyData.tuple = _
      rw [pys_ints]; rfl
    rw [List.map_cons, D.pys, pys_rows rs, this]
    rfl
theorem lay_rows : ∀ rs : List (List Int), PyData.canLayAll0 (rs.map fun r => PyData.tuple (r.map PyData.int)) = true ∧ PyData.depthAll (rs.map fun r => PyData.tuple (r.map PyData.int)) ≤ 1
  | [] => ⟨rfl, by simp [PyData.depthAll]⟩
  | r :: rs => by
    obtain ⟨h1, h2⟩ := lay_rows rs
    obtain ⟨k1, k2⟩ := lay_ints r
    constructor
    · simp [PyData.canLayAll0, PyData.canLay0, h1, k1]
    · simp only [List.map_cons, PyData.depthAll, PyData.depth, k2]
      omega
theorem eqv_rows : ∀ rs ss : List (List Int), PyData.eqvAll (rs.map fun r => PyData.tuple (r.map PyData.int)) (ss.map fun r => PyData.tuple (r.map PyData.int)) = (rs == ss)
  | [], [] => by simp [PyData.eqvAll]
  | [], _ :: _ => by simp [PyData.eqvAll]
  | _ :: _, [] => by simp [PyData.eqvAll]
  | x :: r, y :: s => by
    have := eqv_rows r s
    simp [PyData.eqvAll, PyData.eqv, this, eqv_ints]
theorem eq_rows {S : Store} {r s : List (List Int)} : eqD S (.lst (r.map fun r => D.tup (r.map D.int))) (.lst (s.map fun r => D.tup (r.map D.int))) = some (r == s) := by
  have e : ∀ r : List (List Int), pyS S (.lst (r.map fun r => D.tup (r.map D.int))) = some (.list (r.map fun r => PyData.tuple (r.map PyData.int))) := fun r => by
    show (D.pys _).map PyData.list = _
    rw [pys_rows]; rfl
  have h : ∀ r : List (List Int), SeqAt.shaped (.list (r.map fun r => PyData.tuple (r.map PyData.int))) = true := fun r => by
    obtain ⟨h1, h2⟩ := lay_rows r
    exact shp (by simp [PyData.canLay0, h1]) (by simp only [PyData.depth]; omega)
  unfold eqD
  rw [e, e]
  simp only [h, Bool.and_self, if_true]
  congr 1
  simp only [PyData.eqv, eqv_rows]
theorem ite_t {c : Cf} {t a b : IE} {env : Env'} {S S1 : Store} (h : evE c t env S = .ok (.bl true) S1) : evE c (.ite t a b) env S = evE c a env S1 := by
  rw [evE, h]; rfl
theorem ite_f {c : Cf} {t a b : IE} {env : Env'} {S S1 : Store} (h : evE c t env S = .ok (.bl false) S1) : evE c (.ite t a b) env S = evE c b env S1 := by
  rw [evE, h]; rfl
theorem ifs_t {c : Cf} {t : IE} {a b : ISs} {env : Env'} {S S1 : Store} (h : evE c t env S = .ok (.bl true) S1) : evS c (.ifS t a b) env S = evSs c a env S1 := by
  rw [evS, h]; rfl
theorem not_t {c : Cf} {t : IE} {env : Env'} {S S1 : Store} (h : evE c t env S = .ok (.bl true) S1) : evE c (.notE t) env S = .ok (.bl false) S1 := by
  rw [evE, h]; rfl
theorem and_t {c : Cf} {a b : IE} {env : Env'} {S S1 : Store} (h : evE c a env S = .ok (.bl true) S1) : evE c (.andE a b) env S = evE c b env S1 := by
  rw [evE, h]; rfl
theorem compL_mapA {α : Type} {h : D → Store → R (Option D)} {mk g : α → D} {S : Store} : ∀ {l : List α} {acc : List D}, (∀ a ∈ l, h (mk a) S = .ok (some (g a)) S) → acc.length + l.length ≤ 1000 → compL h (l.map mk) acc S = .ok (acc ++ l.map g) S
  | [], acc, _, _ => by simp [compL]
  | d :: r, acc, hh, hl => by
    rw [List.length_cons] at hl
    have hz : acc.length < sizeLine := by rw [sizeLine_eq]; omega
    rw [List.map_cons, compL, hh d List.mem_cons_self]
    simp only [r_bind_ok, hz, decide_true, if_true, appO]
    rw [compL_mapA (fun e he => hh e (List.mem_cons_of_mem _ he)) (by simp; omega)]
    simp
theorem comp_mapA {α : Type} {c : Cf} {j : Nat} {it : II} {elt : IE} {env : Env'} {S : Store} {l : List α} (mk g : α → D) (hi : evI c it env S = .ok (.st (l.map mk)) S) (hl : l.length ≤ 1000)
    (hb : ∀ a ∈ l, evE c elt ((wipeE env [j]).set j (some (mk a))) S = .ok (g a) S) : evE c (.comp false [j] (.nm j) it .none elt) env S = .ok (.lst (l.map g)) S := by
  rw [evE, hi]
  simp only [r_bind_ok, compI]
  rw [compL_mapA (mk := mk) (g := g) (fun a ha => ?_) (by simpa using hl)]
  · simp
  · have : bindG (.nm j) (mk a) (wipeE env [j]) = some ((wipeE env [j]).set j (some (mk a))) := rfl
    have hc : ∀ e, evC c .none e S = .ok true S := fun e => rfl
    simp only [this, hc, r_bind_ok, if_true, hb a ha]
theorem ix_l {S : Store} {xs : List D} {k : Nat} (h : k < xs.length) : ixD S (.lst xs) (.int (k : Int)) = xs[k]? := by
  have e1 : ixN xs.length (k : Int) = some k := by
    unfold ixN
    simp [h]
  show (ixN xs.length (k : Int)).bind _ = _
  rw [e1]
  rfl
theorem co_eq' {S : Store} {x y : D} {b : Bool} (h : eqD S x y = some b) : cmpop .Eq x y S = some (.bl b) := by
  unfold cmpop; rw [h]; rfl
theorem co_ne' {S : Store} {x y : D} {b : Bool} (h : eqD S x y = some b) : cmpop .NotEq x y S = some (.bl (!b)) := by
  unfold cmpop; rw [h]; rfl
end Ev
/-! Ev, part Z: rows of whole numbers are shown. -/
namespace Ev
open PySem L2 PyProof.Rows
theorem strOk_join : ∀ {ts : List Str}, (∀ t ∈ ts, PyData.strOk t = true) → PyData.strOk (Str.join ", " ts) = true
  | [], _ => by decide +kernel
  | [x], h => h x (by simp)
  | x :: y :: r, h => by
    show PyData.strOk (x ++ ", " ++ Str.join ", " (y :: r)) = true
    exact strOk_app (strOk_app (h x (by simp)) (strOk_of _)) (strOk_join fun t ht => h t (List.mem_cons_of_mem _ ht))
theorem shownAll_ints : ∀ r : List Int, PyData.shownAll (r.map PyData.int) = r.map fun x => PyData.shown (.int x)
  | [] => by simp [PyData.shownAll]
  | x :: r => by simp [PyData.shownAll, shownAll_ints r]
theorem showable_ints : ∀ {r : List Int}, (∀ x ∈ r, x.natAbs < 2 ^ 1900) → PyData.showableAll (r.map PyData.int) = true
  | [], _ => by simp [PyData.showableAll]
  | x :: r, h => by
    have g1 := log2_le (h x (by simp))
    have ih := showable_ints (r := r) fun y hy => h y (List.mem_cons_of_mem _ hy)
    simp only [List.map_cons, PyData.showableAll, PyData.showable, Bool.and_eq_true, decide_eq_true_eq]
    exact ⟨by omega, ih⟩
theorem sum_le {α : Type} {f : α → Nat} {B : Nat} : ∀ {l : List α}, (∀ x ∈ l, f x ≤ B) → (l.map f).sum ≤ B * l.length
  | [], _ => by simp
  | x :: r, h => by
    have h1 := h x (by simp)
    have h2 := sum_le (l := r) fun y hy => h y (List.mem_cons_of_mem _ hy)
    simp only [List.map_cons, List.sum_cons, List.length_cons, Nat.mul_succ]
    omega
theorem row_len {r : List Int} (h : ∀ x ∈ r, x.natAbs < 2 ^ 1900) : (PyData.shown (.tuple (r.map PyData.int))).length ≤ 702 * r.length + 3 := by
  have e : PyData.shown (.tuple (r.map PyData.int)) = tupleText (r.map fun x => PyData.shown (.int x)) := by
    rw [PyData.shown_tuple, shownAll_ints]
    simp [tupleText]
  rw [e]
  refine Nat.le_trans (tupleText_len_le _) ?_
  rw [List.map_map, List.length_map]
  have := sum_le (l := r) (f := (fun x : Str => x.length) ∘ fun x => PyData.shown (.int x)) (B := 700) fun x hx => len_int (h x hx)
  omega
theorem row_strOk (r : List Int) : PyData.strOk (PyData.shown (.tuple (r.map PyData.int))) = true := by
  rw [PyData.shown_tuple, shownAll_ints]
  refine strOk_app (strOk_app (strOk_of _) (strOk_join fun t ht => ?_)) (strOk_of _)
  obtain ⟨x, _, rfl⟩ := List.mem_map.mp ht
  exact strOk_of _
theorem small_le {n : Nat} (h : n ≤ 1000000) : small n = true := by
  unfold small
  have : (1000000 : Nat) ≤ sizeLine := by decide
  simp only [decide_eq_true_eq]
  omega
theorem pyS_row {S : Store} (r : List Int) : pyS S (.tup (r.map D.int)) = some (.tuple (r.map PyData.int)) := by
  show (D.pys (r.map D.int)).map PyData.tuple = _
  rw [pys_ints]; rfl
theorem show_row {S : Store} {r : List Int} (h : ∀ x ∈ r, x.natAbs < 2 ^ 1900) (hl : r.length ≤ 100) : ∃ s, showD S (.tup (r.map D.int)) = some s ∧ PyData.strOk s = true := by
  obtain ⟨k1, k2⟩ := lay_ints r
  have e1 : PyData.showable (.tuple (r.map PyData.int)) = true := by
    simp only [PyData.showable]
    exact showable_ints h
  have e2 : PyData.canLay0 (.tuple (r.map PyData.int)) = true := by simp [PyData.canLay0, k1]
  have e3 : PyData.depth (.tuple (r.map PyData.int)) ≤ 64 := by simp only [PyData.depth, k2]; decide
  have e4 : small (PyData.shown (.tuple (r.map PyData.int))).length = true := small_le (by have := row_len h; omega)
  refine ⟨PyData.shown (.tuple (r.map PyData.int)), ?_, row_strOk r⟩
  unfold showD
  rw [pyS_row]
  simp only [e1, e2, e3, e4, decide_true, Bool.and_self, if_true]
end Ev
/-! Ev, part S: data that is shown. -/
namespace Ev
open PySem L2 PyProof.Rows
structure Good (p : PyData) (n k : Nat) : Prop where
  sh : PyData.showable p = true
  lay : PyData.canLay0 p = true
  dp : PyData.depth p ≤ k
  ln : (PyData.shown p).length ≤ n
  ok : PyData.strOk (PyData.shown p) = true
theorem Good.mono {p : PyData} {n k m j : Nat} (h : Good p n k) (h1 : n ≤ m) (h2 : k ≤ j) : Good p m j := ⟨h.sh, h.lay, Nat.le_trans h.dp h2, Nat.le_trans h.ln h1, h.ok⟩
theorem good_int {i : Int} (h : i.natAbs < 2 ^ 1900) : Good (.int i) 700 0 where
  sh := by
    have g1 := log2_le h
    simp only [PyData.showable, decide_eq_true_eq]
    omega
  lay := rfl
  dp := by simp [PyData.depth]
  ln := len_int h
  ok := strOk_of _
theorem good_row {r : List Int} (h : ∀ x ∈ r, x.natAbs < 2 ^ 1900) : Good (.tuple (r.map PyData.int)) (702 * r.length + 3) 1 where
  sh := by simp only [PyData.showable]; exact showable_ints h
  lay := by simp [PyData.canLay0, (lay_ints r).1]
  dp := by simp [PyData.depth, (lay_ints r).2]
  ln := row_len h
  ok := row_strOk r
theorem shA : ∀ ps : List PyData, PyData.shownAll ps = ps.map PyData.shown
  | [] => by simp [PyData.shownAll]
  | p :: r => by simp [PyData.shownAll, shA r]
theorem shbA : ∀ {ps : List PyData}, (∀ p ∈ ps, PyData.showable p = true) → PyData.showableAll ps = true
  | [], _ => by simp [PyData.showableAll]
  | p :: r, h => by simp [PyData.showableAll, h p (by simp), shbA (ps := r) fun q hq => h q (List.mem_cons_of_mem _ hq)]
theorem clA : ∀ {ps : List PyData}, (∀ p ∈ ps, PyData.canLay0 p = true) → PyData.canLayAll0 ps = true
  | [], _ => by simp [PyData.canLayAll0]
  | p :: r, h => by simp [PyData.canLayAll0, h p (by simp), clA (ps := r) fun q hq => h q (List.mem_cons_of_mem _ hq)]
theorem dpA {k : Nat} : ∀ {ps : List PyData}, (∀ p ∈ ps, PyData.depth p ≤ k) → PyData.depthAll ps ≤ k
  | [], _ => by simp [PyData.depthAll]
  | p :: r, h => by
    have h1 := h p (by simp)
    have h2 := dpA (ps := r) (k := k) fun q hq => h q (List.mem_cons_of_mem _ hq)
    simp only [PyData.depthAll]
    omega
theorem lnA {n : Nat} {ps : List PyData} (h : ∀ p ∈ ps, (PyData.shown p).length ≤ n) : ((PyData.shownAll ps).map (·.length)).sum ≤ n * ps.length := by
  rw [shA, List.map_map]
  exact sum_le fun p hp => h p hp
theorem okA {ps : List PyData} (h : ∀ p ∈ ps, PyData.strOk (PyData.shown p) = true) : PyData.strOk (Str.join ", " (PyData.shownAll ps)) = true := by
  rw [shA]
  refine strOk_join fun t ht => ?_
  obtain ⟨p, hp, rfl⟩ := List.mem_map.mp ht
  exact h p hp
theorem shA_len (ps : List PyData) : (PyData.shownAll ps).length = ps.length := by rw [shA, List.length_map]
theorem good_tuple {ps : List PyData} {n k : Nat} (h : ∀ p ∈ ps, Good p n k) : Good (.tuple ps) ((n + 2) * ps.length + 3) (k + 1) where
  sh := by simp only [PyData.showable]; exact shbA fun p hp => (h p hp).sh
  lay := by simp only [PyData.canLay0]; exact clA fun p hp => (h p hp).lay
  dp := by
    have := dpA (k := k) fun p hp => (h p hp).dp
    simp only [PyData.depth]; omega
  ln := by
    have e : PyData.shown (.tuple ps) = tupleText (PyData.shownAll ps) := by
      rw [PyData.shown_tuple]
      simp [tupleText, shA_len]
    rw [e]
    refine Nat.le_trans (tupleText_len_le _) ?_
    have := lnA (n := n) fun p hp => (h p hp).ln
    rw [shA_len, Nat.add_mul]
    omega
  ok := by
    rw [PyData.shown_tuple]
    exact strOk_app (strOk_app (strOk_of _) (okA fun p hp => (h p hp).ok)) (strOk_of _)
theorem good_list {ps : List PyData} {n k : Nat} (h : ∀ p ∈ ps, Good p n k) : Good (.list ps) ((n + 2) * ps.length + 3) (k + 1) where
  sh := by simp only [PyData.showable]; exact shbA fun p hp => (h p hp).sh
  lay := by simp only [PyData.canLay0]; exact clA fun p hp => (h p hp).lay
  dp := by
    have := dpA (k := k) fun p hp => (h p hp).dp
    simp only [PyData.depth]; omega
  ln := by
    have h0 := (good_tuple h).ln
    have e0 : (PyData.shown (.tuple ps)).length = 1 + (Str.join ", " (PyData.shownAll ps)).length + (if ps.length == 1 then 2 else 1) := by
      rw [PyData.shown_tuple]
      split <;> simp [Str.length_append] <;> rfl
    have e1 : (PyData.shown (.list ps)).length = 1 + (Str.join ", " (PyData.shownAll ps)).length + 1 := by
      rw [PyData.shown_list]
      simp [Str.length_append]
      rfl
    rw [e1]
    rw [e0] at h0
    split at h0 <;> omega
  ok := by
    rw [PyData.shown_list]
    exact strOk_app (strOk_app (strOk_of _) (okA fun p hp => (h p hp).ok)) (strOk_of _)
theorem show_of {S : Store} {x : D} {p : PyData} {n k : Nat} (e : pyS S x = some p) (h : Good p n k) (hn : n ≤ 1000000) (hk : k ≤ 64) : ∃ s, showD S x = some s ∧ PyData.strOk s = true := by
  refine ⟨PyData.shown p, ?_, h.ok⟩
  have e4 : small (PyData.shown p).length = true := small_le (Nat.le_trans h.ln hn)
  have e3 : PyData.depth p ≤ 64 := Nat.le_trans h.dp hk
  unfold showD
  rw [e]
  simp only [h.sh, h.lay, e3, e4, decide_true, Bool.and_self, if_true]
theorem shp_of {p : PyData} {n k : Nat} (h : Good p n k) (hk : k ≤ 64) : SeqAt.shaped p = true := shp h.lay (Nat.le_trans h.dp hk)
end Ev
/-! Ev, part U: the evaluation step by step; what stands behind is left alone. -/
namespace Ev
open PySem L2
/-- a result is told, and it is such -/
def W {α : Type} (r : R α) (Q : α → Store → Prop) : Prop := ∃ a S, r = .ok a S ∧ Q a S
theorem W.mono {α : Type} {r : R α} {Q Q' : α → Store → Prop} (h : W r Q) (k : ∀ a S, Q a S → Q' a S) : W r Q' := let ⟨a, S, e, q⟩ := h; ⟨a, S, e, k a S q⟩
theorem W_ok {α : Type} {a : α} {S : Store} {Q : α → Store → Prop} (h : Q a S) : W (.ok a S) Q := ⟨a, S, rfl, h⟩
theorem W_F {T : List Fn} {lf lv k np ns : Nat} {body : ISs} {args : List D} {S : Store} {Q : D → Store → Prop} (h : T[k]? = some ⟨np, ns, body⟩) (hl : args.length = np)
    (H : W (finR S.length (evSs (cfAt T lf lv) body (args.map some ++ List.replicate (ns - args.length) none) S)) Q) : W (evF T lf (lv + 1) k args S) Q := by
  rw [evF_at h hl]; exact H
set_option checkBinderAnnotations false
/-! what stands behind is an argument that simp does not visit -/
def bnd {α β : Type} (r : R α) [f : α → Store → R β] : R β := r.bind f
def gob {α : Type} (r : R α) (env : Env') [f : α → Store → SR] : SR := r.go env f
def thb (r : SR) [f : Env' → Store → SR] : SR := r.then f
section
variable {α β : Type} {c : Cf} {env : Env'} {S S1 : Store}
theorem bnd_ok {a : α} {f : α → Store → R β} : @bnd α β (.ok a S) f = f a S := rfl
theorem gob_ok {a : α} {f : α → Store → SR} : @gob α (.ok a S) env f = f a S := rfl
theorem thb_nx {f : Env' → Store → SR} : @thb (.nx env S) f = f env S := rfl
theorem thb_rt {d : D} {f : Env' → Store → SR} : @thb (.rt d S) f = .rt d S := rfl
theorem thb_bk {f : Env' → Store → SR} : @thb (.bk env S) f = .bk env S := rfl
theorem thb_ct {f : Env' → Store → SR} : @thb (.ct env S) f = .ct env S := rfl
theorem thb_exc {x : Ex} {f : Env' → Store → SR} : @thb (.exc x env S) f = .exc x env S := rfl
def ifO {α : Type} (o : Option Bool) [x : Unit → α] [y : Unit → α] [z : α] : α := match o with
  | some true => x ()
  | some false => y ()
  | none => z
theorem ifO_t {x y : Unit → α} {z : α} : @ifO α (some true) x y z = x () := rfl
theorem ifO_f {x y : Unit → α} {z : α} : @ifO α (some false) x y z = y () := rfl
theorem ifO_i {b : Bool} {x y : Unit → α} {z : α} : @ifO α (some b) x y z = if b = true then x () else y () := by cases b <;> rfl
def chk {α : Type} (b : Bool) [r : Unit → R α] : R α := if b then r () else .bad
theorem chk_t {r : Unit → R α} : @chk α true r = r () := rfl
def varO (o : Option (Option D)) (S : Store) : R D := match o with
  | some (some d) => .ok d S
  | _ => .bad
theorem varO_s {d : D} : varO (some (some d)) S = .ok d S := rfl
def nxO (o : Option Env') (S : Store) : SR := match o with
  | some e => .nx e S
  | none => .bad
theorem nxO_s {e : Env'} : nxO (some e) S = .nx e S := rfl
def intO (d : D) (S : Store) : R (Option Int) := match d with
  | .int i => .ok (some i) S
  | _ => .bad
theorem intO_s {i : Int} : intO (.int i) S = .ok (some i) S := rfl
def rngO (x y : D) (S : Store) : R It' := match x, y with
  | .int i, .int j => @chk _ (okR i j) fun _ => (.ok (.st (upto i j)) S)
  | _, _ => .bad
theorem rngO_s {i j : Int} : rngO (.int i) (.int j) S = @chk _ (okR i j) fun _ => (.ok (.st (upto i j)) S) := rfl
def negO (x : D) (S : Store) : R D := match x with
  | .int i => .ok (.int (-i)) S
  | _ => .bad
theorem negO_s {i : Int} : negO (.int i) S = .ok (.int (-i)) S := rfl
def srcO (o : Option (List D)) [f : List D → R D] : R D := match o with
  | some ds => f ds
  | none => .bad
theorem srcO_s {ds : List D} {f : List D → R D} : @srcO (some ds) f = f ds := rfl
def ssO (o : Option Env') [f : Env' → SR] : SR := match o with
  | some e => f e
  | none => .bad
theorem ssO_s {e : Env'} {f : Env' → SR} : @ssO (some e) f = f e := rfl
def SR.loop (r : SR) [f : Env' → Store → SR] : SR := match r with
  | .nx e S => f e S
  | .ct e S => f e S
  | .bk e S => .nx e S
  | .rt d S => .rt d S
  | .exc x e S => .exc x e S
  | .bad => .bad
theorem loop_nx {f : Env' → Store → SR} : @SR.loop (SR.nx env S) f = f env S := rfl
theorem loop_ct {f : Env' → Store → SR} : @SR.loop (SR.ct env S) f = f env S := rfl
theorem loop_bk {f : Env' → Store → SR} : @SR.loop (SR.bk env S) f = .nx env S := rfl
theorem loop_rt {d : D} {f : Env' → Store → SR} : @SR.loop (SR.rt d S) f = .rt d S := rfl
def mtO (o : Option (D × Store)) : R D := match o with
  | some (d, S) => .ok d S
  | none => .bad
theorem mtO_s {d : D} : mtO (some (d, S)) = .ok d S := rfl
def cmO (mu : Bool) (r : R (List D)) : R D := match r with
  | .ok ds S => mkL mu ds S
  | _ => .bad
theorem cmO_s {mu : Bool} {ds : List D} : cmO mu (.ok ds S) = mkL mu ds S := rfl
/-! statements -/
theorem q_nil : evSs c .nil env S = .nx env S := by rw [evSs]; try rfl
theorem q_cons {s : IS} {r : ISs} : evSs c (.cons s r) env S = @thb (evS c s env S) fun e1 S1 => evSs c r e1 S1 := by rw [evSs]; try rfl
theorem q_asg {g : IG} {e : IE} : evS c (.asg g e) env S = @gob _ (evE c e env S) env fun d S1 => nxO (bindG g (unp S1 g d) env) S1 := by rw [evS]; rfl
theorem q_par {is : List Nat} {es : IEs} : evS c (.par is es) env S = @gob _ (evEs c es env S) env fun ds S1 => nxO (setAll env is ds) S1 := by rw [evS]; rfl
theorem q_aug {i : Nat} {op : Operator} {e : IE} : evS c (.aug i op e) env S = @gob _ (varO env[i]? S) env fun x _ => @gob _ (evE c e env S) env fun y S1 => nxO ((augop op x y).map fun z => env.set i (some z)) S1 := by
  rw [evS]
  rcases env[i]? with _ | (_ | x)
  · rfl
  · rfl
  · show _ = R.go (evE c e env S) env _
    simp only [R.go]
    cases evE c e env S with
    | ok y S1 =>
      simp only
      show _ = nxO _ _
      cases augop op x y <;> rfl
    | exc x S1 => rfl
    | bad => rfl
theorem q_expr {e : IE} : evS c (.expr e) env S = @gob _ (evE c e env S) env fun _ S1 => .nx env S1 := by rw [evS]; try rfl
theorem q_ret {e : IE} : evS c (.ret e) env S = @gob _ (evE c e env S) env fun d S1 => .rt d S1 := by rw [evS]; try rfl
theorem q_retN : evS c .retN env S = .rt .non S := by rw [evS]; try rfl
theorem q_pass : evS c .pass env S = .nx env S := by rw [evS]; try rfl
theorem q_brk : evS c .brk env S = .bk env S := by rw [evS]; try rfl
theorem q_cont : evS c .cont env S = .ct env S := by rw [evS]; try rfl
theorem q_if {t : IE} {a b : ISs} : evS c (.ifS t a b) env S = @gob _ (evE c t env S) env fun d S1 => @ifO _ (truth S1 d) (fun _ => (evSs c a env S1)) (fun _ => (evSs c b env S1)) .bad := by
  rw [evS]
  refine congrArg (R.go _ env) ?_
  funext d S1
  rcases truth S1 d with _ | (_ | _) <;> rfl
def hG (c : Cf) (g : IG) (b : ISs) : D → Env' → Store → SR := fun d e1 S2 => @ssO (bindG g d e1) fun e2 => evSs c b e2 S2
def forJ (c : Cf) (g : IG) (b : ISs) (J : It') (env : Env') (S : Store) : SR := match J with
  | .st ds => forL (hG c g b) ds env S
  | .dyn l => forR (hG c g b) l c.lf 0 env S
theorem q_for {g : IG} {it : II} {b : ISs} : evS c (.forS g it b) env S = @gob _ (evI c it env S) env fun J S1 => forJ c g b J env S1 := by
  rw [evS]; congr 1
theorem forJ_st {g : IG} {b : ISs} {ds : List D} : forJ c g b (.st ds) env S = forL (hG c g b) ds env S := rfl
theorem forL_0 {h : D → Env' → Store → SR} : forL h [] env S = .nx env S := rfl
theorem forL_1 {h : D → Env' → Store → SR} {d : D} {r : List D} : forL h (d :: r) env S = @SR.loop (h d env S) fun e1 S1 => forL h r e1 S1 := by
  rw [forL]
  cases h d env S <;> rfl
theorem hG_ {g : IG} {b : ISs} {d : D} : hG c g b d env S = @ssO (bindG g d env) fun e2 => evSs c b e2 S := rfl
/-! targets -/
theorem q_bt {ts : IGs} {ds : List D} : bindG (.tup ts) (.tup ds) env = bindGs ts ds env := by rw [bindG]; try rfl
theorem q_btl {ts : IGs} {ds : List D} : bindG (.tup ts) (.lst ds) env = bindGs ts ds env := by rw [bindG]; try rfl
theorem q_bs0 : bindGs .nil [] env = some env := by rw [bindGs]; try rfl
theorem q_bs1 {i : Nat} {r : IGs} {d : D} {ds : List D} : bindGs (.cons (.nm i) r) (d :: ds) env = bindGs r ds (env.set i (some d)) := by rw [bindGs, bg_nm]
def thnO (o : Option Env') [f : Env' → Option Env'] : Option Env' := match o with
  | some e => f e
  | none => none
theorem thnO_s {e : Env'} {f : Env' → Option Env'} : @thnO (some e) f = f e := rfl
theorem q_bs2 {ts r : IGs} {d : D} {ds : List D} : bindGs (.cons (.tup ts) r) (d :: ds) env = @thnO (bindG (.tup ts) d env) fun e => bindGs r ds e := by rw [bindGs]; rfl
theorem q_sa0 : setAll env [] [] = some env := by rw [setAll]; try rfl
theorem q_sa1 {i : Nat} {is : List Nat} {d : D} {ds : List D} : setAll env (i :: is) (d :: ds) = setAll (env.set i (some d)) is ds := by rw [setAll]; try rfl
theorem wipe0 : wipeE env [] = env := by rw [wipeE]
theorem wipe1 {i : Nat} {r : List Nat} : wipeE env (i :: r) = (wipeE env r).set i none := by rw [wipeE]
/-! expressions -/
theorem q_var {i : Nat} : evE c (.var i) env S = varO env[i]? S := by rw [evE]; rfl
theorem q_cst {d : D} : evE c (.cst d) env S = .ok d S := by rw [evE]; try rfl
theorem q_bin {op : Operator} {a b : IE} : evE c (.bin op a b) env S = @bnd _ _ (evE c a env S) fun x S1 => @bnd _ _ (evE c b env S1) fun y S2 => ofO (binop op x y S2) S2 := by rw [evE]; try rfl
theorem q_neg {a : IE} : evE c (.neg a) env S = @bnd _ _ (evE c a env S) fun x S1 => negO x S1 := by rw [evE]; rfl
theorem q_not {a : IE} : evE c (.notE a) env S = @bnd _ _ (evE c a env S) fun x S1 => ofO ((truth S1 x).map fun b => .bl (!b)) S1 := by
  rw [evE]
  refine congrArg (R.bind _) (?_ : _ = _)
  funext x S1
  rcases truth S1 x with _ | b <;> rfl
theorem q_cmp {op : CmpOp} {a b : IE} : evE c (.cmp op a b) env S = @bnd _ _ (evE c a env S) fun x S1 => @bnd _ _ (evE c b env S1) fun y S2 => ofO (cmpop op x y S2) S2 := by rw [evE]; try rfl
theorem q_and {a b : IE} : evE c (.andE a b) env S = @bnd _ _ (evE c a env S) fun x S1 => @ifO _ (truth S1 x) (fun _ => (evE c b env S1)) (fun _ => (.ok x S1)) .bad := by
  rw [evE]
  refine congrArg (R.bind _) (?_ : _ = _)
  funext x S1
  rcases truth S1 x with _ | (_ | _) <;> rfl
theorem q_or {a b : IE} : evE c (.orE a b) env S = @bnd _ _ (evE c a env S) fun x S1 => @ifO _ (truth S1 x) (fun _ => (.ok x S1)) (fun _ => (evE c b env S1)) .bad := by
  rw [evE]
  refine congrArg (R.bind _) (?_ : _ = _)
  funext x S1
  rcases truth S1 x with _ | (_ | _) <;> rfl
theorem q_ite {t a b : IE} : evE c (.ite t a b) env S = @bnd _ _ (evE c t env S) fun x S1 => @ifO _ (truth S1 x) (fun _ => (evE c a env S1)) (fun _ => (evE c b env S1)) .bad := by
  rw [evE]
  refine congrArg (R.bind _) (?_ : _ = _)
  funext x S1
  rcases truth S1 x with _ | (_ | _) <;> rfl
theorem q_tup {es : IEs} : evE c (.tupE es) env S = @bnd _ _ (evEs c es env S) fun ds S1 => @chk _ (small ds.length) fun _ => (.ok (.tup ds) S1) := by rw [evE]; rfl
theorem q_lst {mu : Bool} {es : IEs} : evE c (.lstE mu es) env S = @bnd _ _ (evEs c es env S) fun ds S1 => @chk _ (small ds.length) fun _ => (mkL mu ds S1) := by rw [evE]; rfl
theorem q_ix {a i : IE} : evE c (.ix a i) env S = @bnd _ _ (evE c a env S) fun x S1 => @bnd _ _ (evE c i env S1) fun y S2 => ofO (ixD S2 x y) S2 := by rw [evE]; try rfl
theorem q_sl {a : IE} {lo hi : IO} : evE c (.sl a lo hi) env S = @bnd _ _ (evE c a env S) fun x S1 => @bnd _ _ (evO c lo env S1) fun l S2 => @bnd _ _ (evO c hi env S2) fun h S3 => ofO (slD S3 x l h) S3 := by rw [evE]; try rfl
theorem q_callF {k : Nat} {src : List Src} {es : IEs} : evE c (.callF k src es) env S = @bnd _ _ (evEs c es env S) fun vs S1 => @srcO (getSrc vs src) fun ds => cutCall (c.call k) ds S1 := by rw [evE]; rfl
theorem q_callB {b : BI} {es : IEs} : evE c (.callB b es) env S = @bnd _ _ (evEs c es env S) fun ds S1 => ofO (bcallR c.lf b ds S1) S1 := by rw [evE]; try rfl
theorem q_meth {m : ME} {o : IE} {es : IEs} : evE c (.meth m o es) env S = @bnd _ _ (evE c o env S) fun x S1 => @chk _ (recvOk m x S1) fun _ => (@bnd _ _ (evEs c es env S1) fun ds S2 => mtO (mcall m x ds S2)) := by
  rw [evE]
  refine congrArg (R.bind _) (?_ : _ = _)
  funext x S1
  unfold chk
  split <;> rfl
def tgO (kvs : List (Str × D)) (d : D) (S : Store) : R D := match d with
  | .str z => ofO (kvs.lookup z) S
  | _ => .bad
theorem tgO_s {kvs : List (Str × D)} {z : Str} : tgO kvs (.str z) S = ofO (kvs.lookup z) S := rfl
theorem q_tget {kvs : List (Str × D)} {e : IE} : evE c (.tget kvs e) env S = @bnd _ _ (evE c e env S) fun d S1 => tgO kvs d S1 := by rw [evE]; rfl
def callO (o : Option (Option D)) (tbl : List (Nat × List Src)) [f : Nat → List Src → R D] : R D := match o with
  | some (some (.gl k)) => match tbl.lookup k with
    | some src => f k src
    | none => .bad
  | _ => .bad
def luO (o : Option (List Src)) [f : List Src → R D] : R D := match o with
  | some src => f src
  | none => .bad
theorem luO_s {src : List Src} {f : List Src → R D} : @luO (some src) f = f src := rfl
theorem callO_s {k : Nat} {tbl : List (Nat × List Src)} {f : Nat → List Src → R D} : @callO (some (some (.gl k))) tbl f = @luO (tbl.lookup k) (f k) := by
  show (match tbl.lookup k with | some src => f k src | none => .bad) = _
  cases tbl.lookup k <;> rfl
theorem q_callL {i : Nat} {tbl : List (Nat × List Src)} {es : IEs} : evE c (.callL i tbl es) env S = @callO env[i]? tbl fun k src => @bnd _ _ (evEs c es env S) fun vs S1 => @srcO (getSrc vs src) fun ds => cutCall (c.call k) ds S1 := by
  rw [evE]; rfl
theorem q_es0 : evEs c .nil env S = .ok [] S := by rw [evEs]; try rfl
theorem q_es1 {e : IE} {r : IEs} : evEs c (.cons e r) env S = @bnd _ _ (evE c e env S) fun d S1 => @bnd _ _ (evEs c r env S1) fun ds S2 => .ok (d :: ds) S2 := by rw [evEs]; try rfl
theorem q_o0 : evO c .none env S = .ok none S := by rw [evO]; try rfl
theorem q_o1 {e : IE} : evO c (.some e) env S = @bnd _ _ (evE c e env S) fun d S1 => intO d S1 := by rw [evO]; rfl
theorem q_c0 : evC c .none env S = .ok true S := by rw [evC]; try rfl
theorem q_c1 {e : IE} : evC c (.some e) env S = @bnd _ _ (evE c e env S) fun d S1 => ofO (truth S1 d) S1 := by rw [evC]; try rfl
theorem q_seq {e : IE} : evI c (.seq e) env S = @bnd _ _ (evE c e env S) fun d S1 => isSt d S1 := by rw [evI]; try rfl
theorem q_rng {a b : IE} : evI c (.rng a b) env S = @bnd _ _ (evE c a env S) fun x S1 => @bnd _ _ (evE c b env S1) fun y S2 => rngO x y S2 := by rw [evI]; rfl
def revO (x y : D) (S : Store) : R It' := match x, y with
  | .int i, .int j => @chk _ (okR i j) fun _ => .ok (.st (downto i j)) S
  | _, _ => .bad
theorem revO_s {i j : Int} : revO (.int i) (.int j) S = @chk _ (okR i j) fun _ => .ok (.st (downto i j)) S := rfl
theorem q_rev {a b : IE} : evI c (.rev a b) env S = @bnd _ _ (evE c a env S) fun x S1 => @bnd _ _ (evE c b env S1) fun y S2 => revO x y S2 := by rw [evI]; rfl
def zipO (x y : D) (S : Store) : R It' := match itemsP x, itemsP y with
  | some xs, some ys => .ok (.st (zipD xs ys)) S
  | _, _ => .bad
theorem zipO_tt {xs ys : List D} : zipO (.tup xs) (.tup ys) S = .ok (.st (zipD xs ys)) S := rfl
theorem zipO_lt {xs ys : List D} : zipO (.lst xs) (.tup ys) S = .ok (.st (zipD xs ys)) S := rfl
theorem zipO_tl {xs ys : List D} : zipO (.tup xs) (.lst ys) S = .ok (.st (zipD xs ys)) S := rfl
theorem zipO_ll {xs ys : List D} : zipO (.lst xs) (.lst ys) S = .ok (.st (zipD xs ys)) S := rfl
theorem q_zip {a b : IE} : evI c (.zip a b) env S = @bnd _ _ (evE c a env S) fun x S1 => @bnd _ _ (evE c b env S1) fun y S2 => zipO x y S2 := by rw [evI]; rfl
def cmH (c : Cf) (own : List Nat) (tg : IG) (ifs : IO) (elt : IE) (env : Env') : D → Store → R (Option D) := fun d S2 => match bindG tg d (wipeE env own) with
      | none => .bad
      | some env2 => (evC c ifs env2 S2).bind fun b S3 => if b then (evE c elt env2 S3).bind fun y S4 => .ok (some y) S4 else .ok none S3
theorem q_comp {mu : Bool} {own : List Nat} {tg : IG} {it : II} {ifs : IO} {elt : IE} : evE c (.comp mu own tg it ifs elt) env S = @bnd _ _ (evI c it env S) fun J S1 => cmO mu (compI c.lf (cmH c own tg ifs elt env) J S1) := by
  rw [evE]
  refine congrArg (R.bind _) (?_ : _ = _)
  funext J S1
  show (match compI c.lf (cmH c own tg ifs elt env) J S1 with | .ok ds S5 => mkL mu ds S5 | .exc _ _ => .bad | .bad => .bad) = _
  cases compI c.lf (cmH c own tg ifs elt env) J S1 <;> rfl
/-- one step of a comprehension without condition -/
theorem cmH_1 {own : List Nat} {tg : IG} {elt : IE} {d : D} : cmH c own tg .none elt env d S = (match bindG tg d (wipeE env own) with
      | none => .bad
      | some env2 => (evE c elt env2 S).bind fun y S4 => .ok (some y) S4) := by
  unfold cmH
  cases bindG tg d (wipeE env own) <;> rfl
def cmN (o : Option Env') [f : Env' → R (Option D)] : R (Option D) := match o with
  | some e => f e
  | none => .bad
theorem cmN_s {e : Env'} {f : Env' → R (Option D)} : @cmN (some e) f = f e := rfl
theorem cmH_n {own : List Nat} {tg : IG} {elt : IE} {d : D} : cmH c own tg .none elt env d S = @cmN (bindG tg d (wipeE env own)) fun env2 => @bnd _ _ (evE c elt env2 S) fun y S4 => .ok (some y) S4 := by
  unfold cmH
  cases bindG tg d (wipeE env own) <;> rfl
theorem cmH_i {own : List Nat} {tg : IG} {f elt : IE} {d : D} : cmH c own tg (.some f) elt env d S = @cmN (bindG tg d (wipeE env own)) fun env2 => @bnd _ _ (evC c (.some f) env2 S) fun b S3 => @ifO _ (some b) (fun _ => (@bnd _ _ (evE c elt env2 S3) fun y S4 => .ok (some y) S4)) (fun _ => (.ok none S3)) .bad := by
  unfold cmH
  cases bindG tg d (wipeE env own) with
  | none => rfl
  | some e =>
    simp only [cmN]
    congr 1; funext b S3
    cases b <;> rfl
theorem cmp_st {lf : Nat} {h : D → Store → R (Option D)} {ds : List D} : compI lf h (.st ds) S = compL h ds [] S := rfl
theorem compL_0 {h : D → Store → R (Option D)} {acc : List D} : compL h [] acc S = .ok acc S := by rw [compL]; try rfl
theorem compL_1 {h : D → Store → R (Option D)} {d : D} {r acc : List D} : compL h (d :: r) acc S = @bnd _ _ (h d S) fun o S1 => @chk _ (decide (acc.length < sizeLine)) fun _ => (compL h r (appO acc o) S1) := by rw [compL]; rfl
theorem appO_s {a : List D} {d : D} : appO a (some d) = a ++ [d] := rfl
theorem appO_n {a : List D} : appO a none = a := rfl
theorem sml {n : Nat} (h : n ≤ 1000) : small n = true := small_le (by omega)
theorem szl {n : Nat} (h : n ≤ 1000) : n < sizeLine := by rw [sizeLine_eq]; omega
theorem szd {n : Nat} (h : n ≤ 1000) : decide (n < sizeLine) = true := decide_eq_true (szl h)
theorem zip0 {ys : List D} : zipD [] ys = [] := rfl
theorem zip0r {x : D} {xs : List D} : zipD (x :: xs) [] = [] := rfl
theorem zip1 {x y : D} {xs ys : List D} : zipD (x :: xs) (y :: ys) = .tup [x, y] :: zipD xs ys := rfl
theorem calms0 : D.calms [] = true := by rw [D.calms]
theorem calms1 {x : D} {xs : List D} : D.calms (x :: xs) = (x.calm && D.calms xs) := by rw [D.calms]
theorem calmT {xs : List D} : D.calm (.tup xs) = D.calms xs := by rw [D.calm]
theorem calmLs {xs : List D} : D.calm (.lst xs) = D.calms xs := by rw [D.calm]
/-- a cell that stays is walked as a list is -/
theorem forR_same {h : D → Env' → Store → SR} {l : Nat} {xs : List D} {S : Store} (hc : cel S l = some xs) (hh : ∀ d ∈ xs, ∀ e, ∃ e', h d e S = .nx e' S) : ∀ (n i : Nat) (e : Env'), xs.length < n + i → i ≤ xs.length → forR h l n i e S = forL h (xs.drop i) e S
  | 0, i, e, hn, hi => by omega
  | n + 1, i, e, hn, _ => by
    rw [forR, hc]
    simp only
    by_cases hi : i < xs.length
    · rw [List.getElem?_eq_getElem hi]
      obtain ⟨e', h1⟩ := hh xs[i] (List.getElem_mem hi) e
      rw [List.drop_eq_getElem_cons hi, forL, h1]
      simp only [h1]
      exact forR_same hc hh n (i + 1) e' (by omega) (by omega)
    · rw [List.getElem?_eq_none (by omega), List.drop_of_length_le (by omega), forL]
theorem compR_same {h : D → Store → R (Option D)} {l : Nat} {xs : List D} {S : Store} (hc : cel S l = some xs) (hh : ∀ d ∈ xs, ∃ o, h d S = .ok o S) : ∀ (n i : Nat) (acc : List D), xs.length < n + i → i ≤ xs.length → compR h l n i acc S = compL h (xs.drop i) acc S
  | 0, i, acc, hn, hi => by omega
  | n + 1, i, acc, hn, _ => by
    rw [compR, hc]
    simp only
    by_cases hi : i < xs.length
    · rw [List.getElem?_eq_getElem hi]
      obtain ⟨o, h1⟩ := hh xs[i] (List.getElem_mem hi)
      rw [List.drop_eq_getElem_cons hi, compL, h1]
      simp only [h1, r_bind_ok]
      rw [compR_same hc hh n (i + 1) (appO acc o) (by omega) (by omega)]
    · rw [List.getElem?_eq_none (by omega), List.drop_of_length_le (by omega), compL]
theorem gs0 {vs : List D} : getSrc vs [] = some [] := rfl
def gsO (o : Option D) (p : Option (List D)) : Option (List D) := match o, p with
  | some d, some ds => some (d :: ds)
  | _, _ => none
theorem gsO_s {d : D} {ds : List D} : gsO (some d) (some ds) = some (d :: ds) := rfl
theorem gs1 {vs : List D} {j : Nat} {r : List Src} : getSrc vs (.arg j :: r) = gsO vs[j]? (getSrc vs r) := rfl
theorem gs2 {vs : List D} {d : D} {r : List Src} : getSrc vs (.dfl d :: r) = (getSrc vs r).map (d :: ·) := rfl
theorem fin_tup {n : Nat} {ds : List D} (h : D.calms ds = true) : finR n (.rt (.tup ds) S) = .ok (.tup ds) (S.take n) := fin_rt h
theorem fin_non {n : Nat} : finR n (.rt .non S) = .ok .non (S.take n) := rfl
theorem tr_str {x : Str} (h : x.length ≤ sizeLine) : truth S (.str x) = some ((x.length : Int) != 0) := by simp [truth, h]
theorem mkL_t {ds : List D} (h : D.calms ds = true) : mkL true ds S = .ok (.ref S.length) (S ++ [ds]) := by simp [mkL, h]
theorem bo_ml {a : List D} {k : Int} (h0 : 0 ≤ k) (h1 : k ≤ 1000) (h2 : a.length ≤ 1000) : binop .Mult (.lst a) (.int k) S = some (.lst (List.replicate k.toNat a).flatten) := by simp [binop, h0, h1, h2]
theorem bo_al {a b : List D} (h : a.length + b.length ≤ 1000) : binop .Add (.lst a) (.lst b) S = some (.lst (a ++ b)) := by
  have := sml h
  simp [binop, itemsT, this]
theorem bo_at {a b : List D} (h : a.length + b.length ≤ 1000) : binop .Add (.tup a) (.tup b) S = some (.tup (a ++ b)) := by
  have := sml h
  simp [binop, this]
theorem q_dsp {ks : List D} {es : IEs} : evE c (.dsp ks es) env S = @bnd _ _ (evEs c es env S) fun ds S1 => @chk _ (D.calms ds) fun _ => (.ok (.ref S1.length) (S1 ++ [.mk false :: dmk ks ds []])) := by rw [evE]; rfl
theorem q_dct : evE c .dctE env S = .ok .dct S := by rw [evE]
theorem q_chkS {e : IE} : evE c (.chkS e) env S = @bnd _ _ (evE c e env S) fun d S1 => @chk _ (itemsP d).isSome fun _ => .ok d S1 := by rw [evE]; rfl
def splO (o : Option (List D)) (S : Store) : R D := match o with
  | some xs => @chk _ (small xs.length) fun _ => .ok (.tup xs) S
  | none => .bad
theorem splO_s {xs : List D} : splO (some xs) S = @chk _ (small xs.length) fun _ => .ok (.tup xs) S := rfl
theorem q_tupS {st : List Bool} {es : IEs} : evE c (.tupS st es) env S = @bnd _ _ (evEs c es env S) fun ds S1 => splO (splD st ds) S1 := by rw [evE]; rfl
theorem spl_0 : splD [] [] = some [] := by rw [splD]
theorem spl_f {bs : List Bool} {d : D} {ds : List D} : splD (false :: bs) (d :: ds) = (splD bs ds).map (d :: ·) := by rw [splD]
def splA (a r : Option (List D)) : Option (List D) := match a, r with
  | some a, some r => some (a ++ r)
  | _, _ => none
theorem splA_s {a r : List D} : splA (some a) (some r) = some (a ++ r) := rfl
theorem spl_t {bs : List Bool} {d : D} {ds : List D} : splD (true :: bs) (d :: ds) = splA (itemsP d) (splD bs ds) := by rw [splD]; rfl
def lrgO (mu : Bool) (x : D) (S : Store) : R D := match x with
  | .int n => @chk _ (decide (0 ≤ n) && decide (n < 1000000)) fun _ => mkL mu (upto 0 n) S
  | _ => .bad
theorem lrgO_s {mu : Bool} {n : Int} : lrgO mu (.int n) S = @chk _ (decide (0 ≤ n) && decide (n < 1000000)) fun _ => mkL mu (upto 0 n) S := rfl
theorem q_lrg {mu : Bool} {a : IE} : evE c (.lrg mu a) env S = @bnd _ _ (evE c a env S) fun x S1 => lrgO mu x S1 := by rw [evE]; rfl
def enO (x : D) (S : Store) : R It' := match itemsP x with
  | some xs => .ok (.st (enumD 0 xs)) S
  | none => .bad
theorem enO_t {xs : List D} : enO (.tup xs) S = .ok (.st (enumD 0 xs)) S := rfl
theorem enO_l {xs : List D} : enO (.lst xs) S = .ok (.st (enumD 0 xs)) S := rfl
theorem q_enum {a : IE} : evI c (.enum a) env S = @bnd _ _ (evE c a env S) fun x S1 => enO x S1 := by rw [evI]; rfl
def ofI (o : Option Int) [f : Int → R D] : R D := match o with
  | some k => f k
  | none => .bad
theorem ofI_s {k : Int} {f : Int → R D} : @ofI (some k) f = f k := rfl
theorem q_sl3 {a : IE} {lo hi st : IO} : evE c (.sl3 a lo hi st) env S = @bnd _ _ (evE c a env S) fun x S1 => @bnd _ _ (evO c lo env S1) fun l S2 => @bnd _ _ (evO c hi env S2) fun h S3 => @bnd _ _ (evO c st env S3) fun d S4 => @ofI d fun k => ofO (sl3D S4 x l h k) S4 := by
  rw [evE]; rfl
def dcH (c : Cf) (own : List Nat) (tg : IG) (ifs : IO) (ke ve : IE) (env : Env') : D → Store → R (Option D) := fun d S2 => match bindG tg d (wipeE env own) with
      | none => .bad
      | some env2 => (evC c ifs env2 S2).bind fun b S3 => if b then (evE c ke env2 S3).bind fun k S4 => (evE c ve env2 S4).bind fun v S5 => if (kNest k || kFlat k) && v.calm then .ok (some (.tup [k, v])) S5 else .bad else .ok none S3
def dcO (r : R (List D)) : R D := match r with
  | .ok ps S5 => if dcOk ps then .ok (.ref S5.length) (S5 ++ [.mk (dcT ps) :: dOf ps []]) else .bad
  | .exc _ _ => .bad
  | .bad => .bad
theorem q_dcT {own : List Nat} {tg : IG} {it : II} {ifs : IO} {ke ve : IE} : evE c (.dcT own tg it ifs ke ve) env S = @bnd _ _ (evI c it env S) fun J S1 => dcO (compI c.lf (dcH c own tg ifs ke ve env) J S1) := by
  rw [evE]
  refine congrArg (R.bind _) (?_ : _ = _)
  funext J S1
  show (match compI c.lf (dcH c own tg ifs ke ve env) J S1 with | .ok ps S5 => (if dcOk ps then (.ok (.ref S5.length) (S5 ++ [D.mk (dcT ps) :: dOf ps []]) : R D) else .bad) | .exc _ _ => .bad | .bad => .bad) = _
  cases compI c.lf (dcH c own tg ifs ke ve env) J S1 <;> rfl
def dcN (o : Option Env') [f : Env' → R (Option D)] : R (Option D) := match o with
  | some e => f e
  | none => .bad
theorem dcH_n {own : List Nat} {tg : IG} {ke ve : IE} {d : D} : dcH c own tg .none ke ve env d S = @cmN (bindG tg d (wipeE env own)) fun env2 => @bnd _ _ (evE c ke env2 S) fun k S4 => @bnd _ _ (evE c ve env2 S4) fun v S5 => @chk _ ((kNest k || kFlat k) && v.calm) fun _ => .ok (some (.tup [k, v])) S5 := by
  unfold dcH
  cases bindG tg d (wipeE env own) <;> rfl
/-- two ways come together -/
theorem W_join {n : Nat} {b : Bool} {x y : Unit → SR} {z : SR} {f : Env' → Store → SR} {Q : D → Store → Prop} (P : SR → Prop) (h1 : b = true → P (x ())) (h2 : b = false → P (y ())) (H : ∀ r, P r → W (finR n (@thb r f)) Q) :
    W (finR n (@thb (@ifO SR (some b) x y z) f)) Q := by
  cases b
  · exact H _ (h2 rfl)
  · exact H _ (h1 rfl)
end
end Ev
namespace Lw1
open PySem PySem.Spec PyProof.Rows L2 Ev
def d0 : Df := ⟨"is_whole", 10, ["thing"], ["thing"], [], [(1, [], slSrc [] [.a 0])]⟩
def d1 : Df := ⟨"are_whole", 11, ["thing", "many", "part"], ["thing", "many"], [], [(2, [], slSrc [] [.a 0, .a 1])]⟩
def d2 : Df := ⟨"shared_part", 12, ["one", "other"], ["one", "other"], [], [(2, [], slSrc [] [.a 0, .a 1])]⟩
def d3 : Df := ⟨"part_of_all", 13, ["row", "found", "number"], ["row"], [], [(1, [], slSrc [] [.a 0])]⟩
def d4 : Df := ⟨"lowest_row", 14, ["row", "part", "number"], ["row"], [], [(1, [], slSrc [] [.a 0])]⟩
def d5 : Df := ⟨"is_lowest", 15, ["thing", "many"], ["thing", "many"], [], [(2, [], slSrc [] [.a 0, .a 1])]⟩
def d6 : Df := ⟨"dot", 17, ["one", "other"], ["one", "other"], [], [(2, [], slSrc [] [.a 0, .a 1])]⟩
def d7 : Df := ⟨"leader", 20, ["row", "number"], ["row"], [], [(1, [], slSrc [] [.a 0])]⟩
def d8 : Df := ⟨"is_turn", 21, ["thing"], ["thing"], [], [(1, [], slSrc [] [.a 0])]⟩
def d9 : Df := ⟨"need_turn", 22, ["thing"], ["thing"], [], [(1, [], slSrc [] [.a 0])]⟩
def d10 : Df := ⟨"turn_in", 23, ["row", "found", "number"], ["row"], [], [(1, [], slSrc [] [.a 0])]⟩
def d11 : Df := ⟨"stretch_of", 24, ["turn", "number"], ["turn"], [], [(1, [], slSrc [] [.a 0])]⟩
def d12 : Df := ⟨"rows_of", 25, ["turn", "a", "b", "c", "d", "first", "second"], ["turn"], [], [(1, [], slSrc [] [.a 0])]⟩
def d13 : Df := ⟨"turned_in", 26, ["turn", "mark", "found", "row", "number"], ["turn", "mark"], [], [(2, [], slSrc [] [.a 0, .a 1])]⟩
def d14 : Df := ⟨"turn_then", 27, ["one", "other", "a", "b", "c", "d", "e", "f", "g", "h", "first", "second", "third"], ["one", "other"], [], [(2, [], slSrc [] [.a 0, .a 1])]⟩
def d15 : Df := ⟨"order_in", 35, ["turn", "quarter", "rest"], ["turn"], [], [(1, [], slSrc [] [.a 0])]⟩
def d16 : Df := ⟨"done_in", 36, ["turns", "row", "found", "index"], ["turns", "row"], [], [(2, [], slSrc [] [.a 0, .a 1])]⟩
def d17 : Df := ⟨"grown_in", 37, ["turns", "found", "waiting", "at", "here", "index", "turn", "later"], ["turns"], [], [(1, [], slSrc [] [.a 0])]⟩
def d18 : Df := ⟨"group_in", 38, ["turns", "found", "row"], ["turns"], [], [(1, [], slSrc [] [.a 0])]⟩
def d19 : Df := ⟨"axis_in", 39, ["turn"], ["turn"], [], [(1, [], slSrc [] [.a 0])]⟩
def d20 : Df := ⟨"opposite_of", 40, ["mark", "number"], ["mark"], [], [(1, [], slSrc [] [.a 0])]⟩
def d21 : Df := ⟨"poles_in", 41, ["group", "found", "turn", "mark"], ["group"], [], [(1, [], slSrc [] [.a 0])]⟩
def d22 : Df := ⟨"kind_in", 42, ["group", "many", "orders", "turn"], ["group"], [], [(1, [], slSrc [] [.a 0])]⟩
def d23 : Df := ⟨"need_turns", 43, ["turns", "turn"], ["turns"], [], [(1, [], slSrc [] [.a 0])]⟩
def d24 : Df := ⟨"are_indexes", 44, ["turns", "value", "index"], ["turns", "value"], [], [(2, [], slSrc [] [.a 0, .a 1])]⟩
def d25 : Df := ⟨"need_finite", 45, ["turns", "group"], ["turns"], [], [(1, [], slSrc [] [.a 0])]⟩
def d26 : Df := ⟨"order_of", 46, ["turn"], ["turn"], [], [(1, [], slSrc [] [.a 0])]⟩
def d27 : Df := ⟨"axis_of", 47, ["turn"], ["turn"], [], [(1, [], slSrc [] [.a 0])]⟩
def d28 : Df := ⟨"done", 48, ["turns", "row"], ["turns", "row"], [], [(2, [], slSrc [] [.a 0, .a 1])]⟩
def d29 : Df := ⟨"group_paper", 49, ["turns", "found", "row"], ["turns"], [], [(1, [], slSrc [] [.a 0])]⟩
def d30 : Df := ⟨"is_group_paper", 50, ["turns", "value", "turn"], ["turns", "value"], [], [(2, [], slSrc [] [.a 0, .a 1])]⟩
def d31 : Df := ⟨"is_finite", 51, ["turns"], ["turns"], [], [(1, [], slSrc [] [.a 0])]⟩
def d32 : Df := ⟨"group_of", 52, ["turns"], ["turns"], [], [(1, [], slSrc [] [.a 0])]⟩
def d33 : Df := ⟨"kind_of", 53, ["turns"], ["turns"], [], [(1, [], slSrc [] [.a 0])]⟩
def d34 : Df := ⟨"is_group", 54, ["value", "turn", "one", "other"], ["value"], [], [(1, [], slSrc [] [.a 0])]⟩
def d35 : Df := ⟨"poles", 55, ["turns"], ["turns"], [], [(1, [], slSrc [] [.a 0])]⟩
def d36 : Df := ⟨"pole_classes", 56, ["turns", "group", "counts", "found", "met", "mark", "lot", "turn"], ["turns"], [], [(1, [], slSrc [] [.a 0])]⟩
def d37 : Df := ⟨"are_alike_groups", 57, ["turns", "other", "one", "two"], ["turns", "other"], [], [(2, [], slSrc [] [.a 0, .a 1])]⟩
def d38 : Df := ⟨"_law_bag", 59, ["script", "spot", "cell", "great", "mixed"], ["script", "spot"], [], [(2, [], slSrc [] [.a 0, .a 1])]⟩
def d39 : Df := ⟨"_law_pull", 60, ["bag", "total", "found", "one", "two"], ["bag", "total"], [], [(2, [], slSrc [] [.a 0, .a 1])]⟩
def d40 : Df := ⟨"_law_choose", 61, ["bag", "items"], ["bag", "items"], [], [(2, [], slSrc [] [.a 0, .a 1])]⟩
def d41 : Df := ⟨"_law_met", 62, ["call", "error"], ["call"], [], [(1, [], slSrc [] [.a 0])]⟩
def d42 : Df := ⟨"_law_right", 63, ["bag", "odd", "none", "endless", "row", "good", "told", "due", "call", "value"], ["bag"], [], [(1, [], slSrc [] [.a 0])]⟩
def d43 : Df := ⟨"law", 64, ["script", "spot", "bag"], ["script"], [], [(1, [], slSrc [] [.a 0])]⟩
def ds_0 : List Df := [d0, d1, d2, d3, d4, d5, d6, d7, d8, d9, d10, d11, d12, d13, d14, d15, d16, d17, d18, d19, d20, d21, d22, d23, d24, d25, d26, d27, d28, d29]
def ds_1 : List Df := [d30, d31, d32, d33, d34, d35, d36, d37, d38, d39, d40, d41, d42, d43]
def ds : List Df := ds_0 ++ (ds_1)
def cl : List PySem.Str := ["LeafError", "NoPlace", "NoMark", "NoTurn", "NoLand", "NoNumber", "NoRow", "TooMany"]
def exmL : List (PySem.Str × PySem.Str × Bool) := [("LeafError", "NoRow", false), ("LeafError", "NoMark", false), ("LeafError", "NoPlace", false), ("LeafError", "NoTurn", false), ("LeafError", "NoLand", false), ("NoPlace", "NoRow", false), ("NoPlace", "NoMark", false), ("NoPlace", "NoPlace", true), ("NoPlace", "NoTurn", false), ("NoPlace", "NoLand", false), ("NoMark", "NoRow", false), ("NoMark", "NoMark", true), ("NoMark", "NoPlace", false), ("NoMark", "NoTurn", false), ("NoMark", "NoLand", false), ("NoTurn", "NoRow", false), ("NoTurn", "NoMark", false), ("NoTurn", "NoPlace", false), ("NoTurn", "NoTurn", true), ("NoTurn", "NoLand", false), ("NoLand", "NoRow", false), ("NoLand", "NoMark", false), ("NoLand", "NoPlace", false), ("NoLand", "NoTurn", false), ("NoLand", "NoLand", true), ("NoRow", "NoRow", true), ("NoRow", "NoMark", false), ("NoRow", "NoPlace", false), ("NoRow", "NoTurn", false), ("NoRow", "NoLand", false)]
def kitL : List (PySem.Str × List ((PySem.Str ⊕ String) × Bool)) := []
def tbsL : List (PySem.Str × List (PySem.Str × D)) := []
def tbiL : List (PySem.Str × List (Int × Int)) := [("ORDERS", [(0, 2), (1, 3), (2, 4), (3, 6)])]
def cdsL : List (PySem.Str × D) := [("STILL", .tup [.int 1, .int 0, .int 0, .int 0]), ("FINITE", .str "finite"), ("ENDLESS", .str "endless")]
def L : Lw := ⟨PySem.Challenge.pw_leafwide_k27_errors_of_groups.main.body, ds, cl, [("MOST_TURNS", 6), ("MOST_DONE", 200), ("MOST_FINITE", 24)], ["len", "abs", "max", "min", "int", "sum", "all", "tuple", "list", "isinstance", "range", "zip", "enumerate", "bool", "str", "sorted", "divmod"], [(95, 39), (95, 26), (115, 12), (193, 43), (193, 47), (196, 18), (210, 11), (244, 53), (244, 57), (255, 10), (268, 14)], 200, ["LeafError", "NoPlace", "NoMark", "NoTurn", "NoLand", "NoRow"], exmL, ["_law_met"], ["_law_right"], cdsL, ["order_of", "axis_of", "group_paper", "is_finite", "group_of", "kind_of", "poles", "pole_classes"], kitL, tbsL, tbiL⟩
theorem scs : L.scs = true := by decide +kernel
theorem b0 : BdOk L d0 := fun K G f fd ho hc F => PatAll.mem (show PatAll (fun p => BindF K G fd d0.ps p.1 p.2.1 p.2.2) d0.pats from
  ⟨bindF_all F 1 [] [.a 0] (fun _ _ _ _ _ _ us ws h1 h2 => match us, ws, h1, h2 with | [_], [], _, _ => rfl),
  trivial⟩)
theorem b1 : BdOk L d1 := fun K G f fd ho hc F => PatAll.mem (show PatAll (fun p => BindF K G fd d1.ps p.1 p.2.1 p.2.2) d1.pats from
  ⟨bindF_all F 2 [] [.a 0, .a 1] (fun _ _ _ _ _ _ us ws h1 h2 => match us, ws, h1, h2 with | [_, _], [], _, _ => rfl),
  trivial⟩)
theorem b2 : BdOk L d2 := fun K G f fd ho hc F => PatAll.mem (show PatAll (fun p => BindF K G fd d2.ps p.1 p.2.1 p.2.2) d2.pats from
  ⟨bindF_all F 2 [] [.a 0, .a 1] (fun _ _ _ _ _ _ us ws h1 h2 => match us, ws, h1, h2 with | [_, _], [], _, _ => rfl),
  trivial⟩)
theorem b3 : BdOk L d3 := fun K G f fd ho hc F => PatAll.mem (show PatAll (fun p => BindF K G fd d3.ps p.1 p.2.1 p.2.2) d3.pats from
  ⟨bindF_all F 1 [] [.a 0] (fun _ _ _ _ _ _ us ws h1 h2 => match us, ws, h1, h2 with | [_], [], _, _ => rfl),
  trivial⟩)
theorem b4 : BdOk L d4 := fun K G f fd ho hc F => PatAll.mem (show PatAll (fun p => BindF K G fd d4.ps p.1 p.2.1 p.2.2) d4.pats from
  ⟨bindF_all F 1 [] [.a 0] (fun _ _ _ _ _ _ us ws h1 h2 => match us, ws, h1, h2 with | [_], [], _, _ => rfl),
  trivial⟩)
theorem b5 : BdOk L d5 := fun K G f fd ho hc F => PatAll.mem (show PatAll (fun p => BindF K G fd d5.ps p.1 p.2.1 p.2.2) d5.pats from
  ⟨bindF_all F 2 [] [.a 0, .a 1] (fun _ _ _ _ _ _ us ws h1 h2 => match us, ws, h1, h2 with | [_, _], [], _, _ => rfl),
  trivial⟩)
theorem b6 : BdOk L d6 := fun K G f fd ho hc F => PatAll.mem (show PatAll (fun p => BindF K G fd d6.ps p.1 p.2.1 p.2.2) d6.pats from
  ⟨bindF_all F 2 [] [.a 0, .a 1] (fun _ _ _ _ _ _ us ws h1 h2 => match us, ws, h1, h2 with | [_, _], [], _, _ => rfl),
  trivial⟩)
theorem b7 : BdOk L d7 := fun K G f fd ho hc F => PatAll.mem (show PatAll (fun p => BindF K G fd d7.ps p.1 p.2.1 p.2.2) d7.pats from
  ⟨bindF_all F 1 [] [.a 0] (fun _ _ _ _ _ _ us ws h1 h2 => match us, ws, h1, h2 with | [_], [], _, _ => rfl),
  trivial⟩)
theorem b8 : BdOk L d8 := fun K G f fd ho hc F => PatAll.mem (show PatAll (fun p => BindF K G fd d8.ps p.1 p.2.1 p.2.2) d8.pats from
  ⟨bindF_all F 1 [] [.a 0] (fun _ _ _ _ _ _ us ws h1 h2 => match us, ws, h1, h2 with | [_], [], _, _ => rfl),
  trivial⟩)
theorem b9 : BdOk L d9 := fun K G f fd ho hc F => PatAll.mem (show PatAll (fun p => BindF K G fd d9.ps p.1 p.2.1 p.2.2) d9.pats from
  ⟨bindF_all F 1 [] [.a 0] (fun _ _ _ _ _ _ us ws h1 h2 => match us, ws, h1, h2 with | [_], [], _, _ => rfl),
  trivial⟩)
theorem b10 : BdOk L d10 := fun K G f fd ho hc F => PatAll.mem (show PatAll (fun p => BindF K G fd d10.ps p.1 p.2.1 p.2.2) d10.pats from
  ⟨bindF_all F 1 [] [.a 0] (fun _ _ _ _ _ _ us ws h1 h2 => match us, ws, h1, h2 with | [_], [], _, _ => rfl),
  trivial⟩)
theorem b11 : BdOk L d11 := fun K G f fd ho hc F => PatAll.mem (show PatAll (fun p => BindF K G fd d11.ps p.1 p.2.1 p.2.2) d11.pats from
  ⟨bindF_all F 1 [] [.a 0] (fun _ _ _ _ _ _ us ws h1 h2 => match us, ws, h1, h2 with | [_], [], _, _ => rfl),
  trivial⟩)
theorem b12 : BdOk L d12 := fun K G f fd ho hc F => PatAll.mem (show PatAll (fun p => BindF K G fd d12.ps p.1 p.2.1 p.2.2) d12.pats from
  ⟨bindF_all F 1 [] [.a 0] (fun _ _ _ _ _ _ us ws h1 h2 => match us, ws, h1, h2 with | [_], [], _, _ => rfl),
  trivial⟩)
theorem b13 : BdOk L d13 := fun K G f fd ho hc F => PatAll.mem (show PatAll (fun p => BindF K G fd d13.ps p.1 p.2.1 p.2.2) d13.pats from
  ⟨bindF_all F 2 [] [.a 0, .a 1] (fun _ _ _ _ _ _ us ws h1 h2 => match us, ws, h1, h2 with | [_, _], [], _, _ => rfl),
  trivial⟩)
theorem b14 : BdOk L d14 := fun K G f fd ho hc F => PatAll.mem (show PatAll (fun p => BindF K G fd d14.ps p.1 p.2.1 p.2.2) d14.pats from
  ⟨bindF_all F 2 [] [.a 0, .a 1] (fun _ _ _ _ _ _ us ws h1 h2 => match us, ws, h1, h2 with | [_, _], [], _, _ => rfl),
  trivial⟩)
theorem b15 : BdOk L d15 := fun K G f fd ho hc F => PatAll.mem (show PatAll (fun p => BindF K G fd d15.ps p.1 p.2.1 p.2.2) d15.pats from
  ⟨bindF_all F 1 [] [.a 0] (fun _ _ _ _ _ _ us ws h1 h2 => match us, ws, h1, h2 with | [_], [], _, _ => rfl),
  trivial⟩)
theorem b16 : BdOk L d16 := fun K G f fd ho hc F => PatAll.mem (show PatAll (fun p => BindF K G fd d16.ps p.1 p.2.1 p.2.2) d16.pats from
  ⟨bindF_all F 2 [] [.a 0, .a 1] (fun _ _ _ _ _ _ us ws h1 h2 => match us, ws, h1, h2 with | [_, _], [], _, _ => rfl),
  trivial⟩)
theorem b17 : BdOk L d17 := fun K G f fd ho hc F => PatAll.mem (show PatAll (fun p => BindF K G fd d17.ps p.1 p.2.1 p.2.2) d17.pats from
  ⟨bindF_all F 1 [] [.a 0] (fun _ _ _ _ _ _ us ws h1 h2 => match us, ws, h1, h2 with | [_], [], _, _ => rfl),
  trivial⟩)
theorem b18 : BdOk L d18 := fun K G f fd ho hc F => PatAll.mem (show PatAll (fun p => BindF K G fd d18.ps p.1 p.2.1 p.2.2) d18.pats from
  ⟨bindF_all F 1 [] [.a 0] (fun _ _ _ _ _ _ us ws h1 h2 => match us, ws, h1, h2 with | [_], [], _, _ => rfl),
  trivial⟩)
theorem b19 : BdOk L d19 := fun K G f fd ho hc F => PatAll.mem (show PatAll (fun p => BindF K G fd d19.ps p.1 p.2.1 p.2.2) d19.pats from
  ⟨bindF_all F 1 [] [.a 0] (fun _ _ _ _ _ _ us ws h1 h2 => match us, ws, h1, h2 with | [_], [], _, _ => rfl),
  trivial⟩)
theorem b20 : BdOk L d20 := fun K G f fd ho hc F => PatAll.mem (show PatAll (fun p => BindF K G fd d20.ps p.1 p.2.1 p.2.2) d20.pats from
  ⟨bindF_all F 1 [] [.a 0] (fun _ _ _ _ _ _ us ws h1 h2 => match us, ws, h1, h2 with | [_], [], _, _ => rfl),
  trivial⟩)
theorem b21 : BdOk L d21 := fun K G f fd ho hc F => PatAll.mem (show PatAll (fun p => BindF K G fd d21.ps p.1 p.2.1 p.2.2) d21.pats from
  ⟨bindF_all F 1 [] [.a 0] (fun _ _ _ _ _ _ us ws h1 h2 => match us, ws, h1, h2 with | [_], [], _, _ => rfl),
  trivial⟩)
theorem b22 : BdOk L d22 := fun K G f fd ho hc F => PatAll.mem (show PatAll (fun p => BindF K G fd d22.ps p.1 p.2.1 p.2.2) d22.pats from
  ⟨bindF_all F 1 [] [.a 0] (fun _ _ _ _ _ _ us ws h1 h2 => match us, ws, h1, h2 with | [_], [], _, _ => rfl),
  trivial⟩)
theorem b23 : BdOk L d23 := fun K G f fd ho hc F => PatAll.mem (show PatAll (fun p => BindF K G fd d23.ps p.1 p.2.1 p.2.2) d23.pats from
  ⟨bindF_all F 1 [] [.a 0] (fun _ _ _ _ _ _ us ws h1 h2 => match us, ws, h1, h2 with | [_], [], _, _ => rfl),
  trivial⟩)
theorem b24 : BdOk L d24 := fun K G f fd ho hc F => PatAll.mem (show PatAll (fun p => BindF K G fd d24.ps p.1 p.2.1 p.2.2) d24.pats from
  ⟨bindF_all F 2 [] [.a 0, .a 1] (fun _ _ _ _ _ _ us ws h1 h2 => match us, ws, h1, h2 with | [_, _], [], _, _ => rfl),
  trivial⟩)
theorem b25 : BdOk L d25 := fun K G f fd ho hc F => PatAll.mem (show PatAll (fun p => BindF K G fd d25.ps p.1 p.2.1 p.2.2) d25.pats from
  ⟨bindF_all F 1 [] [.a 0] (fun _ _ _ _ _ _ us ws h1 h2 => match us, ws, h1, h2 with | [_], [], _, _ => rfl),
  trivial⟩)
theorem b26 : BdOk L d26 := fun K G f fd ho hc F => PatAll.mem (show PatAll (fun p => BindF K G fd d26.ps p.1 p.2.1 p.2.2) d26.pats from
  ⟨bindF_all F 1 [] [.a 0] (fun _ _ _ _ _ _ us ws h1 h2 => match us, ws, h1, h2 with | [_], [], _, _ => rfl),
  trivial⟩)
theorem b27 : BdOk L d27 := fun K G f fd ho hc F => PatAll.mem (show PatAll (fun p => BindF K G fd d27.ps p.1 p.2.1 p.2.2) d27.pats from
  ⟨bindF_all F 1 [] [.a 0] (fun _ _ _ _ _ _ us ws h1 h2 => match us, ws, h1, h2 with | [_], [], _, _ => rfl),
  trivial⟩)
theorem b28 : BdOk L d28 := fun K G f fd ho hc F => PatAll.mem (show PatAll (fun p => BindF K G fd d28.ps p.1 p.2.1 p.2.2) d28.pats from
  ⟨bindF_all F 2 [] [.a 0, .a 1] (fun _ _ _ _ _ _ us ws h1 h2 => match us, ws, h1, h2 with | [_, _], [], _, _ => rfl),
  trivial⟩)
theorem b29 : BdOk L d29 := fun K G f fd ho hc F => PatAll.mem (show PatAll (fun p => BindF K G fd d29.ps p.1 p.2.1 p.2.2) d29.pats from
  ⟨bindF_all F 1 [] [.a 0] (fun _ _ _ _ _ _ us ws h1 h2 => match us, ws, h1, h2 with | [_], [], _, _ => rfl),
  trivial⟩)
theorem b30 : BdOk L d30 := fun K G f fd ho hc F => PatAll.mem (show PatAll (fun p => BindF K G fd d30.ps p.1 p.2.1 p.2.2) d30.pats from
  ⟨bindF_all F 2 [] [.a 0, .a 1] (fun _ _ _ _ _ _ us ws h1 h2 => match us, ws, h1, h2 with | [_, _], [], _, _ => rfl),
  trivial⟩)
theorem b31 : BdOk L d31 := fun K G f fd ho hc F => PatAll.mem (show PatAll (fun p => BindF K G fd d31.ps p.1 p.2.1 p.2.2) d31.pats from
  ⟨bindF_all F 1 [] [.a 0] (fun _ _ _ _ _ _ us ws h1 h2 => match us, ws, h1, h2 with | [_], [], _, _ => rfl),
  trivial⟩)
theorem b32 : BdOk L d32 := fun K G f fd ho hc F => PatAll.mem (show PatAll (fun p => BindF K G fd d32.ps p.1 p.2.1 p.2.2) d32.pats from
  ⟨bindF_all F 1 [] [.a 0] (fun _ _ _ _ _ _ us ws h1 h2 => match us, ws, h1, h2 with | [_], [], _, _ => rfl),
  trivial⟩)
theorem b33 : BdOk L d33 := fun K G f fd ho hc F => PatAll.mem (show PatAll (fun p => BindF K G fd d33.ps p.1 p.2.1 p.2.2) d33.pats from
  ⟨bindF_all F 1 [] [.a 0] (fun _ _ _ _ _ _ us ws h1 h2 => match us, ws, h1, h2 with | [_], [], _, _ => rfl),
  trivial⟩)
theorem b34 : BdOk L d34 := fun K G f fd ho hc F => PatAll.mem (show PatAll (fun p => BindF K G fd d34.ps p.1 p.2.1 p.2.2) d34.pats from
  ⟨bindF_all F 1 [] [.a 0] (fun _ _ _ _ _ _ us ws h1 h2 => match us, ws, h1, h2 with | [_], [], _, _ => rfl),
  trivial⟩)
theorem b35 : BdOk L d35 := fun K G f fd ho hc F => PatAll.mem (show PatAll (fun p => BindF K G fd d35.ps p.1 p.2.1 p.2.2) d35.pats from
  ⟨bindF_all F 1 [] [.a 0] (fun _ _ _ _ _ _ us ws h1 h2 => match us, ws, h1, h2 with | [_], [], _, _ => rfl),
  trivial⟩)
theorem b36 : BdOk L d36 := fun K G f fd ho hc F => PatAll.mem (show PatAll (fun p => BindF K G fd d36.ps p.1 p.2.1 p.2.2) d36.pats from
  ⟨bindF_all F 1 [] [.a 0] (fun _ _ _ _ _ _ us ws h1 h2 => match us, ws, h1, h2 with | [_], [], _, _ => rfl),
  trivial⟩)
theorem b37 : BdOk L d37 := fun K G f fd ho hc F => PatAll.mem (show PatAll (fun p => BindF K G fd d37.ps p.1 p.2.1 p.2.2) d37.pats from
  ⟨bindF_all F 2 [] [.a 0, .a 1] (fun _ _ _ _ _ _ us ws h1 h2 => match us, ws, h1, h2 with | [_, _], [], _, _ => rfl),
  trivial⟩)
theorem b38 : BdOk L d38 := fun K G f fd ho hc F => PatAll.mem (show PatAll (fun p => BindF K G fd d38.ps p.1 p.2.1 p.2.2) d38.pats from
  ⟨bindF_all F 2 [] [.a 0, .a 1] (fun _ _ _ _ _ _ us ws h1 h2 => match us, ws, h1, h2 with | [_, _], [], _, _ => rfl),
  trivial⟩)
theorem b39 : BdOk L d39 := fun K G f fd ho hc F => PatAll.mem (show PatAll (fun p => BindF K G fd d39.ps p.1 p.2.1 p.2.2) d39.pats from
  ⟨bindF_all F 2 [] [.a 0, .a 1] (fun _ _ _ _ _ _ us ws h1 h2 => match us, ws, h1, h2 with | [_, _], [], _, _ => rfl),
  trivial⟩)
theorem b40 : BdOk L d40 := fun K G f fd ho hc F => PatAll.mem (show PatAll (fun p => BindF K G fd d40.ps p.1 p.2.1 p.2.2) d40.pats from
  ⟨bindF_all F 2 [] [.a 0, .a 1] (fun _ _ _ _ _ _ us ws h1 h2 => match us, ws, h1, h2 with | [_, _], [], _, _ => rfl),
  trivial⟩)
theorem b41 : BdOk L d41 := fun K G f fd ho hc F => PatAll.mem (show PatAll (fun p => BindF K G fd d41.ps p.1 p.2.1 p.2.2) d41.pats from
  ⟨bindF_all F 1 [] [.a 0] (fun _ _ _ _ _ _ us ws h1 h2 => match us, ws, h1, h2 with | [_], [], _, _ => rfl),
  trivial⟩)
theorem b42 : BdOk L d42 := fun K G f fd ho hc F => PatAll.mem (show PatAll (fun p => BindF K G fd d42.ps p.1 p.2.1 p.2.2) d42.pats from
  ⟨bindF_all F 1 [] [.a 0] (fun _ _ _ _ _ _ us ws h1 h2 => match us, ws, h1, h2 with | [_], [], _, _ => rfl),
  trivial⟩)
theorem b43 : BdOk L d43 := fun K G f fd ho hc F => PatAll.mem (show PatAll (fun p => BindF K G fd d43.ps p.1 p.2.1 p.2.2) d43.pats from
  ⟨bindF_all F 1 [] [.a 0] (fun _ _ _ _ _ _ us ws h1 h2 => match us, ws, h1, h2 with | [_], [], _, _ => rfl),
  trivial⟩)
theorem bs : DfAll (BdOk L) L.ds := ⟨b0, b1, b2, b3, b4, b5, b6, b7, b8, b9, b10, b11, b12, b13, b14, b15, b16, b17, b18, b19, b20, b21, b22, b23, b24, b25, b26, b27, b28, b29, b30, b31, b32, b33, b34, b35, b36, b37, b38, b39, b40, b41, b42, b43, trivial⟩
theorem g0 : GdOk L d0 := fun h a ha => absurd h (by decide +kernel)
theorem g1 : GdOk L d1 := fun h a ha => absurd h (by decide +kernel)
theorem g2 : GdOk L d2 := fun h a ha => absurd h (by decide +kernel)
theorem g3 : GdOk L d3 := fun h a ha => absurd h (by decide +kernel)
theorem g4 : GdOk L d4 := fun h a ha => absurd h (by decide +kernel)
theorem g5 : GdOk L d5 := fun h a ha => absurd h (by decide +kernel)
theorem g6 : GdOk L d6 := fun h a ha => absurd h (by decide +kernel)
theorem g7 : GdOk L d7 := fun h a ha => absurd h (by decide +kernel)
theorem g8 : GdOk L d8 := fun h a ha => absurd h (by decide +kernel)
theorem g9 : GdOk L d9 := fun h a ha => absurd h (by decide +kernel)
theorem g10 : GdOk L d10 := fun h a ha => absurd h (by decide +kernel)
theorem g11 : GdOk L d11 := fun h a ha => absurd h (by decide +kernel)
theorem g12 : GdOk L d12 := fun h a ha => absurd h (by decide +kernel)
theorem g13 : GdOk L d13 := fun h a ha => absurd h (by decide +kernel)
theorem g14 : GdOk L d14 := fun h a ha => absurd h (by decide +kernel)
theorem g15 : GdOk L d15 := fun h a ha => absurd h (by decide +kernel)
theorem g16 : GdOk L d16 := fun h a ha => absurd h (by decide +kernel)
theorem g17 : GdOk L d17 := fun h a ha => absurd h (by decide +kernel)
theorem g18 : GdOk L d18 := fun h a ha => absurd h (by decide +kernel)
theorem g19 : GdOk L d19 := fun h a ha => absurd h (by decide +kernel)
theorem g20 : GdOk L d20 := fun h a ha => absurd h (by decide +kernel)
theorem g21 : GdOk L d21 := fun h a ha => absurd h (by decide +kernel)
theorem g22 : GdOk L d22 := fun h a ha => absurd h (by decide +kernel)
theorem g23 : GdOk L d23 := fun h a ha => absurd h (by decide +kernel)
theorem g24 : GdOk L d24 := fun h a ha => absurd h (by decide +kernel)
theorem g25 : GdOk L d25 := fun h a ha => absurd h (by decide +kernel)
theorem g26 : GdOk L d26 := fun h a ha => absurd h (by decide +kernel)
theorem g27 : GdOk L d27 := fun h a ha => absurd h (by decide +kernel)
theorem g28 : GdOk L d28 := fun h a ha => absurd h (by decide +kernel)
theorem g29 : GdOk L d29 := fun h a ha => absurd h (by decide +kernel)
theorem g30 : GdOk L d30 := fun h a ha => absurd h (by decide +kernel)
theorem g31 : GdOk L d31 := fun h a ha => absurd h (by decide +kernel)
theorem g32 : GdOk L d32 := fun h a ha => absurd h (by decide +kernel)
theorem g33 : GdOk L d33 := fun h a ha => absurd h (by decide +kernel)
theorem g34 : GdOk L d34 := fun h a ha => absurd h (by decide +kernel)
theorem g35 : GdOk L d35 := fun h a ha => absurd h (by decide +kernel)
theorem g36 : GdOk L d36 := fun h a ha => absurd h (by decide +kernel)
theorem g37 : GdOk L d37 := fun h a ha => absurd h (by decide +kernel)
theorem g38 : GdOk L d38 := fun h a ha => absurd h (by decide +kernel)
theorem g39 : GdOk L d39 := fun h a ha => absurd h (by decide +kernel)
theorem g40 : GdOk L d40 := fun h a ha => absurd h (by decide +kernel)
theorem g41 : GdOk L d41 := fun h a ha => by cases ha; exact fun _ _ _ _ _ _ _ => rfl
theorem g42 : GdOk L d42 := fun h a ha => absurd h (by decide +kernel)
theorem g43 : GdOk L d43 := fun h a ha => absurd h (by decide +kernel)
theorem gs : DfAll (GdOk L) L.ds := ⟨g0, g1, g2, g3, g4, g5, g6, g7, g8, g9, g10, g11, g12, g13, g14, g15, g16, g17, g18, g19, g20, g21, g22, g23, g24, g25, g26, g27, g28, g29, g30, g31, g32, g33, g34, g35, g36, g37, g38, g39, g40, g41, g42, g43, trivial⟩
theorem lamOk : L.lamOk = true := by decide +kernel
/-! the head -/
abbrev R : PySem.W.OpenRow := PySem.W.OpenLaw.row PySem.Challenge.rw_leafwide_k27_errors_of_groups
abbrev hk : PySem.W.Hook := He.hookX 3 L.fa L.fn L.ts L.tf L.ex
def ob (s : PySem.W.SharedT) : He.AlX := He.obsX 3 L.fa L.fn L.ts L.tf L.ex (HandSHeadRun.getT s)
theorem ob_eq (s : PySem.W.SharedT) : ob s = hk.obs s.abs := He.obsX_eq (HandSHeadRun.getT_eq s)
def loose_0 : List PySem.Str := ["LeafError", "NoPlace", "NoMark", "NoTurn", "NoLand", "NoNumber", "NoRow", "TooMany", "is_whole", "are_whole", "shared_part", "part_of_all", "lowest_row", "is_lowest", "dot", "STILL", "leader", "is_turn", "need_turn", "turn_in", "stretch_of", "rows_of", "turned_in", "turn_then", "MOST_TURNS", "MOST_DONE", "MOST_FINITE", "FINITE", "ENDLESS", "ORDERS"]
def loose_1 : List PySem.Str := ["order_in", "done_in", "grown_in", "group_in", "axis_in", "opposite_of", "poles_in", "kind_in", "need_turns", "are_indexes", "need_finite", "order_of", "axis_of", "done", "group_paper", "is_group_paper", "is_finite", "group_of", "kind_of", "is_group", "poles", "pole_classes", "are_alike_groups", "_law_bag", "_law_pull", "_law_choose", "_law_met", "_law_right"]
def loose : List PySem.Str := loose_0 ++ (loose_1)
end Lw1
namespace Lw1
open PySem PySem.Spec PyProof.Rows L2 Ev
open PySem.W PySem.Calls HandSHeadRun
theorem run_a_true (w : World) : ∀ os : OsState, (topEnd R 10750 (wB w true) os).map (fun s => (looksF R.prog (boot_heap (wB w true).params) s.abs, seenQ (PySem.W.view R.prog [64]) loose (importedModules R.prog.main.body) (fun s => xlAt (PySem.W.view R.prog [64]) [] s && recOk R.toRowW.records s) s.abs)) = some (true, openGood (PySem.W.view R.prog [64]) loose) := by
  intro os
  kernel_rfl
theorem run_b_true (w : World) : ∀ os : OsState, (topEnd R 10750 (wB w true) os).map (fun s => ob s) = some (hk.val (wB w true)) := by
  intro os
  kernel_rfl
theorem run_true (w : World) : HandSHeadRun.RunEq R (PySem.W.view R.prog [64]) hk ob 10750 loose (wB w true) := run_two (run_a_true w) (run_b_true w)
theorem run_a_false (w : World) : ∀ os : OsState, (topEnd R 10750 (wB w false) os).map (fun s => (looksF R.prog (boot_heap (wB w false).params) s.abs, seenQ (PySem.W.view R.prog [64]) loose (importedModules R.prog.main.body) (fun s => xlAt (PySem.W.view R.prog [64]) [] s && recOk R.toRowW.records s) s.abs)) = some (true, openGood (PySem.W.view R.prog [64]) loose) := by
  intro os
  kernel_rfl
theorem run_b_false (w : World) : ∀ os : OsState, (topEnd R 10750 (wB w false) os).map (fun s => ob s) = some (hk.val (wB w false)) := by
  intro os
  kernel_rfl
theorem run_false (w : World) : HandSHeadRun.RunEq R (PySem.W.view R.prog [64]) hk ob 10750 loose (wB w false) := run_two (run_a_false w) (run_b_false w)
theorem run (w : World) : HandSHeadRun.RunEq R (PySem.W.view R.prog [64]) hk ob 10750 loose w := wB_all (P := fun w => HandSHeadRun.RunEq R (PySem.W.view R.prog [64]) hk ob 10750 loose w) (fun w b => match b with | true => run_true w | false => run_false w) w
end Lw1
namespace Lw1
open PySem PySem.Spec PyProof.Rows L2 Ev
def body0 : ISs := (.cons (.ret (.andE (.callB .isI (.cons (.var 0) (.cons (.cst (.ty "int")) .nil))) (.notE (.callB .isI (.cons (.var 0) (.cons (.cst (.ty "bool")) .nil)))))) .nil)
def body1 : ISs := (.cons (.ret (.andE (.callB .isI (.cons (.var 0) (.cons (.cst (.ty "tuple")) .nil))) (.andE (.cmp .Eq (.callB .len (.cons (.var 0) .nil)) (.var 1)) (.callB .all (.cons (.comp false [2] (.nm 2) (.seq (.var 0)) .none (.callF 0 [.arg 0] (.cons (.var 2) .nil))) .nil))))) .nil)
def body2 : ISs := (.cons (.par [0, 1] (.cons (.callB .abs (.cons (.var 0) .nil)) (.cons (.callB .abs (.cons (.var 1) .nil)) .nil))) (.cons (.whil (.cmp .NotEq (.var 1) (.cst (.int (0)))) (.cons (.par [0, 1] (.cons (.var 1) (.cons (.bin .Mod (.var 0) (.var 1)) .nil))) .nil)) (.cons (.ret (.var 0)) .nil)))
def body3 : ISs := (.cons (.asg (.nm 1) (.cst (.int (0)))) (.cons (.forS (.nm 2) (.seq (.var 0)) (.cons (.asg (.nm 1) (.callF 2 [.arg 0, .arg 1] (.cons (.var 1) (.cons (.var 2) .nil)))) .nil)) (.cons (.ret (.var 1)) .nil)))
def body4 : ISs := (.cons (.asg (.nm 1) (.callF 3 [.arg 0] (.cons (.var 0) .nil))) (.cons (.ret (.callB .tuple (.cons (.comp false [2] (.nm 2) (.seq (.var 0)) .none (.bin .FloorDiv (.var 2) (.var 1))) .nil))) .nil))
def body5 : ISs := (.cons (.ret (.andE (.callF 1 [.arg 0, .arg 1] (.cons (.var 0) (.cons (.var 1) .nil))) (.cmp .Eq (.callF 3 [.arg 0] (.cons (.var 0) .nil)) (.cst (.int (1)))))) .nil)
def body6 : ISs := (.cons (.ret (.bin .Add (.bin .Add (.bin .Mult (.ix (.var 0) (.cst (.int (0)))) (.ix (.var 1) (.cst (.int (0))))) (.bin .Mult (.ix (.var 0) (.cst (.int (1)))) (.ix (.var 1) (.cst (.int (1)))))) (.bin .Mult (.ix (.var 0) (.cst (.int (2)))) (.ix (.var 1) (.cst (.int (2))))))) .nil)
def body7 : ISs := (.cons (.ret (.ix (.comp false [1] (.nm 1) (.seq (.var 0)) (.some (.cmp .NotEq (.var 1) (.cst (.int (0))))) (.var 1)) (.cst (.int (0))))) .nil)
def body8 : ISs := (.cons (.ret (.andE (.callF 5 [.arg 0, .arg 1] (.cons (.var 0) (.cons (.cst (.int (4))) .nil))) (.cmp .Gt (.callF 7 [.arg 0] (.cons (.var 0) .nil)) (.cst (.int (0)))))) .nil)
def body9 : ISs := (.cons (.ifS (.notE (.callF 8 [.arg 0] (.cons (.var 0) .nil))) (.cons (.raise 47 .nil) .nil) .nil) .nil)
def body10 : ISs := (.cons (.asg (.nm 1) (.callF 4 [.arg 0] (.cons (.var 0) .nil))) (.cons (.ret (.ite (.cmp .Gt (.callF 7 [.arg 0] (.cons (.var 1) .nil)) (.cst (.int (0)))) (.var 1) (.callB .tuple (.cons (.comp false [2] (.nm 2) (.seq (.var 1)) .none (.neg (.var 2))) .nil)))) .nil))
def body11 : ISs := (.cons (.ret (.callB .sum (.cons (.comp false [1] (.nm 1) (.seq (.var 0)) .none (.bin .Mult (.var 1) (.var 1))) .nil))) .nil)
def body12 : ISs := (.cons (.asg (.tup (.cons (.nm 1) (.cons (.nm 2) (.cons (.nm 3) (.cons (.nm 4) .nil))))) (.var 0)) (.cons (.asg (.nm 5) (.tupE (.cons (.bin .Sub (.bin .Sub (.bin .Add (.bin .Mult (.var 1) (.var 1)) (.bin .Mult (.var 2) (.var 2))) (.bin .Mult (.var 3) (.var 3))) (.bin .Mult (.var 4) (.var 4))) (.cons (.bin .Mult (.cst (.int (2))) (.bin .Sub (.bin .Mult (.var 2) (.var 3)) (.bin .Mult (.var 1) (.var 4)))) (.cons (.bin .Mult (.cst (.int (2))) (.bin .Add (.bin .Mult (.var 2) (.var 4)) (.bin .Mult (.var 1) (.var 3)))) .nil))))) (.cons (.asg (.nm 6) (.tupE (.cons (.bin .Mult (.cst (.int (2))) (.bin .Add (.bin .Mult (.var 2) (.var 3)) (.bin .Mult (.var 1) (.var 4)))) (.cons (.bin .Sub (.bin .Add (.bin .Sub (.bin .Mult (.var 1) (.var 1)) (.bin .Mult (.var 2) (.var 2))) (.bin .Mult (.var 3) (.var 3))) (.bin .Mult (.var 4) (.var 4))) (.cons (.bin .Mult (.cst (.int (2))) (.bin .Sub (.bin .Mult (.var 3) (.var 4)) (.bin .Mult (.var 1) (.var 2)))) .nil))))) (.cons (.ret (.tupE (.cons (.var 5) (.cons (.var 6) (.cons (.tupE (.cons (.bin .Mult (.cst (.int (2))) (.bin .Sub (.bin .Mult (.var 2) (.var 4)) (.bin .Mult (.var 1) (.var 3)))) (.cons (.bin .Mult (.cst (.int (2))) (.bin .Add (.bin .Mult (.var 3) (.var 4)) (.bin .Mult (.var 1) (.var 2)))) (.cons (.bin .Add (.bin .Sub (.bin .Sub (.bin .Mult (.var 1) (.var 1)) (.bin .Mult (.var 2) (.var 2))) (.bin .Mult (.var 3) (.var 3))) (.bin .Mult (.var 4) (.var 4))) .nil)))) .nil))))) .nil))))
def body13 : ISs := (.cons (.asg (.nm 2) (.comp false [3] (.nm 3) (.seq (.callF 12 [.arg 0] (.cons (.var 0) .nil))) .none (.callF 6 [.arg 0, .arg 1] (.cons (.var 3) (.cons (.var 1) .nil))))) (.cons (.ret (.callF 4 [.arg 0] (.cons (.callB .tuple (.cons (.bin .Add (.var 2) (.comp false [4] (.nm 4) (.seq (.sl (.var 1) (.some (.cst (.int (3)))) .none)) .none (.bin .Mult (.callF 11 [.arg 0] (.cons (.var 0) .nil)) (.var 4)))) .nil)) .nil))) .nil))
def body14 : ISs := (.cons (.expr (.callF 9 [.arg 0] (.cons (.var 0) .nil))) (.cons (.expr (.callF 9 [.arg 0] (.cons (.var 1) .nil))) (.cons (.asg (.tup (.cons (.tup (.cons (.nm 2) (.cons (.nm 3) (.cons (.nm 4) (.cons (.nm 5) .nil))))) (.cons (.tup (.cons (.nm 6) (.cons (.nm 7) (.cons (.nm 8) (.cons (.nm 9) .nil))))) .nil))) (.tupE (.cons (.var 1) (.cons (.var 0) .nil)))) (.cons (.asg (.nm 10) (.bin .Sub (.bin .Sub (.bin .Sub (.bin .Mult (.var 2) (.var 6)) (.bin .Mult (.var 3) (.var 7))) (.bin .Mult (.var 4) (.var 8))) (.bin .Mult (.var 5) (.var 9)))) (.cons (.asg (.nm 11) (.bin .Sub (.bin .Add (.bin .Add (.bin .Mult (.var 2) (.var 7)) (.bin .Mult (.var 3) (.var 6))) (.bin .Mult (.var 4) (.var 9))) (.bin .Mult (.var 5) (.var 8)))) (.cons (.asg (.nm 12) (.bin .Add (.bin .Add (.bin .Sub (.bin .Mult (.var 2) (.var 8)) (.bin .Mult (.var 3) (.var 9))) (.bin .Mult (.var 4) (.var 6))) (.bin .Mult (.var 5) (.var 7)))) (.cons (.ret (.callF 10 [.arg 0] (.cons (.tupE (.cons (.var 10) (.cons (.var 11) (.cons (.var 12) (.cons (.bin .Add (.bin .Sub (.bin .Add (.bin .Mult (.var 2) (.var 9)) (.bin .Mult (.var 3) (.var 8))) (.bin .Mult (.var 4) (.var 7))) (.bin .Mult (.var 5) (.var 6))) .nil))))) .nil))) .nil)))))))
def body15 : ISs := (.cons (.ifS (.cmp .Eq (.var 0) (.cst (.tup [(.int (1)), (.int (0)), (.int (0)), (.int (0))]))) (.cons (.ret (.cst (.int (1)))) .nil) .nil) (.cons (.asg (.tup (.cons (.nm 1) (.cons (.nm 2) .nil))) (.callB .divmod (.cons (.bin .Mult (.bin .Mult (.cst (.int (4))) (.ix (.var 0) (.cst (.int (0))))) (.ix (.var 0) (.cst (.int (0))))) (.cons (.callF 11 [.arg 0] (.cons (.var 0) .nil)) .nil)))) (.cons (.ret (.ite (.cmp .Eq (.var 2) (.cst (.int (0)))) (.tgetI [(0, 2), (1, 3), (2, 4), (3, 6)] (.var 1) (.cst .non)) (.cst .non))) .nil)))
def body16 : ISs := (.cons (.asg (.nm 2) (.cst (.tup [(.int (1)), (.int (0)), (.int (0)), (.int (0))]))) (.cons (.forS (.nm 3) (.seq (.var 1)) (.cons (.asg (.nm 2) (.callF 14 [.arg 0, .arg 1] (.cons (.var 2) (.cons (.ix (.var 0) (.var 3)) .nil)))) .nil)) (.cons (.ret (.var 2)) .nil)))
def body17 : ISs := (.cons (.par [1, 2, 3] (.cons (.dsp1 (.cst (.tup [(.int (1)), (.int (0)), (.int (0)), (.int (0))])) (.tupE .nil)) (.cons (.lstE true (.cons (.cst (.tup [(.int (1)), (.int (0)), (.int (0)), (.int (0))])) .nil)) (.cons (.cst (.int (0))) .nil)))) (.cons (.whil (.cmp .Lt (.var 3) (.callB .len (.cons (.var 2) .nil))) (.cons (.asg (.nm 4) (.ix (.var 2) (.var 3))) (.cons (.aug 3 .Add (.cst (.int (1)))) (.cons (.forS (.tup (.cons (.nm 5) (.cons (.nm 6) .nil))) (.enum (.var 0)) (.cons (.asg (.nm 7) (.callF 14 [.arg 0, .arg 1] (.cons (.var 4) (.cons (.var 6) .nil)))) (.cons (.ifS (.cmp .NotIn (.var 7) (.var 1)) (.cons (.setIx (.var 1) (.var 7) (.tupS [true, false] (.cons (.chkS (.ix (.var 1) (.var 4))) (.cons (.var 5) .nil)))) (.cons (.ifS (.cmp .Is (.callF 15 [.arg 0] (.cons (.var 7) .nil)) (.cst .non)) (.cons (.ret (.tupE (.cons (.var 1) (.cons (.ix (.var 1) (.var 7)) .nil)))) .nil) .nil) (.cons (.expr (.meth .append (.var 2) (.cons (.var 7) .nil))) .nil))) .nil) .nil))) .nil)))) (.cons (.ret (.tupE (.cons (.var 1) (.cons (.cst .non) .nil)))) .nil)))
def body18 : ISs := (.cons (.asg (.tup (.cons (.nm 1) (.cons (.nm 2) .nil))) (.callF 17 [.arg 0] (.cons (.var 0) .nil))) (.cons (.ret (.ite (.cmp .Is (.var 2) (.cst .non)) (.callB .tuple (.cons (.callB .sortI (.cons (.var 1) .nil)) .nil)) (.cst .non))) .nil))
def body19 : ISs := (.cons (.ret (.callF 4 [.arg 0] (.cons (.sl (.var 0) (.some (.cst (.int (1)))) .none) .nil))) .nil)
def body20 : ISs := (.cons (.ret (.callB .tuple (.cons (.comp false [1] (.nm 1) (.seq (.var 0)) .none (.neg (.var 1))) .nil))) .nil)
def body21 : ISs := (.cons (.asg (.nm 1) .dnew) (.cons (.forS (.nm 2) (.seq (.var 0)) (.cons (.ifS (.cmp .NotEq (.var 2) (.cst (.tup [(.int (1)), (.int (0)), (.int (0)), (.int (0))]))) (.cons (.forS (.nm 3) (.seq (.tupE (.cons (.callF 19 [.arg 0] (.cons (.var 2) .nil)) (.cons (.callF 20 [.arg 0] (.cons (.callF 19 [.arg 0] (.cons (.var 2) .nil)) .nil)) .nil)))) (.cons (.setIx (.var 1) (.var 3) (.bin .Add (.dgt2 (.var 1) (.var 3) (.cst (.int (1)))) (.cst (.int (1))))) .nil)) .nil) .nil) .nil)) (.cons (.ret (.var 1)) .nil)))
def body22 : ISs := (.cons (.par [1, 2] (.cons (.callB .len (.cons (.var 0) .nil)) (.cons (.comp false [3] (.nm 3) (.seq (.var 0)) .none (.callF 15 [.arg 0] (.cons (.var 3) .nil))) .nil))) (.cons (.ifS (.cmp .Eq (.var 1) (.cst (.int (24)))) (.cons (.ret (.tupE (.cons (.cst (.str "six")) (.cons (.var 1) .nil)))) .nil) .nil) (.cons (.ifS (.cmp .Lt (.callB .len (.cons (.callF 21 [.arg 0] (.cons (.var 0) .nil)) .nil)) (.cst (.int (3)))) (.cons (.ret (.tupE (.cons (.cst (.str "ring")) (.cons (.var 1) .nil)))) .nil) .nil) (.cons (.ifS (.cmp .Eq (.meth .count (.var 2) (.cons (.cst (.int (3))) .nil)) (.cst (.int (8)))) (.cons (.ret (.tupE (.cons (.cst (.str "four")) (.cons (.var 1) .nil)))) .nil) .nil) (.cons (.ret (.tupE (.cons (.cst (.str "double")) (.cons (.bin .FloorDiv (.var 1) (.cst (.int (2)))) .nil)))) .nil)))))
def body23 : ISs := (.cons (.ifS (.orE (.notE (.callB .isI (.cons (.var 0) (.cons (.cst (.ty "tuple")) .nil)))) (.notE (.chain .LtE .LtE (.cst (.int (1))) (.callB .len (.cons (.var 0) .nil)) (.cst (.int (6)))))) (.cons (.raise 50 .nil) .nil) .nil) (.cons (.ifS (.notE (.callB .all (.cons (.comp false [1] (.nm 1) (.seq (.var 0)) .none (.callF 8 [.arg 0] (.cons (.var 1) .nil))) .nil))) (.cons (.raise 50 .nil) .nil) .nil) .nil))
def body24 : ISs := (.cons (.ifS (.notE (.callB .isI (.cons (.var 1) (.cons (.cst (.ty "tuple")) .nil)))) (.cons (.ret (.cst (.bl false))) .nil) .nil) (.cons (.ret (.callB .all (.cons (.comp false [2] (.nm 2) (.seq (.var 1)) .none (.andE (.callF 0 [.arg 0] (.cons (.var 2) .nil)) (.chain .LtE .Lt (.cst (.int (0))) (.var 2) (.callB .len (.cons (.var 0) .nil))))) .nil))) .nil))
def body25 : ISs := (.cons (.expr (.callF 23 [.arg 0] (.cons (.var 0) .nil))) (.cons (.asg (.nm 1) (.callF 18 [.arg 0] (.cons (.var 0) .nil))) (.cons (.ifS (.cmp .Is (.var 1) (.cst .non)) (.cons (.raise 50 .nil) .nil) .nil) (.cons (.ret (.var 1)) .nil))))
def body26 : ISs := (.cons (.expr (.callF 9 [.arg 0] (.cons (.var 0) .nil))) (.cons (.ret (.callF 15 [.arg 0] (.cons (.var 0) .nil))) .nil))
def body27 : ISs := (.cons (.expr (.callF 9 [.arg 0] (.cons (.var 0) .nil))) (.cons (.ifS (.cmp .Eq (.var 0) (.cst (.tup [(.int (1)), (.int (0)), (.int (0)), (.int (0))]))) (.cons (.raise 47 .nil) .nil) .nil) (.cons (.ret (.callF 19 [.arg 0] (.cons (.var 0) .nil))) .nil)))
def body28 : ISs := (.cons (.expr (.callF 23 [.arg 0] (.cons (.var 0) .nil))) (.cons (.ifS (.orE (.notE (.callF 24 [.arg 0, .arg 1] (.cons (.var 0) (.cons (.var 1) .nil)))) (.cmp .Gt (.callB .len (.cons (.var 1) .nil)) (.cst (.int (200))))) (.cons (.raise 50 .nil) .nil) .nil) (.cons (.ret (.callF 16 [.arg 0, .arg 1] (.cons (.var 0) (.cons (.var 1) .nil)))) .nil)))
def body29 : ISs := (.cons (.expr (.callF 23 [.arg 0] (.cons (.var 0) .nil))) (.cons (.asg (.tup (.cons (.nm 1) (.cons (.nm 2) .nil))) (.callF 17 [.arg 0] (.cons (.var 0) .nil))) (.cons (.ret (.ite (.cmp .Is (.var 2) (.cst .non)) (.tupE (.cons (.cst (.str "finite")) (.cons (.callB .tuple (.cons (.callB .sortI (.cons (.var 1) .nil)) .nil)) .nil))) (.tupE (.cons (.cst (.str "endless")) (.cons (.var 2) .nil))))) .nil)))
def body30 : ISs := (.cons (.expr (.callF 23 [.arg 0] (.cons (.var 0) .nil))) (.cons (.ifS (.orE (.notE (.callB .isI (.cons (.var 1) (.cons (.cst (.ty "tuple")) .nil)))) (.orE (.cmp .NotEq (.callB .len (.cons (.var 1) .nil)) (.cst (.int (2)))) (.notE (.callB .isI (.cons (.ix (.var 1) (.cst (.int (0)))) (.cons (.cst (.ty "str")) .nil)))))) (.cons (.ret (.cst (.bl false))) .nil) .nil) (.cons (.ifS (.cmp .Eq (.ix (.var 1) (.cst (.int (0)))) (.cst (.str "endless"))) (.cons (.ret (.andE (.callF 24 [.arg 0, .arg 1] (.cons (.var 0) (.cons (.ix (.var 1) (.cst (.int (1)))) .nil))) (.andE (.cmp .NotEq (.ix (.var 1) (.cst (.int (1)))) (.tupE .nil)) (.cmp .Is (.callF 15 [.arg 0] (.cons (.callF 16 [.arg 0, .arg 1] (.cons (.var 0) (.cons (.ix (.var 1) (.cst (.int (1)))) .nil))) .nil)) (.cst .non))))) .nil) .nil) (.cons (.ifS (.orE (.cmp .NotEq (.ix (.var 1) (.cst (.int (0)))) (.cst (.str "finite"))) (.orE (.notE (.callB .isI (.cons (.ix (.var 1) (.cst (.int (1)))) (.cons (.cst (.ty "tuple")) .nil)))) (.notE (.callB .all (.cons (.comp false [2] (.nm 2) (.seq (.ix (.var 1) (.cst (.int (1))))) .none (.callF 8 [.arg 0] (.cons (.var 2) .nil))) .nil))))) (.cons (.ret (.cst (.bl false))) .nil) .nil) (.cons (.ret (.cmp .Eq (.ix (.var 1) (.cst (.int (1)))) (.callF 18 [.arg 0] (.cons (.var 0) .nil)))) .nil)))))
def body31 : ISs := (.cons (.expr (.callF 23 [.arg 0] (.cons (.var 0) .nil))) (.cons (.ret (.cmp .IsNot (.callF 18 [.arg 0] (.cons (.var 0) .nil)) (.cst .non))) .nil))
def body32 : ISs := (.cons (.ret (.callF 25 [.arg 0] (.cons (.var 0) .nil))) .nil)
def body33 : ISs := (.cons (.ret (.callF 22 [.arg 0] (.cons (.callF 25 [.arg 0] (.cons (.var 0) .nil)) .nil))) .nil)
def body34 : ISs := (.cons (.ifS (.orE (.notE (.callB .isI (.cons (.var 0) (.cons (.cst (.ty "tuple")) .nil)))) (.notE (.chain .LtE .LtE (.cst (.int (1))) (.callB .len (.cons (.var 0) .nil)) (.cst (.int (24)))))) (.cons (.ret (.cst (.bl false))) .nil) .nil) (.cons (.ifS (.notE (.callB .all (.cons (.comp false [1] (.nm 1) (.seq (.var 0)) .none (.callF 8 [.arg 0] (.cons (.var 1) .nil))) .nil))) (.cons (.ret (.cst (.bl false))) .nil) .nil) (.cons (.ifS (.notE (.callB .all (.cons (.comp false [2, 3] (.tup (.cons (.nm 2) (.cons (.nm 3) .nil))) (.zip (.var 0) (.sl (.var 0) (.some (.cst (.int (1)))) .none)) .none (.cmp .Lt (.var 2) (.var 3))) .nil))) (.cons (.ret (.cst (.bl false))) .nil) .nil) (.cons (.forS (.nm 2) (.seq (.var 0)) (.cons (.ifS (.notE (.callB .all (.cons (.comp false [3] (.nm 3) (.seq (.var 0)) .none (.cmp .In (.callF 14 [.arg 0, .arg 1] (.cons (.var 2) (.cons (.var 3) .nil))) (.var 0))) .nil))) (.cons (.ret (.cst (.bl false))) .nil) .nil) .nil)) (.cons (.ret (.cst (.bl true))) .nil)))))
def body35 : ISs := (.cons (.ret (.callB .tuple (.cons (.callB .sortI (.cons (.callB .list (.cons (.dprs (.callF 21 [.arg 0] (.cons (.callF 25 [.arg 0] (.cons (.var 0) .nil)) .nil))) .nil)) .nil)) .nil))) .nil)
def body36 : ISs := (.cons (.asg (.nm 1) (.callF 25 [.arg 0] (.cons (.var 0) .nil))) (.cons (.par [2, 3, 4] (.cons (.callF 21 [.arg 0] (.cons (.var 1) .nil)) (.cons (.lstE true .nil) (.cons .dnew .nil)))) (.cons (.forS (.nm 5) (.seq (.callB .sortI (.cons (.var 2) .nil))) (.cons (.ifS (.cmp .NotIn (.var 5) (.var 4)) (.cons .bad (.cons .bad (.cons (.expr (.meth .append (.var 3) (.cons (.tupE (.cons (.ix (.var 2) (.var 5)) (.cons (.callB .tuple (.cons (.callB .sortI (.cons (.var 6) .nil)) .nil)) .nil))) .nil))) .nil))) .nil) .nil)) (.cons (.ret (.callB .tuple (.cons (.callB .sortI (.cons (.var 3) .nil)) .nil))) .nil))))
def body37 : ISs := (.cons (.expr (.callF 23 [.arg 0] (.cons (.var 0) .nil))) (.cons (.expr (.callF 23 [.arg 0] (.cons (.var 1) .nil))) (.cons (.par [2, 3] (.cons (.callF 18 [.arg 0] (.cons (.var 0) .nil)) (.cons (.callF 18 [.arg 0] (.cons (.var 1) .nil)) .nil))) (.cons (.ret (.andE (.cmp .IsNot (.var 2) (.cst .non)) (.andE (.cmp .IsNot (.var 3) (.cst .non)) (.cmp .Eq (.callF 22 [.arg 0] (.cons (.var 2) .nil)) (.callF 22 [.arg 0] (.cons (.var 3) .nil)))))) .nil))))
def body38 : ISs := (.cons (.asg (.nm 2) (.ite (.cmp .Lt (.var 1) (.callB .len (.cons (.var 0) .nil))) (.callB .int (.cons (.ix (.var 0) (.var 1)) .nil)) (.bin .Add (.bin .Mult (.cst (.int (677))) (.var 1)) (.cst (.int (53)))))) (.cons (.asg (.nm 3) (.bin .Mod (.callB .int (.cons (.callB .abs (.cons (.var 2) .nil)) .nil)) (.bin .Pow (.bin .Pow (.cst (.int (10))) (.cst (.int (53)))) (.cst (.int (6)))))) (.cons (.asg (.nm 4) (.bin .Add (.bin .Add (.bin .Add (.bin .Mult (.bin .Mod (.var 3) (.cst (.int (2305843009213693951)))) (.cst (.int (113)))) (.bin .Mult (.cst (.int (557))) (.var 1))) (.bin .Mult (.cst (.int (73))) (.callB .int (.cons (.cmp .Lt (.var 2) (.cst (.int (0)))) .nil)))) (.cst (.int (37))))) (.cons (.ret (.lstE true (.cons (.callB .max2 (.cons (.cst (.int (0))) (.cons (.bin .Sub (.var 3) (.bin .Pow (.cst (.int (10))) (.cst (.int (16))))) .nil))) (.cons (.var 4) (.cons (.cst (.int (0))) .nil))))) .nil))))
def body39 : ISs := (.cons (.ifS (.cmp .Gt (.ix (.var 0) (.cst (.int (0)))) (.cst (.int (0)))) (.cons (.asg (.nm 2) (.bin .Mod (.callB .int (.cons (.ix (.var 0) (.cst (.int (0)))) .nil)) (.var 1))) (.cons (.setIx (.var 0) (.cst (.int (0))) (.bin .FloorDiv (.ix (.var 0) (.cst (.int (0)))) (.var 1))) (.cons (.ret (.var 2)) .nil))) .nil) (.cons (.setIx (.var 0) (.cst (.int (2))) (.bin .Add (.ix (.var 0) (.cst (.int (2)))) (.cst (.int (1))))) (.cons (.asg (.nm 3) (.bin .Mod (.callB .int (.cons (.bin .Add (.ix (.var 0) (.cst (.int (1)))) (.bin .Mult (.cst (.int (10000931))) (.ix (.var 0) (.cst (.int (2)))))) .nil)) (.cst (.int (2305843009213693951))))) (.cons (.asg (.nm 4) (.bin .Add (.bin .Mult (.bin .Mod (.callB .int (.cons (.bin .Add (.bin .Mult (.var 3) (.var 3)) (.bin .Mult (.cst (.int (673))) (.ix (.var 0) (.cst (.int (2)))))) .nil)) (.cst (.int (2305843009213693951)))) (.cst (.int (8589934609)))) (.var 3))) (.cons (.ret (.bin .Mod (.callB .int (.cons (.bin .FloorDiv (.var 4) (.cst (.int (131072)))) .nil)) (.var 1))) .nil)))))
def body40 : ISs := (.cons (.ret (.ix (.var 1) (.callF 39 [.arg 0, .arg 1] (.cons (.var 0) (.cons (.callB .len (.cons (.var 1) .nil)) .nil))))) .nil)
def body41 : ISs := (.cons .bad .nil)
def body42 : ISs := (.cons (.asg (.nm 1) (.callF 40 [.arg 0, .arg 1] (.cons (.var 0) (.cons (.lstE false (.cons (.cst .non) (.cons (.cst (.int (0))) (.cons (.tupE (.cons (.cst (.int (0))) (.cons (.cst (.int (0))) (.cons (.cst (.int (0))) (.cons (.cst (.int (0))) .nil))))) (.cons (.tupE (.cons (.cst (.int (2))) (.cons (.cst (.int (0))) (.cons (.cst (.int (0))) (.cons (.cst (.int (0))) .nil))))) (.cons (.tupE (.cons (.neg (.cst (.int (1)))) (.cons (.cst (.int (0))) (.cons (.cst (.int (0))) (.cons (.cst (.int (0))) .nil))))) (.cons (.tupE (.cons (.cst (.int (1))) (.cons (.cst (.int (0))) (.cons (.cst (.int (0))) .nil)))) (.cons (.lstE false (.cons (.cst (.int (1))) (.cons (.cst (.int (0))) (.cons (.cst (.int (0))) (.cons (.cst (.int (0))) .nil))))) (.cons (.tupE (.cons (.cst (.int (1))) (.cons (.cst (.bl true)) (.cons (.cst (.int (0))) (.cons (.cst (.int (0))) .nil))))) (.cons (.cst (.str "turn")) (.cons (.tupE (.cons (.cst (.int (0))) (.cons (.neg (.cst (.int (1)))) (.cons (.cst (.int (0))) (.cons (.cst (.int (0))) .nil))))) (.cons .dctE .nil)))))))))))) .nil)))) (.cons (.asg (.nm 2) (.callF 40 [.arg 0, .arg 1] (.cons (.var 0) (.cons (.lstE false (.cons (.cst .non) (.cons (.tupE .nil) (.cons (.tupE (.cons (.var 1) .nil)) (.cons (.lstE false (.cons (.tupE (.cons (.cst (.int (1))) (.cons (.cst (.int (0))) (.cons (.cst (.int (0))) (.cons (.cst (.int (0))) .nil))))) .nil)) (.cons (.tupE (.cons (.tupE (.cons (.cst (.int (1))) (.cons (.cst (.int (0))) (.cons (.cst (.int (0))) (.cons (.cst (.int (1))) .nil))))) (.cons (.var 1) .nil))) (.cons (.bin .Mult (.tupE (.cons (.tupE (.cons (.cst (.int (1))) (.cons (.cst (.int (0))) (.cons (.cst (.int (0))) (.cons (.cst (.int (1))) .nil))))) .nil)) (.cst (.int (7)))) (.cons (.tupE (.cons (.cst (.int (1))) (.cons (.cst (.int (0))) (.cons (.cst (.int (0))) (.cons (.cst (.int (1))) .nil))))) (.cons (.cst (.str "turns")) (.cons (.cst (.int (0))) (.cons .dctE .nil))))))))))) .nil)))) (.cons (.asg (.nm 3) (.callF 40 [.arg 0, .arg 1] (.cons (.var 0) (.cons (.lstE false (.cons (.tupE (.cons (.tupE (.cons (.cst (.int (2))) (.cons (.cst (.int (1))) (.cons (.cst (.int (0))) (.cons (.cst (.int (0))) .nil))))) .nil)) (.cons (.tupE (.cons (.tupE (.cons (.cst (.int (1))) (.cons (.cst (.int (0))) (.cons (.cst (.int (0))) (.cons (.cst (.int (1))) .nil))))) (.cons (.tupE (.cons (.cst (.int (3))) (.cons (.cst (.int (1))) (.cons (.cst (.int (0))) (.cons (.cst (.int (0))) .nil))))) .nil))) (.cons (.tupE (.cons (.tupE (.cons (.cst (.int (0))) (.cons (.cst (.int (1))) (.cons (.cst (.int (0))) (.cons (.cst (.int (0))) .nil))))) (.cons (.tupE (.cons (.cst (.int (0))) (.cons (.cst (.int (2))) (.cons (.cst (.int (1))) (.cons (.cst (.int (0))) .nil))))) .nil))) .nil)))) .nil)))) (.cons (.asg (.nm 4) (.callF 40 [.arg 0, .arg 1] (.cons (.var 0) (.cons (.lstE false (.cons (.cst .non) (.cons (.tupE (.cons (.cst (.int (2))) .nil)) (.cons (.tupE (.cons (.neg (.cst (.int (1)))) .nil)) (.cons (.tupE (.cons (.cst (.bl true)) .nil)) (.cons (.lstE false (.cons (.cst (.int (0))) .nil)) (.cons (.cst (.int (0))) (.cons (.bin .Mult (.tupE (.cons (.cst (.int (0))) .nil)) (.cst (.int (201)))) (.cons (.tupE (.cons (.cst (.str "0")) .nil)) (.cons (.cst (.str "0")) (.cons (.tupE (.cons (.cst .non) .nil)) (.cons .dctE .nil)))))))))))) .nil)))) (.cons (.asg (.tup (.cons (.nm 5) (.cons (.nm 6) (.cons (.nm 7) .nil)))) (.tupE (.cons (.tupE (.cons (.tupE (.cons (.cst (.int (1))) (.cons (.cst (.int (0))) (.cons (.cst (.int (0))) (.cons (.cst (.int (1))) .nil))))) (.cons (.tupE (.cons (.cst (.int (0))) (.cons (.cst (.int (1))) (.cons (.cst (.int (0))) (.cons (.cst (.int (0))) .nil))))) .nil))) (.cons (.lstE true .nil) (.cons (.lstE true .nil) .nil))))) (.cons (.forS (.nm 8) (.seq (.tupE (.cons (.cst (.gl 26)) (.cons (.cst (.gl 27)) .nil)))) (.cons (.expr (.meth .append (.var 6) (.cons (.lamF (some "told") [(45, "place"), (46, "mark"), (47, "turn"), (48, "land"), (50, "row")] (.callL 8 [(26, [.arg 0]), (27, [.arg 0]), (29, [.arg 0]), (31, [.arg 0]), (32, [.arg 0]), (33, [.arg 0]), (35, [.arg 0]), (36, [.arg 0])] (.cons (.var 1) .nil))) .nil))) (.cons (.expr (.meth .append (.var 7) (.cons (.cst (.str "turn")) .nil))) .nil))) (.cons (.expr (.meth .append (.var 6) (.cons (.lamF (some "told") [(45, "place"), (46, "mark"), (47, "turn"), (48, "land"), (50, "row")] (.callF 27 [.arg 0] (.cons (.tupE (.cons (.cst (.int (1))) (.cons (.cst (.int (0))) (.cons (.cst (.int (0))) (.cons (.cst (.int (0))) .nil))))) .nil))) .nil))) (.cons (.expr (.meth .append (.var 6) (.cons (.lamF (some "told") [(45, "place"), (46, "mark"), (47, "turn"), (48, "land"), (50, "row")] (.callF 28 [.arg 0, .arg 1] (.cons (.var 2) (.cons (.var 4) .nil)))) .nil))) (.cons (.expr (.meth .append (.var 6) (.cons (.lamF (some "told") [(45, "place"), (46, "mark"), (47, "turn"), (48, "land"), (50, "row")] (.callF 28 [.arg 0, .arg 1] (.cons (.var 5) (.cons (.var 4) .nil)))) .nil))) (.cons (.asg (.nm 7) (.lzip (.var 7) (.lstE false (.cons (.cst (.str "turn")) (.cons (.cst (.str "row")) (.cons (.cst (.str "row")) .nil)))))) (.cons (.forS (.nm 8) (.seq (.tupE (.cons (.cst (.gl 29)) (.cons (.cst (.gl 31)) .nil)))) (.cons (.expr (.meth .append (.var 6) (.cons (.lamF (some "told") [(45, "place"), (46, "mark"), (47, "turn"), (48, "land"), (50, "row")] (.callL 8 [(26, [.arg 0]), (27, [.arg 0]), (29, [.arg 0]), (31, [.arg 0]), (32, [.arg 0]), (33, [.arg 0]), (35, [.arg 0]), (36, [.arg 0])] (.cons (.var 2) .nil))) .nil))) (.cons (.expr (.meth .append (.var 7) (.cons (.cst (.str "row")) .nil))) .nil))) (.cons (.expr (.meth .append (.var 6) (.cons (.lamF (some "told") [(45, "place"), (46, "mark"), (47, "turn"), (48, "land"), (50, "row")] (.callF 30 [.arg 0, .arg 1] (.cons (.var 2) (.cons (.cst .non) .nil)))) .nil))) (.cons (.expr (.meth .append (.var 7) (.cons (.cst (.str "row")) .nil))) (.cons (.forS (.nm 8) (.seq (.tupE (.cons (.cst (.gl 32)) (.cons (.cst (.gl 33)) (.cons (.cst (.gl 35)) (.cons (.cst (.gl 36)) .nil)))))) (.cons (.expr (.meth .append (.var 6) (.cons (.lamF (some "told") [(45, "place"), (46, "mark"), (47, "turn"), (48, "land"), (50, "row")] (.callL 8 [(26, [.arg 0]), (27, [.arg 0]), (29, [.arg 0]), (31, [.arg 0]), (32, [.arg 0]), (33, [.arg 0]), (35, [.arg 0]), (36, [.arg 0])] (.cons (.var 2) .nil))) .nil))) (.cons (.expr (.meth .append (.var 6) (.cons (.lamF (some "told") [(45, "place"), (46, "mark"), (47, "turn"), (48, "land"), (50, "row")] (.callL 8 [(26, [.arg 0]), (27, [.arg 0]), (29, [.arg 0]), (31, [.arg 0]), (32, [.arg 0]), (33, [.arg 0]), (35, [.arg 0]), (36, [.arg 0])] (.cons (.var 3) .nil))) .nil))) (.cons (.asg (.nm 7) (.lzip (.var 7) (.lstE false (.cons (.cst (.str "row")) (.cons (.cst (.str "row")) .nil))))) .nil)))) (.cons (.expr (.meth .append (.var 6) (.cons (.lamF (some "told") [(45, "place"), (46, "mark"), (47, "turn"), (48, "land"), (50, "row")] (.callF 37 [.arg 0, .arg 1] (.cons (.var 2) (.cons (.var 5) .nil)))) .nil))) (.cons (.expr (.meth .append (.var 6) (.cons (.lamF (some "told") [(45, "place"), (46, "mark"), (47, "turn"), (48, "land"), (50, "row")] (.callF 37 [.arg 0, .arg 1] (.cons (.var 5) (.cons (.var 2) .nil)))) .nil))) (.cons (.ifS (.cmp .NotEq (.var 6) (.bin .Add (.var 7) (.lstE false (.cons (.cst (.str "row")) (.cons (.cst (.str "row")) .nil))))) (.cons (.ret (.cst (.bl false))) .nil) .nil) (.cons (.ifS (.orE (.cmp .IsNot (.callF 37 [.arg 0, .arg 1] (.cons (.var 5) (.cons (.var 3) .nil))) (.cst (.bl false))) (.cmp .IsNot (.callF 37 [.arg 0, .arg 1] (.cons (.var 3) (.cons (.var 3) .nil))) (.cst (.bl false)))) (.cons (.ret (.cst (.bl false))) .nil) .nil) (.cons (.forS (.nm 9) (.seq (.lstE false (.cons (.var 1) (.cons (.var 2) (.cons (.var 4) (.cons .dctE (.cons (.lstE false (.cons (.lstE false .nil) .nil)) (.cons .dctE (.cons (.tupE (.cons (.cst (.str "finite")) (.cons .dctE .nil))) (.cons (.tupE (.cons (.cst (.str "finite")) (.cons (.tupE (.cons .dctE .nil)) .nil))) (.cons (.tupE (.cons (.cst (.str "finite")) (.cons (.tupE (.cons (.cst .non) .nil)) .nil))) (.cons (.tupE (.cons (.cst (.str "endless")) (.cons .dctE .nil))) (.cons (.tupE (.cons (.cst (.str "endless")) (.cons (.tupE (.cons .dctE .nil)) .nil))) (.cons (.tupE (.cons (.cst (.int (0))) (.cons (.cst (.int (1))) .nil))) .nil)))))))))))))) (.cons (.ifS (.orE (.cmp .NotEq (.lamF (some "told") [(45, "place"), (46, "mark"), (47, "turn"), (48, "land"), (50, "row")] (.callF 30 [.arg 0, .arg 1] (.cons (.var 5) (.cons (.var 9) .nil)))) (.tupE (.cons (.cst (.str "told")) (.cons (.cst (.bl false)) .nil)))) (.cmp .NotEq (.lamF (some "told") [(45, "place"), (46, "mark"), (47, "turn"), (48, "land"), (50, "row")] (.callF 34 [.arg 0] (.cons (.var 9) .nil))) (.tupE (.cons (.cst (.str "told")) (.cons (.cst (.bl false)) .nil))))) (.cons (.ret (.cst (.bl false))) .nil) .nil) .nil)) (.cons (.ret (.cst (.bl true))) .nil))))))))))))))))))))
def body43 : ISs := (.cons (.forS (.nm 1) (.rng (.cst (.int (0))) (.callB .max2 (.cons (.cst (.int (1))) (.cons (.callB .min2 (.cons (.cst (.int (4))) (.cons (.callB .len (.cons (.var 0) .nil)) .nil))) .nil)))) (.cons (.asg (.nm 2) (.callF 38 [.arg 0, .arg 1] (.cons (.var 0) (.cons (.var 1) .nil)))) (.cons (.ifS (.orE (.notE (.callF 42 [.arg 0] (.cons (.var 2) .nil))) (.notE (.callF 42 [.arg 0] (.cons (.var 2) .nil)))) (.cons (.ret (.cst (.bl false))) .nil) .nil) .nil))) (.cons (.ret (.cmp .Eq (.callF 28 [.arg 0, .arg 1] (.cons (.tupE (.cons (.tupE (.cons (.cst (.int (1))) (.cons (.cst (.int (0))) (.cons (.cst (.int (0))) (.cons (.cst (.int (1))) .nil))))) .nil)) (.cons (.bin .Mult (.tupE (.cons (.cst (.int (0))) .nil)) (.cst (.int (200)))) .nil))) (.tupE (.cons (.cst (.int (1))) (.cons (.cst (.int (0))) (.cons (.cst (.int (0))) (.cons (.cst (.int (0))) .nil))))))) .nil))
def TT : List Fn := [⟨1, 1, body0⟩, ⟨2, 3, body1⟩, ⟨2, 2, body2⟩, ⟨1, 3, body3⟩, ⟨1, 3, body4⟩, ⟨2, 2, body5⟩, ⟨2, 2, body6⟩, ⟨1, 2, body7⟩, ⟨1, 1, body8⟩, ⟨1, 1, body9⟩, ⟨1, 3, body10⟩, ⟨1, 2, body11⟩, ⟨1, 7, body12⟩, ⟨2, 5, body13⟩, ⟨2, 13, body14⟩, ⟨1, 3, body15⟩, ⟨2, 4, body16⟩, ⟨1, 8, body17⟩, ⟨1, 3, body18⟩, ⟨1, 1, body19⟩, ⟨1, 2, body20⟩, ⟨1, 4, body21⟩, ⟨1, 4, body22⟩, ⟨1, 2, body23⟩, ⟨2, 3, body24⟩, ⟨1, 2, body25⟩, ⟨1, 1, body26⟩, ⟨1, 1, body27⟩, ⟨2, 2, body28⟩, ⟨1, 3, body29⟩, ⟨2, 3, body30⟩, ⟨1, 1, body31⟩, ⟨1, 1, body32⟩, ⟨1, 1, body33⟩, ⟨1, 4, body34⟩, ⟨1, 1, body35⟩, ⟨1, 8, body36⟩, ⟨2, 4, body37⟩, ⟨2, 5, body38⟩, ⟨2, 5, body39⟩, ⟨2, 2, body40⟩, ⟨1, 2, body41⟩, ⟨1, 10, body42⟩, ⟨1, 3, body43⟩]
theorem T_eq : L.T = TT := by kernel_rfl
end Lw1
namespace Lw1
open PySem PySem.Spec PyProof.Rows L2 Ev
/-! the draws -/
def Pl (n : Int) (l : List D) : Prop := ∃ a b c : Int, l = [.int a, .int b, .int c] ∧ 0 ≤ a ∧ 0 ≤ b ∧ b < 2 ^ 100 ∧ 0 ≤ c ∧ c ≤ n
theorem Pl.mono {n m : Int} {l : List D} (h : Pl n l) (k : n ≤ m) : Pl m l := let ⟨a, b, c, h1, h2, h3, h4, h5, h6⟩ := h; ⟨a, b, c, h1, h2, h3, h4, h5, by omega⟩
theorem Pl.set {n : Int} {a b c a' c' : Int} (h1 : 0 ≤ a') (h2 : 0 ≤ b) (h3 : b < 2 ^ 100) (h4 : 0 ≤ c') (h5 : c' ≤ n) : Pl n [.int a', .int b, .int c'] := ⟨_, _, _, rfl, h1, h2, h3, h4, h5⟩
variable {lf lv : Nat}
theorem dip_ {n : Int} {l : List D} {many : Int} (hn : n < 1000000) (h : Pl n l) (hm : 0 < many) (hm2 : many < 2 ^ 60) :
    ∃ r l', evF TT lf (lv + 1) 39 [.ref 0, .int many] [l] = .ok (.int r) [l'] ∧ 0 ≤ r ∧ r < many ∧ Pl (n + 1) l' := by
  obtain ⟨a, b, c, rfl, ha, hb, hb2, hc, hc2⟩ := h
  rw [evF_at (show TT[39]? = some ⟨2, 5, body39⟩ from rfl) rfl]
  have hd : divOk many = true := divOk_small hm (by omega)
  by_cases h0 : 0 < a
  · refine ⟨a % many, [.int (a / many), .int b, .int c], ?_, Int.emod_nonneg _ (by omega), Int.emod_lt_of_pos _ hm, ⟨_, _, _, rfl, Int.ediv_nonneg ha (by omega), hb, hb2, hc, by omega⟩⟩
    simp -implicitDefEqProofs (config := { decide := true }) [body39, evSs, evS, evE, evEs, h0, ixD, itemsS, atI, bo_mod hm, bo_div hd, ixN, bcall, finR, unp_nm]
  · have m2 : mulOk 10000931 (c + 1) = true := mul_lt' (by decide) (by decide +kernel) (by omega) (by omega)
    have m3 : mulOk 673 (c + 1) = true := mul_lt' (by decide) (by decide +kernel) (by omega) (by omega)
    generalize f1 : (b + 10000931 * (c + 1)) % 2305843009213693951 = x1
    have p1 : 0 ≤ x1 ∧ x1 < 2305843009213693951 := by omega
    have q1 : mulOk x1 x1 = true := mul_lt' p1.1 (by omega) p1.1 (by omega)
    generalize f2 : (x1 * x1 + 673 * (c + 1)) % 2305843009213693951 = x2
    have p2 : 0 ≤ x2 ∧ x2 < 2305843009213693951 := by omega
    have q2 : mulOk x2 8589934609 = true := mul_lt' p2.1 (by omega) (by decide) (by decide +kernel)
    have d64 : divOk 131072 = true := by decide
    refine ⟨(x2 * 8589934609 + x1) / 131072 % many, [.int a, .int b, .int (c + 1)], ?_, Int.emod_nonneg _ (by omega), Int.emod_lt_of_pos _ hm, ⟨_, _, _, rfl, ha, hb, hb2, by omega, by omega⟩⟩
    simp -implicitDefEqProofs (config := { decide := true }) [body39, evSs, evS, evE, evEs, h0, ixD, itemsS, atI, bo_mod, bo_div d64, bo_mul m2, bo_mul m3, bo_mul q1, bo_mul q2, ixN, bcall, finR, unp_nm, f1, f2, hm]
theorem one_ {n : Int} {l : List D} {ds : List D} (hn : n < 1000000) (h : Pl n l) (h0 : 0 < ds.length) (hl : ds.length < 1000) :
    ∃ d ∈ ds, ∃ l', evF TT lf (lv + 2) 40 [.ref 0, .lst ds] [l] = finR 1 (.rt d [l']) ∧ Pl (n + 1) l' := by
  obtain ⟨r, l', e, h1, h2, h3⟩ := dip_ (lf := lf) (lv := lv) (many := ds.length) hn h (by omega) (by omega)
  obtain ⟨d, hd, ea⟩ := at_lt h1 h2
  refine ⟨d, hd, l', ?_, h3⟩
  rw [evF_at (show TT[40]? = some ⟨2, 2, body40⟩ from rfl) rfl]
  have ec : cutCall (evF TT lf (lv + 1) 39) [.ref 0, .int ds.length] [l] = .ok (.int r) [l'] := cut_cell (es := [.ref 0, .int ds.length]) rfl rfl e rfl
  simp -implicitDefEqProofs (config := { decide := true }) [body40, evSs, evS, evE, evEs, getSrc, bcall, itemsS, ec, ea]
/-- a draw from these -/
theorem draw {n : Int} {l : List D} {ds : List D} (hn : n < 1000000) (h : Pl n l) (h0 : 0 < ds.length) (hl : ds.length < 1000) (hc : D.calms ds = true) (hi : ds.all (fun d => match d with | .ref _ => false | _ => true) = true) :
    ∃ d ∈ ds, ∃ l', cutCall (evF TT lf (lv + 2) 40) [.ref 0, .lst ds] [l] = .ok d [l'] ∧ Pl (n + 1) l' := by
  obtain ⟨d, hd, l', e, h3⟩ := one_ (lf := lf) (lv := lv) hn h h0 hl
  have hcd : d.calm = true := calms_mem hc hd
  refine ⟨d, hd, l', ?_, h3⟩
  refine cut_cell (es := [.ref 0, .lst ds]) ?_ rfl ?_ hcd
  · show ((shrD [.lst ds] 1).map (D.ref 0 :: ·)) = _
    simp [shrD, D.calm, hc]
  · rw [e, fin_rt hcd]; rfl
theorem pw1 {S : Store} : binop .Pow (.int 10) (.int 53) S = some (.int 100000000000000000000000000000000000000000000000000000) := by kernel_rfl
theorem pw2 {S : Store} : binop .Pow (.int 100000000000000000000000000000000000000000000000000000) (.int 6) S = some (.int 1000000000000000000000000000000000000000000000000000000000000000000000000000000000000000000000000000000000000000000000000000000000000000000000000000000000000000000000000000000000000000000000000000000000000000000000000000000000000000000000000000000000000000000000000000000000000000000000000000000000000000000000000000000) := by kernel_rfl
theorem pw3 {S : Store} : binop .Pow (.int 10) (.int 16) S = some (.int 10000000000000000) := by kernel_rfl
theorem mod_pos {x m : Int} (h : 0 < m) : 0 ≤ x % m ∧ x % m < m := ⟨Int.emod_nonneg _ (by omega), Int.emod_lt_of_pos _ h⟩
theorem sack_ {ns : List Int} {k : Nat} (hk : k < 64) :
    ∃ l, evF TT lf (lv + 1) 38 [.frz (ns.map D.int), .int k] [] = .ok (.ref 0) [l] ∧ Pl 0 l := by
  rw [evF_at (show TT[38]? = some ⟨2, 5, body38⟩ from rfl) rfl]
  have key : ∀ x : Int, ∃ l, evSs (cfAt TT lf lv) (match body38 with | .cons _ r => r | r => r) [some (.frz (ns.map D.int)), some (.int k), some (.int x), none, none] [] = .rt (.ref 0) [l] ∧ Pl 0 l := by
    intro x
    generalize f1 : (if x < 0 then -x else x) % 1000000000000000000000000000000000000000000000000000000000000000000000000000000000000000000000000000000000000000000000000000000000000000000000000000000000000000000000000000000000000000000000000000000000000000000000000000000000000000000000000000000000000000000000000000000000000000000000000000000000000000000000000000000 = y
    have p1 : 0 ≤ y := by rw [← f1]; exact (mod_pos (by decide)).1
    have p2 := mod_pos (x := y) (m := 2305843009213693951) (by decide)
    have m1 : mulOk (y % 2305843009213693951) 113 = true := mul_lt' p2.1 (by omega) (by decide) (by decide +kernel)
    have m2 : mulOk 557 (k : Int) = true := mul_lt' (by decide) (by decide +kernel) (by omega) (by omega)
    have hB : (0 : Int) < 1000000000000000000000000000000000000000000000000000000000000000000000000000000000000000000000000000000000000000000000000000000000000000000000000000000000000000000000000000000000000000000000000000000000000000000000000000000000000000000000000000000000000000000000000000000000000000000000000000000000000000000000000000000 := by decide
    have m3 : ∀ b : Bool, mulOk 73 (if b then 1 else 0) = true := by intro b; cases b <;> decide
    refine ⟨[.int (if y - 10000000000000000 > 0 then y - 10000000000000000 else 0), .int (y % 2305843009213693951 * 113 + 557 * k + 73 * (if decide (x < 0) then 1 else 0) + 37), .int 0], ?_, ⟨_, _, _, rfl, ?_, ?_, ?_, by decide, by decide⟩⟩
    · simp -implicitDefEqProofs (config := { decide := true }) only [body38, evSs, evS, evE, evEs, bcR_int, bcR_abs, bcR_max, bc_abs, bcall, r_bind_ok, r_go_ok, ofO_some, pw1, pw2, pw3, bo_mod, hB, f1, bo_add, bo_sub, bo_mul m1, bo_mul m2, bo_mul (m3 _), co_lt, sr_nx, sr_rt, bg_nm, unp_nm, List.set, List.getElem?_cons_zero, List.getElem?_cons_succ, mkL, D.calms, D.calm, small, Bool.and_self, if_true, List.length_cons, List.length_nil, List.nil_append, if_pos]
    · split <;> omega
    · split <;> omega
    · split <;> omega
  by_cases hl : k < ns.length
  · obtain ⟨l, e, h⟩ := key ns[k]
    refine ⟨l, ?_, h⟩
    have ea : atI (ns.map D.int) (k : Int) = some (.int ns[k]) := by
      have e1 : ixN (ns.map D.int).length (k : Int) = some k := by
        unfold ixN
        simp [hl]
      show (ixN (ns.map D.int).length (k : Int)).bind _ = _
      rw [e1]
      simp [hl]
    have es : evSs (cfAt TT lf lv) body38 [some (.frz (ns.map D.int)), some (.int k), none, none, none] [] = .rt (.ref 0) [l] := by
      rw [← e]
      have hl' : (k : Int) < ns.length := by omega
      exact ss_nx (by simp -implicitDefEqProofs [evS, evE, evEs, hl', ixD, itemsS, ea, bcall, unp_nm])
    show finR 0 (evSs (cfAt TT lf lv) body38 [some (.frz (ns.map D.int)), some (.int k), none, none, none] []) = _
    rw [es]; rfl
  · obtain ⟨l, e, h⟩ := key (677 * k + 53)
    refine ⟨l, ?_, h⟩
    have m2 : mulOk 677 (k : Int) = true := mul_lt' (by decide) (by decide +kernel) (by omega) (by omega)
    have es : evSs (cfAt TT lf lv) body38 [some (.frz (ns.map D.int)), some (.int k), none, none, none] [] = .rt (.ref 0) [l] := by
      rw [← e]
      have hl' : ¬ (k : Int) < ns.length := by omega
      exact ss_nx (by simp -implicitDefEqProofs [evS, evE, evEs, hl', bcall, bo_mul m2, itemsS, unp_nm])
    show finR 0 (evSs (cfAt TT lf lv) body38 [some (.frz (ns.map D.int)), some (.int k), none, none, none] []) = _
    rw [es]; rfl
end Lw1
namespace Lw1
open PySem PySem.Spec PyProof.Rows L2 Ev
def cfR : Cf := cfAt TT 100 28
def gA : D := .tup [.int 1, .int 0, .int 0, .int 1]
def OL : List D := [.non, .int 0, .tup [.int 0, .int 0, .int 0, .int 0], .tup [.int 2, .int 0, .int 0, .int 0], .tup [.int (-1), .int 0, .int 0, .int 0], .tup [.int 1, .int 0, .int 0], .lst [.int 1, .int 0, .int 0, .int 0], .tup [.int 1, .bl true, .int 0, .int 0], .str "turn", .tup [.int 0, .int (-1), .int 0, .int 0], .dct]
def NLo (o : D) : List D := [.non, .tup [], .tup [o], .lst [.tup [.int 1, .int 0, .int 0, .int 0]], .tup [gA, o], .tup (List.replicate 7 gA), gA, .str "turns", .int 0, .dct]
def NL : List D := [.non, .tup [], .lst [.tup [.int 1, .int 0, .int 0, .int 0]], .tup (List.replicate 7 gA), gA, .str "turns", .int 0, .dct] ++ (OL.map (fun o => .tup [gA, o]) ++ OL.map (fun o => .tup [o]))
def EL : List D := [.tup [.tup [.int 2, .int 1, .int 0, .int 0]], .tup [gA, .tup [.int 3, .int 1, .int 0, .int 0]], .tup [.tup [.int 0, .int 1, .int 0, .int 0], .tup [.int 0, .int 2, .int 1, .int 0]]]
def WL : List D := [.non, .tup [.int 2], .tup [.int (-1)], .tup [.bl true], .lst [.int 0], .int 0, .tup (List.replicate 201 (.int 0)), .tup [.str "0"], .str "0", .tup [.non], .dct]
theorem nl_of {o x : D} (ho : o ∈ OL) (h : x ∈ NLo o) : x ∈ NL := by
  simp only [NLo, List.mem_cons, List.not_mem_nil, _root_.or_false] at h
  unfold NL
  rcases h with rfl | rfl | rfl | rfl | rfl | rfl | rfl | rfl | rfl | rfl
  · exact List.mem_append_left _ (by simp)
  · exact List.mem_append_left _ (by simp)
  · exact List.mem_append_right _ (List.mem_append_right _ (List.mem_map_of_mem ho))
  · exact List.mem_append_left _ (by simp)
  · exact List.mem_append_right _ (List.mem_append_left _ (List.mem_map_of_mem ho))
  · exact List.mem_append_left _ (by simp)
  · exact List.mem_append_left _ (by simp)
  · exact List.mem_append_left _ (by simp)
  · exact List.mem_append_left _ (by simp)
  · exact List.mem_append_left _ (by simp)
def st4 : IS := (.asg (.tup (.cons (.nm 5) (.cons (.nm 6) (.cons (.nm 7) .nil)))) (.tupE (.cons (.tupE (.cons (.tupE (.cons (.cst (.int (1))) (.cons (.cst (.int (0))) (.cons (.cst (.int (0))) (.cons (.cst (.int (1))) .nil))))) (.cons (.tupE (.cons (.cst (.int (0))) (.cons (.cst (.int (1))) (.cons (.cst (.int (0))) (.cons (.cst (.int (0))) .nil))))) .nil))) (.cons (.lstE true .nil) (.cons (.lstE true .nil) .nil)))))
theorem s4 (c0 : List D) (odd : D) (non' : D) (ends : D) (row : D) : evS cfR st4 [some (.ref 0), some odd, some non', some ends, some row, none, none, none, none, none] [c0] = .nx [some (.ref 0), some odd, some non', some ends, some row, some (.tup [(.tup [(.int (1)), (.int (0)), (.int (0)), (.int (1))]), (.tup [(.int (0)), (.int (1)), (.int (0)), (.int (0))])]), some (.ref 1), some (.ref 2), none, none] [c0, [], []] := by kernel_rfl
def st5 : IS := (.forS (.nm 8) (.seq (.tupE (.cons (.cst (.gl 26)) (.cons (.cst (.gl 27)) .nil)))) (.cons (.expr (.meth .append (.var 6) (.cons (.lamF (some "told") [(45, "place"), (46, "mark"), (47, "turn"), (48, "land"), (50, "row")] (.callL 8 [(26, [.arg 0]), (27, [.arg 0]), (29, [.arg 0]), (31, [.arg 0]), (32, [.arg 0]), (33, [.arg 0]), (35, [.arg 0]), (36, [.arg 0])] (.cons (.var 1) .nil))) .nil))) (.cons (.expr (.meth .append (.var 7) (.cons (.cst (.str "turn")) .nil))) .nil)))
theorem s5 (c0 : List D) (non' : D) (ends : D) (row : D) : ∀ odd ∈ OL, evS cfR st5 [some (.ref 0), some odd, some non', some ends, some row, some (.tup [(.tup [(.int (1)), (.int (0)), (.int (0)), (.int (1))]), (.tup [(.int (0)), (.int (1)), (.int (0)), (.int (0))])]), some (.ref 1), some (.ref 2), none, none] [c0, [], []] = .nx [some (.ref 0), some odd, some non', some ends, some row, some (.tup [(.tup [(.int (1)), (.int (0)), (.int (0)), (.int (1))]), (.tup [(.int (0)), (.int (1)), (.int (0)), (.int (0))])]), some (.ref 1), some (.ref 2), some (.gl 27), none] [c0, [(.str "turn"), (.str "turn")], [(.str "turn"), (.str "turn")]] := of_mapR (f := fun odd => evS cfR st5 [some (.ref 0), some odd, some non', some ends, some row, some (.tup [(.tup [(.int (1)), (.int (0)), (.int (0)), (.int (1))]), (.tup [(.int (0)), (.int (1)), (.int (0)), (.int (0))])]), some (.ref 1), some (.ref 2), none, none] [c0, [], []]) (g := fun odd => .nx [some (.ref 0), some odd, some non', some ends, some row, some (.tup [(.tup [(.int (1)), (.int (0)), (.int (0)), (.int (1))]), (.tup [(.int (0)), (.int (1)), (.int (0)), (.int (0))])]), some (.ref 1), some (.ref 2), some (.gl 27), none] [c0, [(.str "turn"), (.str "turn")], [(.str "turn"), (.str "turn")]]) (by kernel_rfl)
def st6 : IS := (.expr (.meth .append (.var 6) (.cons (.lamF (some "told") [(45, "place"), (46, "mark"), (47, "turn"), (48, "land"), (50, "row")] (.callF 27 [.arg 0] (.cons (.tupE (.cons (.cst (.int (1))) (.cons (.cst (.int (0))) (.cons (.cst (.int (0))) (.cons (.cst (.int (0))) .nil))))) .nil))) .nil)))
theorem s6 (c0 : List D) (odd : D) (non' : D) (ends : D) (row : D) : evS cfR st6 [some (.ref 0), some odd, some non', some ends, some row, some (.tup [(.tup [(.int (1)), (.int (0)), (.int (0)), (.int (1))]), (.tup [(.int (0)), (.int (1)), (.int (0)), (.int (0))])]), some (.ref 1), some (.ref 2), some (.gl 27), none] [c0, [(.str "turn"), (.str "turn")], [(.str "turn"), (.str "turn")]] = .nx [some (.ref 0), some odd, some non', some ends, some row, some (.tup [(.tup [(.int (1)), (.int (0)), (.int (0)), (.int (1))]), (.tup [(.int (0)), (.int (1)), (.int (0)), (.int (0))])]), some (.ref 1), some (.ref 2), some (.gl 27), none] [c0, [(.str "turn"), (.str "turn"), (.str "turn")], [(.str "turn"), (.str "turn")]] := by kernel_rfl
def st7 : IS := (.expr (.meth .append (.var 6) (.cons (.lamF (some "told") [(45, "place"), (46, "mark"), (47, "turn"), (48, "land"), (50, "row")] (.callF 28 [.arg 0, .arg 1] (.cons (.var 2) (.cons (.var 4) .nil)))) .nil)))
theorem s7 (c0 : List D) (odd : D) (ends : D) : ∀ non' ∈ NL, ∀ row ∈ WL, evS cfR st7 [some (.ref 0), some odd, some non', some ends, some row, some (.tup [(.tup [(.int (1)), (.int (0)), (.int (0)), (.int (1))]), (.tup [(.int (0)), (.int (1)), (.int (0)), (.int (0))])]), some (.ref 1), some (.ref 2), some (.gl 27), none] [c0, [(.str "turn"), (.str "turn"), (.str "turn")], [(.str "turn"), (.str "turn")]] = .nx [some (.ref 0), some odd, some non', some ends, some row, some (.tup [(.tup [(.int (1)), (.int (0)), (.int (0)), (.int (1))]), (.tup [(.int (0)), (.int (1)), (.int (0)), (.int (0))])]), some (.ref 1), some (.ref 2), some (.gl 27), none] [c0, [(.str "turn"), (.str "turn"), (.str "turn"), (.str "row")], [(.str "turn"), (.str "turn")]] := of_mapR2 (f := fun non' row => evS cfR st7 [some (.ref 0), some odd, some non', some ends, some row, some (.tup [(.tup [(.int (1)), (.int (0)), (.int (0)), (.int (1))]), (.tup [(.int (0)), (.int (1)), (.int (0)), (.int (0))])]), some (.ref 1), some (.ref 2), some (.gl 27), none] [c0, [(.str "turn"), (.str "turn"), (.str "turn")], [(.str "turn"), (.str "turn")]]) (g := fun non' row => .nx [some (.ref 0), some odd, some non', some ends, some row, some (.tup [(.tup [(.int (1)), (.int (0)), (.int (0)), (.int (1))]), (.tup [(.int (0)), (.int (1)), (.int (0)), (.int (0))])]), some (.ref 1), some (.ref 2), some (.gl 27), none] [c0, [(.str "turn"), (.str "turn"), (.str "turn"), (.str "row")], [(.str "turn"), (.str "turn")]]) (by kernel_rfl)
def st8 : IS := (.expr (.meth .append (.var 6) (.cons (.lamF (some "told") [(45, "place"), (46, "mark"), (47, "turn"), (48, "land"), (50, "row")] (.callF 28 [.arg 0, .arg 1] (.cons (.var 5) (.cons (.var 4) .nil)))) .nil)))
theorem s8 (c0 : List D) (odd : D) (non' : D) (ends : D) : ∀ row ∈ WL, evS cfR st8 [some (.ref 0), some odd, some non', some ends, some row, some (.tup [(.tup [(.int (1)), (.int (0)), (.int (0)), (.int (1))]), (.tup [(.int (0)), (.int (1)), (.int (0)), (.int (0))])]), some (.ref 1), some (.ref 2), some (.gl 27), none] [c0, [(.str "turn"), (.str "turn"), (.str "turn"), (.str "row")], [(.str "turn"), (.str "turn")]] = .nx [some (.ref 0), some odd, some non', some ends, some row, some (.tup [(.tup [(.int (1)), (.int (0)), (.int (0)), (.int (1))]), (.tup [(.int (0)), (.int (1)), (.int (0)), (.int (0))])]), some (.ref 1), some (.ref 2), some (.gl 27), none] [c0, [(.str "turn"), (.str "turn"), (.str "turn"), (.str "row"), (.str "row")], [(.str "turn"), (.str "turn")]] := of_mapR (f := fun row => evS cfR st8 [some (.ref 0), some odd, some non', some ends, some row, some (.tup [(.tup [(.int (1)), (.int (0)), (.int (0)), (.int (1))]), (.tup [(.int (0)), (.int (1)), (.int (0)), (.int (0))])]), some (.ref 1), some (.ref 2), some (.gl 27), none] [c0, [(.str "turn"), (.str "turn"), (.str "turn"), (.str "row")], [(.str "turn"), (.str "turn")]]) (g := fun row => .nx [some (.ref 0), some odd, some non', some ends, some row, some (.tup [(.tup [(.int (1)), (.int (0)), (.int (0)), (.int (1))]), (.tup [(.int (0)), (.int (1)), (.int (0)), (.int (0))])]), some (.ref 1), some (.ref 2), some (.gl 27), none] [c0, [(.str "turn"), (.str "turn"), (.str "turn"), (.str "row"), (.str "row")], [(.str "turn"), (.str "turn")]]) (by kernel_rfl)
def st9 : IS := (.asg (.nm 7) (.lzip (.var 7) (.lstE false (.cons (.cst (.str "turn")) (.cons (.cst (.str "row")) (.cons (.cst (.str "row")) .nil))))))
theorem s9 (c0 : List D) (odd : D) (non' : D) (ends : D) (row : D) : evS cfR st9 [some (.ref 0), some odd, some non', some ends, some row, some (.tup [(.tup [(.int (1)), (.int (0)), (.int (0)), (.int (1))]), (.tup [(.int (0)), (.int (1)), (.int (0)), (.int (0))])]), some (.ref 1), some (.ref 2), some (.gl 27), none] [c0, [(.str "turn"), (.str "turn"), (.str "turn"), (.str "row"), (.str "row")], [(.str "turn"), (.str "turn")]] = .nx [some (.ref 0), some odd, some non', some ends, some row, some (.tup [(.tup [(.int (1)), (.int (0)), (.int (0)), (.int (1))]), (.tup [(.int (0)), (.int (1)), (.int (0)), (.int (0))])]), some (.ref 1), some (.ref 3), some (.gl 27), none] [c0, [(.str "turn"), (.str "turn"), (.str "turn"), (.str "row"), (.str "row")], [(.str "turn"), (.str "turn")], [(.str "turn"), (.str "turn"), (.str "turn"), (.str "row"), (.str "row")]] := by kernel_rfl
def st10 : IS := (.forS (.nm 8) (.seq (.tupE (.cons (.cst (.gl 29)) (.cons (.cst (.gl 31)) .nil)))) (.cons (.expr (.meth .append (.var 6) (.cons (.lamF (some "told") [(45, "place"), (46, "mark"), (47, "turn"), (48, "land"), (50, "row")] (.callL 8 [(26, [.arg 0]), (27, [.arg 0]), (29, [.arg 0]), (31, [.arg 0]), (32, [.arg 0]), (33, [.arg 0]), (35, [.arg 0]), (36, [.arg 0])] (.cons (.var 2) .nil))) .nil))) (.cons (.expr (.meth .append (.var 7) (.cons (.cst (.str "row")) .nil))) .nil)))
theorem s10 (c0 : List D) (odd : D) (ends : D) (row : D) : ∀ non' ∈ NL, evS cfR st10 [some (.ref 0), some odd, some non', some ends, some row, some (.tup [(.tup [(.int (1)), (.int (0)), (.int (0)), (.int (1))]), (.tup [(.int (0)), (.int (1)), (.int (0)), (.int (0))])]), some (.ref 1), some (.ref 3), some (.gl 27), none] [c0, [(.str "turn"), (.str "turn"), (.str "turn"), (.str "row"), (.str "row")], [(.str "turn"), (.str "turn")], [(.str "turn"), (.str "turn"), (.str "turn"), (.str "row"), (.str "row")]] = .nx [some (.ref 0), some odd, some non', some ends, some row, some (.tup [(.tup [(.int (1)), (.int (0)), (.int (0)), (.int (1))]), (.tup [(.int (0)), (.int (1)), (.int (0)), (.int (0))])]), some (.ref 1), some (.ref 3), some (.gl 31), none] [c0, [(.str "turn"), (.str "turn"), (.str "turn"), (.str "row"), (.str "row"), (.str "row"), (.str "row")], [(.str "turn"), (.str "turn")], [(.str "turn"), (.str "turn"), (.str "turn"), (.str "row"), (.str "row"), (.str "row"), (.str "row")]] := of_mapR (f := fun non' => evS cfR st10 [some (.ref 0), some odd, some non', some ends, some row, some (.tup [(.tup [(.int (1)), (.int (0)), (.int (0)), (.int (1))]), (.tup [(.int (0)), (.int (1)), (.int (0)), (.int (0))])]), some (.ref 1), some (.ref 3), some (.gl 27), none] [c0, [(.str "turn"), (.str "turn"), (.str "turn"), (.str "row"), (.str "row")], [(.str "turn"), (.str "turn")], [(.str "turn"), (.str "turn"), (.str "turn"), (.str "row"), (.str "row")]]) (g := fun non' => .nx [some (.ref 0), some odd, some non', some ends, some row, some (.tup [(.tup [(.int (1)), (.int (0)), (.int (0)), (.int (1))]), (.tup [(.int (0)), (.int (1)), (.int (0)), (.int (0))])]), some (.ref 1), some (.ref 3), some (.gl 31), none] [c0, [(.str "turn"), (.str "turn"), (.str "turn"), (.str "row"), (.str "row"), (.str "row"), (.str "row")], [(.str "turn"), (.str "turn")], [(.str "turn"), (.str "turn"), (.str "turn"), (.str "row"), (.str "row"), (.str "row"), (.str "row")]]) (by kernel_rfl)
def st11 : IS := (.expr (.meth .append (.var 6) (.cons (.lamF (some "told") [(45, "place"), (46, "mark"), (47, "turn"), (48, "land"), (50, "row")] (.callF 30 [.arg 0, .arg 1] (.cons (.var 2) (.cons (.cst .non) .nil)))) .nil)))
theorem s11 (c0 : List D) (odd : D) (ends : D) (row : D) : ∀ non' ∈ NL, evS cfR st11 [some (.ref 0), some odd, some non', some ends, some row, some (.tup [(.tup [(.int (1)), (.int (0)), (.int (0)), (.int (1))]), (.tup [(.int (0)), (.int (1)), (.int (0)), (.int (0))])]), some (.ref 1), some (.ref 3), some (.gl 31), none] [c0, [(.str "turn"), (.str "turn"), (.str "turn"), (.str "row"), (.str "row"), (.str "row"), (.str "row")], [(.str "turn"), (.str "turn")], [(.str "turn"), (.str "turn"), (.str "turn"), (.str "row"), (.str "row"), (.str "row"), (.str "row")]] = .nx [some (.ref 0), some odd, some non', some ends, some row, some (.tup [(.tup [(.int (1)), (.int (0)), (.int (0)), (.int (1))]), (.tup [(.int (0)), (.int (1)), (.int (0)), (.int (0))])]), some (.ref 1), some (.ref 3), some (.gl 31), none] [c0, [(.str "turn"), (.str "turn"), (.str "turn"), (.str "row"), (.str "row"), (.str "row"), (.str "row"), (.str "row")], [(.str "turn"), (.str "turn")], [(.str "turn"), (.str "turn"), (.str "turn"), (.str "row"), (.str "row"), (.str "row"), (.str "row")]] := of_mapR (f := fun non' => evS cfR st11 [some (.ref 0), some odd, some non', some ends, some row, some (.tup [(.tup [(.int (1)), (.int (0)), (.int (0)), (.int (1))]), (.tup [(.int (0)), (.int (1)), (.int (0)), (.int (0))])]), some (.ref 1), some (.ref 3), some (.gl 31), none] [c0, [(.str "turn"), (.str "turn"), (.str "turn"), (.str "row"), (.str "row"), (.str "row"), (.str "row")], [(.str "turn"), (.str "turn")], [(.str "turn"), (.str "turn"), (.str "turn"), (.str "row"), (.str "row"), (.str "row"), (.str "row")]]) (g := fun non' => .nx [some (.ref 0), some odd, some non', some ends, some row, some (.tup [(.tup [(.int (1)), (.int (0)), (.int (0)), (.int (1))]), (.tup [(.int (0)), (.int (1)), (.int (0)), (.int (0))])]), some (.ref 1), some (.ref 3), some (.gl 31), none] [c0, [(.str "turn"), (.str "turn"), (.str "turn"), (.str "row"), (.str "row"), (.str "row"), (.str "row"), (.str "row")], [(.str "turn"), (.str "turn")], [(.str "turn"), (.str "turn"), (.str "turn"), (.str "row"), (.str "row"), (.str "row"), (.str "row")]]) (by kernel_rfl)
def st12 : IS := (.expr (.meth .append (.var 7) (.cons (.cst (.str "row")) .nil)))
theorem s12 (c0 : List D) (odd : D) (non' : D) (ends : D) (row : D) : evS cfR st12 [some (.ref 0), some odd, some non', some ends, some row, some (.tup [(.tup [(.int (1)), (.int (0)), (.int (0)), (.int (1))]), (.tup [(.int (0)), (.int (1)), (.int (0)), (.int (0))])]), some (.ref 1), some (.ref 3), some (.gl 31), none] [c0, [(.str "turn"), (.str "turn"), (.str "turn"), (.str "row"), (.str "row"), (.str "row"), (.str "row"), (.str "row")], [(.str "turn"), (.str "turn")], [(.str "turn"), (.str "turn"), (.str "turn"), (.str "row"), (.str "row"), (.str "row"), (.str "row")]] = .nx [some (.ref 0), some odd, some non', some ends, some row, some (.tup [(.tup [(.int (1)), (.int (0)), (.int (0)), (.int (1))]), (.tup [(.int (0)), (.int (1)), (.int (0)), (.int (0))])]), some (.ref 1), some (.ref 3), some (.gl 31), none] [c0, [(.str "turn"), (.str "turn"), (.str "turn"), (.str "row"), (.str "row"), (.str "row"), (.str "row"), (.str "row")], [(.str "turn"), (.str "turn")], [(.str "turn"), (.str "turn"), (.str "turn"), (.str "row"), (.str "row"), (.str "row"), (.str "row"), (.str "row")]] := by kernel_rfl
def st13 : IS := (.forS (.nm 8) (.seq (.tupE (.cons (.cst (.gl 32)) (.cons (.cst (.gl 33)) (.cons (.cst (.gl 35)) (.cons (.cst (.gl 36)) .nil)))))) (.cons (.expr (.meth .append (.var 6) (.cons (.lamF (some "told") [(45, "place"), (46, "mark"), (47, "turn"), (48, "land"), (50, "row")] (.callL 8 [(26, [.arg 0]), (27, [.arg 0]), (29, [.arg 0]), (31, [.arg 0]), (32, [.arg 0]), (33, [.arg 0]), (35, [.arg 0]), (36, [.arg 0])] (.cons (.var 2) .nil))) .nil))) (.cons (.expr (.meth .append (.var 6) (.cons (.lamF (some "told") [(45, "place"), (46, "mark"), (47, "turn"), (48, "land"), (50, "row")] (.callL 8 [(26, [.arg 0]), (27, [.arg 0]), (29, [.arg 0]), (31, [.arg 0]), (32, [.arg 0]), (33, [.arg 0]), (35, [.arg 0]), (36, [.arg 0])] (.cons (.var 3) .nil))) .nil))) (.cons (.asg (.nm 7) (.lzip (.var 7) (.lstE false (.cons (.cst (.str "row")) (.cons (.cst (.str "row")) .nil))))) .nil))))
theorem s13 (c0 : List D) (odd : D) (row : D) : ∀ non' ∈ NL, ∀ ends ∈ EL, evS cfR st13 [some (.ref 0), some odd, some non', some ends, some row, some (.tup [(.tup [(.int (1)), (.int (0)), (.int (0)), (.int (1))]), (.tup [(.int (0)), (.int (1)), (.int (0)), (.int (0))])]), some (.ref 1), some (.ref 3), some (.gl 31), none] [c0, [(.str "turn"), (.str "turn"), (.str "turn"), (.str "row"), (.str "row"), (.str "row"), (.str "row"), (.str "row")], [(.str "turn"), (.str "turn")], [(.str "turn"), (.str "turn"), (.str "turn"), (.str "row"), (.str "row"), (.str "row"), (.str "row"), (.str "row")]] = .nx [some (.ref 0), some odd, some non', some ends, some row, some (.tup [(.tup [(.int (1)), (.int (0)), (.int (0)), (.int (1))]), (.tup [(.int (0)), (.int (1)), (.int (0)), (.int (0))])]), some (.ref 1), some (.ref 7), some (.gl 36), none] [c0, [(.str "turn"), (.str "turn"), (.str "turn"), (.str "row"), (.str "row"), (.str "row"), (.str "row"), (.str "row"), (.str "row"), (.str "row"), (.str "row"), (.str "row"), (.str "row"), (.str "row"), (.str "row"), (.str "row")], [(.str "turn"), (.str "turn")], [(.str "turn"), (.str "turn"), (.str "turn"), (.str "row"), (.str "row"), (.str "row"), (.str "row"), (.str "row")], [(.str "turn"), (.str "turn"), (.str "turn"), (.str "row"), (.str "row"), (.str "row"), (.str "row"), (.str "row"), (.str "row"), (.str "row")], [(.str "turn"), (.str "turn"), (.str "turn"), (.str "row"), (.str "row"), (.str "row"), (.str "row"), (.str "row"), (.str "row"), (.str "row"), (.str "row"), (.str "row")], [(.str "turn"), (.str "turn"), (.str "turn"), (.str "row"), (.str "row"), (.str "row"), (.str "row"), (.str "row"), (.str "row"), (.str "row"), (.str "row"), (.str "row"), (.str "row"), (.str "row")], [(.str "turn"), (.str "turn"), (.str "turn"), (.str "row"), (.str "row"), (.str "row"), (.str "row"), (.str "row"), (.str "row"), (.str "row"), (.str "row"), (.str "row"), (.str "row"), (.str "row"), (.str "row"), (.str "row")]] := of_mapR2 (f := fun non' ends => evS cfR st13 [some (.ref 0), some odd, some non', some ends, some row, some (.tup [(.tup [(.int (1)), (.int (0)), (.int (0)), (.int (1))]), (.tup [(.int (0)), (.int (1)), (.int (0)), (.int (0))])]), some (.ref 1), some (.ref 3), some (.gl 31), none] [c0, [(.str "turn"), (.str "turn"), (.str "turn"), (.str "row"), (.str "row"), (.str "row"), (.str "row"), (.str "row")], [(.str "turn"), (.str "turn")], [(.str "turn"), (.str "turn"), (.str "turn"), (.str "row"), (.str "row"), (.str "row"), (.str "row"), (.str "row")]]) (g := fun non' ends => .nx [some (.ref 0), some odd, some non', some ends, some row, some (.tup [(.tup [(.int (1)), (.int (0)), (.int (0)), (.int (1))]), (.tup [(.int (0)), (.int (1)), (.int (0)), (.int (0))])]), some (.ref 1), some (.ref 7), some (.gl 36), none] [c0, [(.str "turn"), (.str "turn"), (.str "turn"), (.str "row"), (.str "row"), (.str "row"), (.str "row"), (.str "row"), (.str "row"), (.str "row"), (.str "row"), (.str "row"), (.str "row"), (.str "row"), (.str "row"), (.str "row")], [(.str "turn"), (.str "turn")], [(.str "turn"), (.str "turn"), (.str "turn"), (.str "row"), (.str "row"), (.str "row"), (.str "row"), (.str "row")], [(.str "turn"), (.str "turn"), (.str "turn"), (.str "row"), (.str "row"), (.str "row"), (.str "row"), (.str "row"), (.str "row"), (.str "row")], [(.str "turn"), (.str "turn"), (.str "turn"), (.str "row"), (.str "row"), (.str "row"), (.str "row"), (.str "row"), (.str "row"), (.str "row"), (.str "row"), (.str "row")], [(.str "turn"), (.str "turn"), (.str "turn"), (.str "row"), (.str "row"), (.str "row"), (.str "row"), (.str "row"), (.str "row"), (.str "row"), (.str "row"), (.str "row"), (.str "row"), (.str "row")], [(.str "turn"), (.str "turn"), (.str "turn"), (.str "row"), (.str "row"), (.str "row"), (.str "row"), (.str "row"), (.str "row"), (.str "row"), (.str "row"), (.str "row"), (.str "row"), (.str "row"), (.str "row"), (.str "row")]]) (by kernel_rfl)
def st14 : IS := (.expr (.meth .append (.var 6) (.cons (.lamF (some "told") [(45, "place"), (46, "mark"), (47, "turn"), (48, "land"), (50, "row")] (.callF 37 [.arg 0, .arg 1] (.cons (.var 2) (.cons (.var 5) .nil)))) .nil)))
theorem s14 (c0 : List D) (odd : D) (ends : D) (row : D) : ∀ non' ∈ NL, evS cfR st14 [some (.ref 0), some odd, some non', some ends, some row, some (.tup [(.tup [(.int (1)), (.int (0)), (.int (0)), (.int (1))]), (.tup [(.int (0)), (.int (1)), (.int (0)), (.int (0))])]), some (.ref 1), some (.ref 7), some (.gl 36), none] [c0, [(.str "turn"), (.str "turn"), (.str "turn"), (.str "row"), (.str "row"), (.str "row"), (.str "row"), (.str "row"), (.str "row"), (.str "row"), (.str "row"), (.str "row"), (.str "row"), (.str "row"), (.str "row"), (.str "row")], [(.str "turn"), (.str "turn")], [(.str "turn"), (.str "turn"), (.str "turn"), (.str "row"), (.str "row"), (.str "row"), (.str "row"), (.str "row")], [(.str "turn"), (.str "turn"), (.str "turn"), (.str "row"), (.str "row"), (.str "row"), (.str "row"), (.str "row"), (.str "row"), (.str "row")], [(.str "turn"), (.str "turn"), (.str "turn"), (.str "row"), (.str "row"), (.str "row"), (.str "row"), (.str "row"), (.str "row"), (.str "row"), (.str "row"), (.str "row")], [(.str "turn"), (.str "turn"), (.str "turn"), (.str "row"), (.str "row"), (.str "row"), (.str "row"), (.str "row"), (.str "row"), (.str "row"), (.str "row"), (.str "row"), (.str "row"), (.str "row")], [(.str "turn"), (.str "turn"), (.str "turn"), (.str "row"), (.str "row"), (.str "row"), (.str "row"), (.str "row"), (.str "row"), (.str "row"), (.str "row"), (.str "row"), (.str "row"), (.str "row"), (.str "row"), (.str "row")]] = .nx [some (.ref 0), some odd, some non', some ends, some row, some (.tup [(.tup [(.int (1)), (.int (0)), (.int (0)), (.int (1))]), (.tup [(.int (0)), (.int (1)), (.int (0)), (.int (0))])]), some (.ref 1), some (.ref 7), some (.gl 36), none] [c0, [(.str "turn"), (.str "turn"), (.str "turn"), (.str "row"), (.str "row"), (.str "row"), (.str "row"), (.str "row"), (.str "row"), (.str "row"), (.str "row"), (.str "row"), (.str "row"), (.str "row"), (.str "row"), (.str "row"), (.str "row")], [(.str "turn"), (.str "turn")], [(.str "turn"), (.str "turn"), (.str "turn"), (.str "row"), (.str "row"), (.str "row"), (.str "row"), (.str "row")], [(.str "turn"), (.str "turn"), (.str "turn"), (.str "row"), (.str "row"), (.str "row"), (.str "row"), (.str "row"), (.str "row"), (.str "row")], [(.str "turn"), (.str "turn"), (.str "turn"), (.str "row"), (.str "row"), (.str "row"), (.str "row"), (.str "row"), (.str "row"), (.str "row"), (.str "row"), (.str "row")], [(.str "turn"), (.str "turn"), (.str "turn"), (.str "row"), (.str "row"), (.str "row"), (.str "row"), (.str "row"), (.str "row"), (.str "row"), (.str "row"), (.str "row"), (.str "row"), (.str "row")], [(.str "turn"), (.str "turn"), (.str "turn"), (.str "row"), (.str "row"), (.str "row"), (.str "row"), (.str "row"), (.str "row"), (.str "row"), (.str "row"), (.str "row"), (.str "row"), (.str "row"), (.str "row"), (.str "row")]] := of_mapR (f := fun non' => evS cfR st14 [some (.ref 0), some odd, some non', some ends, some row, some (.tup [(.tup [(.int (1)), (.int (0)), (.int (0)), (.int (1))]), (.tup [(.int (0)), (.int (1)), (.int (0)), (.int (0))])]), some (.ref 1), some (.ref 7), some (.gl 36), none] [c0, [(.str "turn"), (.str "turn"), (.str "turn"), (.str "row"), (.str "row"), (.str "row"), (.str "row"), (.str "row"), (.str "row"), (.str "row"), (.str "row"), (.str "row"), (.str "row"), (.str "row"), (.str "row"), (.str "row")], [(.str "turn"), (.str "turn")], [(.str "turn"), (.str "turn"), (.str "turn"), (.str "row"), (.str "row"), (.str "row"), (.str "row"), (.str "row")], [(.str "turn"), (.str "turn"), (.str "turn"), (.str "row"), (.str "row"), (.str "row"), (.str "row"), (.str "row"), (.str "row"), (.str "row")], [(.str "turn"), (.str "turn"), (.str "turn"), (.str "row"), (.str "row"), (.str "row"), (.str "row"), (.str "row"), (.str "row"), (.str "row"), (.str "row"), (.str "row")], [(.str "turn"), (.str "turn"), (.str "turn"), (.str "row"), (.str "row"), (.str "row"), (.str "row"), (.str "row"), (.str "row"), (.str "row"), (.str "row"), (.str "row"), (.str "row"), (.str "row")], [(.str "turn"), (.str "turn"), (.str "turn"), (.str "row"), (.str "row"), (.str "row"), (.str "row"), (.str "row"), (.str "row"), (.str "row"), (.str "row"), (.str "row"), (.str "row"), (.str "row"), (.str "row"), (.str "row")]]) (g := fun non' => .nx [some (.ref 0), some odd, some non', some ends, some row, some (.tup [(.tup [(.int (1)), (.int (0)), (.int (0)), (.int (1))]), (.tup [(.int (0)), (.int (1)), (.int (0)), (.int (0))])]), some (.ref 1), some (.ref 7), some (.gl 36), none] [c0, [(.str "turn"), (.str "turn"), (.str "turn"), (.str "row"), (.str "row"), (.str "row"), (.str "row"), (.str "row"), (.str "row"), (.str "row"), (.str "row"), (.str "row"), (.str "row"), (.str "row"), (.str "row"), (.str "row"), (.str "row")], [(.str "turn"), (.str "turn")], [(.str "turn"), (.str "turn"), (.str "turn"), (.str "row"), (.str "row"), (.str "row"), (.str "row"), (.str "row")], [(.str "turn"), (.str "turn"), (.str "turn"), (.str "row"), (.str "row"), (.str "row"), (.str "row"), (.str "row"), (.str "row"), (.str "row")], [(.str "turn"), (.str "turn"), (.str "turn"), (.str "row"), (.str "row"), (.str "row"), (.str "row"), (.str "row"), (.str "row"), (.str "row"), (.str "row"), (.str "row")], [(.str "turn"), (.str "turn"), (.str "turn"), (.str "row"), (.str "row"), (.str "row"), (.str "row"), (.str "row"), (.str "row"), (.str "row"), (.str "row"), (.str "row"), (.str "row"), (.str "row")], [(.str "turn"), (.str "turn"), (.str "turn"), (.str "row"), (.str "row"), (.str "row"), (.str "row"), (.str "row"), (.str "row"), (.str "row"), (.str "row"), (.str "row"), (.str "row"), (.str "row"), (.str "row"), (.str "row")]]) (by kernel_rfl)
def st15 : IS := (.expr (.meth .append (.var 6) (.cons (.lamF (some "told") [(45, "place"), (46, "mark"), (47, "turn"), (48, "land"), (50, "row")] (.callF 37 [.arg 0, .arg 1] (.cons (.var 5) (.cons (.var 2) .nil)))) .nil)))
theorem s15 (c0 : List D) (odd : D) (ends : D) (row : D) : ∀ non' ∈ NL, evS cfR st15 [some (.ref 0), some odd, some non', some ends, some row, some (.tup [(.tup [(.int (1)), (.int (0)), (.int (0)), (.int (1))]), (.tup [(.int (0)), (.int (1)), (.int (0)), (.int (0))])]), some (.ref 1), some (.ref 7), some (.gl 36), none] [c0, [(.str "turn"), (.str "turn"), (.str "turn"), (.str "row"), (.str "row"), (.str "row"), (.str "row"), (.str "row"), (.str "row"), (.str "row"), (.str "row"), (.str "row"), (.str "row"), (.str "row"), (.str "row"), (.str "row"), (.str "row")], [(.str "turn"), (.str "turn")], [(.str "turn"), (.str "turn"), (.str "turn"), (.str "row"), (.str "row"), (.str "row"), (.str "row"), (.str "row")], [(.str "turn"), (.str "turn"), (.str "turn"), (.str "row"), (.str "row"), (.str "row"), (.str "row"), (.str "row"), (.str "row"), (.str "row")], [(.str "turn"), (.str "turn"), (.str "turn"), (.str "row"), (.str "row"), (.str "row"), (.str "row"), (.str "row"), (.str "row"), (.str "row"), (.str "row"), (.str "row")], [(.str "turn"), (.str "turn"), (.str "turn"), (.str "row"), (.str "row"), (.str "row"), (.str "row"), (.str "row"), (.str "row"), (.str "row"), (.str "row"), (.str "row"), (.str "row"), (.str "row")], [(.str "turn"), (.str "turn"), (.str "turn"), (.str "row"), (.str "row"), (.str "row"), (.str "row"), (.str "row"), (.str "row"), (.str "row"), (.str "row"), (.str "row"), (.str "row"), (.str "row"), (.str "row"), (.str "row")]] = .nx [some (.ref 0), some odd, some non', some ends, some row, some (.tup [(.tup [(.int (1)), (.int (0)), (.int (0)), (.int (1))]), (.tup [(.int (0)), (.int (1)), (.int (0)), (.int (0))])]), some (.ref 1), some (.ref 7), some (.gl 36), none] [c0, [(.str "turn"), (.str "turn"), (.str "turn"), (.str "row"), (.str "row"), (.str "row"), (.str "row"), (.str "row"), (.str "row"), (.str "row"), (.str "row"), (.str "row"), (.str "row"), (.str "row"), (.str "row"), (.str "row"), (.str "row"), (.str "row")], [(.str "turn"), (.str "turn")], [(.str "turn"), (.str "turn"), (.str "turn"), (.str "row"), (.str "row"), (.str "row"), (.str "row"), (.str "row")], [(.str "turn"), (.str "turn"), (.str "turn"), (.str "row"), (.str "row"), (.str "row"), (.str "row"), (.str "row"), (.str "row"), (.str "row")], [(.str "turn"), (.str "turn"), (.str "turn"), (.str "row"), (.str "row"), (.str "row"), (.str "row"), (.str "row"), (.str "row"), (.str "row"), (.str "row"), (.str "row")], [(.str "turn"), (.str "turn"), (.str "turn"), (.str "row"), (.str "row"), (.str "row"), (.str "row"), (.str "row"), (.str "row"), (.str "row"), (.str "row"), (.str "row"), (.str "row"), (.str "row")], [(.str "turn"), (.str "turn"), (.str "turn"), (.str "row"), (.str "row"), (.str "row"), (.str "row"), (.str "row"), (.str "row"), (.str "row"), (.str "row"), (.str "row"), (.str "row"), (.str "row"), (.str "row"), (.str "row")]] := of_mapR (f := fun non' => evS cfR st15 [some (.ref 0), some odd, some non', some ends, some row, some (.tup [(.tup [(.int (1)), (.int (0)), (.int (0)), (.int (1))]), (.tup [(.int (0)), (.int (1)), (.int (0)), (.int (0))])]), some (.ref 1), some (.ref 7), some (.gl 36), none] [c0, [(.str "turn"), (.str "turn"), (.str "turn"), (.str "row"), (.str "row"), (.str "row"), (.str "row"), (.str "row"), (.str "row"), (.str "row"), (.str "row"), (.str "row"), (.str "row"), (.str "row"), (.str "row"), (.str "row"), (.str "row")], [(.str "turn"), (.str "turn")], [(.str "turn"), (.str "turn"), (.str "turn"), (.str "row"), (.str "row"), (.str "row"), (.str "row"), (.str "row")], [(.str "turn"), (.str "turn"), (.str "turn"), (.str "row"), (.str "row"), (.str "row"), (.str "row"), (.str "row"), (.str "row"), (.str "row")], [(.str "turn"), (.str "turn"), (.str "turn"), (.str "row"), (.str "row"), (.str "row"), (.str "row"), (.str "row"), (.str "row"), (.str "row"), (.str "row"), (.str "row")], [(.str "turn"), (.str "turn"), (.str "turn"), (.str "row"), (.str "row"), (.str "row"), (.str "row"), (.str "row"), (.str "row"), (.str "row"), (.str "row"), (.str "row"), (.str "row"), (.str "row")], [(.str "turn"), (.str "turn"), (.str "turn"), (.str "row"), (.str "row"), (.str "row"), (.str "row"), (.str "row"), (.str "row"), (.str "row"), (.str "row"), (.str "row"), (.str "row"), (.str "row"), (.str "row"), (.str "row")]]) (g := fun non' => .nx [some (.ref 0), some odd, some non', some ends, some row, some (.tup [(.tup [(.int (1)), (.int (0)), (.int (0)), (.int (1))]), (.tup [(.int (0)), (.int (1)), (.int (0)), (.int (0))])]), some (.ref 1), some (.ref 7), some (.gl 36), none] [c0, [(.str "turn"), (.str "turn"), (.str "turn"), (.str "row"), (.str "row"), (.str "row"), (.str "row"), (.str "row"), (.str "row"), (.str "row"), (.str "row"), (.str "row"), (.str "row"), (.str "row"), (.str "row"), (.str "row"), (.str "row"), (.str "row")], [(.str "turn"), (.str "turn")], [(.str "turn"), (.str "turn"), (.str "turn"), (.str "row"), (.str "row"), (.str "row"), (.str "row"), (.str "row")], [(.str "turn"), (.str "turn"), (.str "turn"), (.str "row"), (.str "row"), (.str "row"), (.str "row"), (.str "row"), (.str "row"), (.str "row")], [(.str "turn"), (.str "turn"), (.str "turn"), (.str "row"), (.str "row"), (.str "row"), (.str "row"), (.str "row"), (.str "row"), (.str "row"), (.str "row"), (.str "row")], [(.str "turn"), (.str "turn"), (.str "turn"), (.str "row"), (.str "row"), (.str "row"), (.str "row"), (.str "row"), (.str "row"), (.str "row"), (.str "row"), (.str "row"), (.str "row"), (.str "row")], [(.str "turn"), (.str "turn"), (.str "turn"), (.str "row"), (.str "row"), (.str "row"), (.str "row"), (.str "row"), (.str "row"), (.str "row"), (.str "row"), (.str "row"), (.str "row"), (.str "row"), (.str "row"), (.str "row")]]) (by kernel_rfl)
def st16 : IS := (.ifS (.cmp .NotEq (.var 6) (.bin .Add (.var 7) (.lstE false (.cons (.cst (.str "row")) (.cons (.cst (.str "row")) .nil))))) (.cons (.ret (.cst (.bl false))) .nil) .nil)
theorem s16 (c0 : List D) (odd : D) (non' : D) (ends : D) (row : D) : evS cfR st16 [some (.ref 0), some odd, some non', some ends, some row, some (.tup [(.tup [(.int (1)), (.int (0)), (.int (0)), (.int (1))]), (.tup [(.int (0)), (.int (1)), (.int (0)), (.int (0))])]), some (.ref 1), some (.ref 7), some (.gl 36), none] [c0, [(.str "turn"), (.str "turn"), (.str "turn"), (.str "row"), (.str "row"), (.str "row"), (.str "row"), (.str "row"), (.str "row"), (.str "row"), (.str "row"), (.str "row"), (.str "row"), (.str "row"), (.str "row"), (.str "row"), (.str "row"), (.str "row")], [(.str "turn"), (.str "turn")], [(.str "turn"), (.str "turn"), (.str "turn"), (.str "row"), (.str "row"), (.str "row"), (.str "row"), (.str "row")], [(.str "turn"), (.str "turn"), (.str "turn"), (.str "row"), (.str "row"), (.str "row"), (.str "row"), (.str "row"), (.str "row"), (.str "row")], [(.str "turn"), (.str "turn"), (.str "turn"), (.str "row"), (.str "row"), (.str "row"), (.str "row"), (.str "row"), (.str "row"), (.str "row"), (.str "row"), (.str "row")], [(.str "turn"), (.str "turn"), (.str "turn"), (.str "row"), (.str "row"), (.str "row"), (.str "row"), (.str "row"), (.str "row"), (.str "row"), (.str "row"), (.str "row"), (.str "row"), (.str "row")], [(.str "turn"), (.str "turn"), (.str "turn"), (.str "row"), (.str "row"), (.str "row"), (.str "row"), (.str "row"), (.str "row"), (.str "row"), (.str "row"), (.str "row"), (.str "row"), (.str "row"), (.str "row"), (.str "row")]] = .nx [some (.ref 0), some odd, some non', some ends, some row, some (.tup [(.tup [(.int (1)), (.int (0)), (.int (0)), (.int (1))]), (.tup [(.int (0)), (.int (1)), (.int (0)), (.int (0))])]), some (.ref 1), some (.ref 7), some (.gl 36), none] [c0, [(.str "turn"), (.str "turn"), (.str "turn"), (.str "row"), (.str "row"), (.str "row"), (.str "row"), (.str "row"), (.str "row"), (.str "row"), (.str "row"), (.str "row"), (.str "row"), (.str "row"), (.str "row"), (.str "row"), (.str "row"), (.str "row")], [(.str "turn"), (.str "turn")], [(.str "turn"), (.str "turn"), (.str "turn"), (.str "row"), (.str "row"), (.str "row"), (.str "row"), (.str "row")], [(.str "turn"), (.str "turn"), (.str "turn"), (.str "row"), (.str "row"), (.str "row"), (.str "row"), (.str "row"), (.str "row"), (.str "row")], [(.str "turn"), (.str "turn"), (.str "turn"), (.str "row"), (.str "row"), (.str "row"), (.str "row"), (.str "row"), (.str "row"), (.str "row"), (.str "row"), (.str "row")], [(.str "turn"), (.str "turn"), (.str "turn"), (.str "row"), (.str "row"), (.str "row"), (.str "row"), (.str "row"), (.str "row"), (.str "row"), (.str "row"), (.str "row"), (.str "row"), (.str "row")], [(.str "turn"), (.str "turn"), (.str "turn"), (.str "row"), (.str "row"), (.str "row"), (.str "row"), (.str "row"), (.str "row"), (.str "row"), (.str "row"), (.str "row"), (.str "row"), (.str "row"), (.str "row"), (.str "row")]] := by kernel_rfl
def st17 : IS := (.ifS (.orE (.cmp .IsNot (.callF 37 [.arg 0, .arg 1] (.cons (.var 5) (.cons (.var 3) .nil))) (.cst (.bl false))) (.cmp .IsNot (.callF 37 [.arg 0, .arg 1] (.cons (.var 3) (.cons (.var 3) .nil))) (.cst (.bl false)))) (.cons (.ret (.cst (.bl false))) .nil) .nil)
theorem s17 (c0 : List D) (odd : D) (non' : D) (row : D) : ∀ ends ∈ EL, evS cfR st17 [some (.ref 0), some odd, some non', some ends, some row, some (.tup [(.tup [(.int (1)), (.int (0)), (.int (0)), (.int (1))]), (.tup [(.int (0)), (.int (1)), (.int (0)), (.int (0))])]), some (.ref 1), some (.ref 7), some (.gl 36), none] [c0, [(.str "turn"), (.str "turn"), (.str "turn"), (.str "row"), (.str "row"), (.str "row"), (.str "row"), (.str "row"), (.str "row"), (.str "row"), (.str "row"), (.str "row"), (.str "row"), (.str "row"), (.str "row"), (.str "row"), (.str "row"), (.str "row")], [(.str "turn"), (.str "turn")], [(.str "turn"), (.str "turn"), (.str "turn"), (.str "row"), (.str "row"), (.str "row"), (.str "row"), (.str "row")], [(.str "turn"), (.str "turn"), (.str "turn"), (.str "row"), (.str "row"), (.str "row"), (.str "row"), (.str "row"), (.str "row"), (.str "row")], [(.str "turn"), (.str "turn"), (.str "turn"), (.str "row"), (.str "row"), (.str "row"), (.str "row"), (.str "row"), (.str "row"), (.str "row"), (.str "row"), (.str "row")], [(.str "turn"), (.str "turn"), (.str "turn"), (.str "row"), (.str "row"), (.str "row"), (.str "row"), (.str "row"), (.str "row"), (.str "row"), (.str "row"), (.str "row"), (.str "row"), (.str "row")], [(.str "turn"), (.str "turn"), (.str "turn"), (.str "row"), (.str "row"), (.str "row"), (.str "row"), (.str "row"), (.str "row"), (.str "row"), (.str "row"), (.str "row"), (.str "row"), (.str "row"), (.str "row"), (.str "row")]] = .nx [some (.ref 0), some odd, some non', some ends, some row, some (.tup [(.tup [(.int (1)), (.int (0)), (.int (0)), (.int (1))]), (.tup [(.int (0)), (.int (1)), (.int (0)), (.int (0))])]), some (.ref 1), some (.ref 7), some (.gl 36), none] [c0, [(.str "turn"), (.str "turn"), (.str "turn"), (.str "row"), (.str "row"), (.str "row"), (.str "row"), (.str "row"), (.str "row"), (.str "row"), (.str "row"), (.str "row"), (.str "row"), (.str "row"), (.str "row"), (.str "row"), (.str "row"), (.str "row")], [(.str "turn"), (.str "turn")], [(.str "turn"), (.str "turn"), (.str "turn"), (.str "row"), (.str "row"), (.str "row"), (.str "row"), (.str "row")], [(.str "turn"), (.str "turn"), (.str "turn"), (.str "row"), (.str "row"), (.str "row"), (.str "row"), (.str "row"), (.str "row"), (.str "row")], [(.str "turn"), (.str "turn"), (.str "turn"), (.str "row"), (.str "row"), (.str "row"), (.str "row"), (.str "row"), (.str "row"), (.str "row"), (.str "row"), (.str "row")], [(.str "turn"), (.str "turn"), (.str "turn"), (.str "row"), (.str "row"), (.str "row"), (.str "row"), (.str "row"), (.str "row"), (.str "row"), (.str "row"), (.str "row"), (.str "row"), (.str "row")], [(.str "turn"), (.str "turn"), (.str "turn"), (.str "row"), (.str "row"), (.str "row"), (.str "row"), (.str "row"), (.str "row"), (.str "row"), (.str "row"), (.str "row"), (.str "row"), (.str "row"), (.str "row"), (.str "row")]] := of_mapR (f := fun ends => evS cfR st17 [some (.ref 0), some odd, some non', some ends, some row, some (.tup [(.tup [(.int (1)), (.int (0)), (.int (0)), (.int (1))]), (.tup [(.int (0)), (.int (1)), (.int (0)), (.int (0))])]), some (.ref 1), some (.ref 7), some (.gl 36), none] [c0, [(.str "turn"), (.str "turn"), (.str "turn"), (.str "row"), (.str "row"), (.str "row"), (.str "row"), (.str "row"), (.str "row"), (.str "row"), (.str "row"), (.str "row"), (.str "row"), (.str "row"), (.str "row"), (.str "row"), (.str "row"), (.str "row")], [(.str "turn"), (.str "turn")], [(.str "turn"), (.str "turn"), (.str "turn"), (.str "row"), (.str "row"), (.str "row"), (.str "row"), (.str "row")], [(.str "turn"), (.str "turn"), (.str "turn"), (.str "row"), (.str "row"), (.str "row"), (.str "row"), (.str "row"), (.str "row"), (.str "row")], [(.str "turn"), (.str "turn"), (.str "turn"), (.str "row"), (.str "row"), (.str "row"), (.str "row"), (.str "row"), (.str "row"), (.str "row"), (.str "row"), (.str "row")], [(.str "turn"), (.str "turn"), (.str "turn"), (.str "row"), (.str "row"), (.str "row"), (.str "row"), (.str "row"), (.str "row"), (.str "row"), (.str "row"), (.str "row"), (.str "row"), (.str "row")], [(.str "turn"), (.str "turn"), (.str "turn"), (.str "row"), (.str "row"), (.str "row"), (.str "row"), (.str "row"), (.str "row"), (.str "row"), (.str "row"), (.str "row"), (.str "row"), (.str "row"), (.str "row"), (.str "row")]]) (g := fun ends => .nx [some (.ref 0), some odd, some non', some ends, some row, some (.tup [(.tup [(.int (1)), (.int (0)), (.int (0)), (.int (1))]), (.tup [(.int (0)), (.int (1)), (.int (0)), (.int (0))])]), some (.ref 1), some (.ref 7), some (.gl 36), none] [c0, [(.str "turn"), (.str "turn"), (.str "turn"), (.str "row"), (.str "row"), (.str "row"), (.str "row"), (.str "row"), (.str "row"), (.str "row"), (.str "row"), (.str "row"), (.str "row"), (.str "row"), (.str "row"), (.str "row"), (.str "row"), (.str "row")], [(.str "turn"), (.str "turn")], [(.str "turn"), (.str "turn"), (.str "turn"), (.str "row"), (.str "row"), (.str "row"), (.str "row"), (.str "row")], [(.str "turn"), (.str "turn"), (.str "turn"), (.str "row"), (.str "row"), (.str "row"), (.str "row"), (.str "row"), (.str "row"), (.str "row")], [(.str "turn"), (.str "turn"), (.str "turn"), (.str "row"), (.str "row"), (.str "row"), (.str "row"), (.str "row"), (.str "row"), (.str "row"), (.str "row"), (.str "row")], [(.str "turn"), (.str "turn"), (.str "turn"), (.str "row"), (.str "row"), (.str "row"), (.str "row"), (.str "row"), (.str "row"), (.str "row"), (.str "row"), (.str "row"), (.str "row"), (.str "row")], [(.str "turn"), (.str "turn"), (.str "turn"), (.str "row"), (.str "row"), (.str "row"), (.str "row"), (.str "row"), (.str "row"), (.str "row"), (.str "row"), (.str "row"), (.str "row"), (.str "row"), (.str "row"), (.str "row")]]) (by kernel_rfl)
def it18 : II := (.seq (.lstE false (.cons (.var 1) (.cons (.var 2) (.cons (.var 4) (.cons .dctE (.cons (.lstE false (.cons (.lstE false .nil) .nil)) (.cons .dctE (.cons (.tupE (.cons (.cst (.str "finite")) (.cons .dctE .nil))) (.cons (.tupE (.cons (.cst (.str "finite")) (.cons (.tupE (.cons .dctE .nil)) .nil))) (.cons (.tupE (.cons (.cst (.str "finite")) (.cons (.tupE (.cons (.cst .non) .nil)) .nil))) (.cons (.tupE (.cons (.cst (.str "endless")) (.cons .dctE .nil))) (.cons (.tupE (.cons (.cst (.str "endless")) (.cons (.tupE (.cons .dctE .nil)) .nil))) (.cons (.tupE (.cons (.cst (.int (0))) (.cons (.cst (.int (1))) .nil))) .nil))))))))))))))
def lb18 : ISs := (.cons (.ifS (.orE (.cmp .NotEq (.lamF (some "told") [(45, "place"), (46, "mark"), (47, "turn"), (48, "land"), (50, "row")] (.callF 30 [.arg 0, .arg 1] (.cons (.var 5) (.cons (.var 9) .nil)))) (.tupE (.cons (.cst (.str "told")) (.cons (.cst (.bl false)) .nil)))) (.cmp .NotEq (.lamF (some "told") [(45, "place"), (46, "mark"), (47, "turn"), (48, "land"), (50, "row")] (.callF 34 [.arg 0] (.cons (.var 9) .nil))) (.tupE (.cons (.cst (.str "told")) (.cons (.cst (.bl false)) .nil))))) (.cons (.ret (.cst (.bl false))) .nil) .nil) .nil)
def st18 : IS := .forS (.nm 9) it18 lb18
def CL : List D := [.dct, .lst [.lst []], .dct, .tup [.str "finite", .dct], .tup [.str "finite", .tup [.dct]], .tup [.str "finite", .tup [.non]], .tup [.str "endless", .dct], .tup [.str "endless", .tup [.dct]], .tup [.int 0, .int 1]]
theorem lp18 (S : Store) (odd non' ends row : D) : ∀ v ∈ OL ++ (NL ++ (WL ++ CL)), evSs cfR lb18 [some (.ref 0), some odd, some non', some ends, some row, some (.tup [(.tup [(.int (1)), (.int (0)), (.int (0)), (.int (1))]), (.tup [(.int (0)), (.int (1)), (.int (0)), (.int (0))])]), some (.ref 1), some (.ref 7), some (.gl 36), some v] S = .nx [some (.ref 0), some odd, some non', some ends, some row, some (.tup [(.tup [(.int (1)), (.int (0)), (.int (0)), (.int (1))]), (.tup [(.int (0)), (.int (1)), (.int (0)), (.int (0))])]), some (.ref 1), some (.ref 7), some (.gl 36), some v] S := of_mapR (f := fun v => evSs cfR lb18 [some (.ref 0), some odd, some non', some ends, some row, some (.tup [(.tup [(.int (1)), (.int (0)), (.int (0)), (.int (1))]), (.tup [(.int (0)), (.int (1)), (.int (0)), (.int (0))])]), some (.ref 1), some (.ref 7), some (.gl 36), some v] S) (g := fun v => .nx [some (.ref 0), some odd, some non', some ends, some row, some (.tup [(.tup [(.int (1)), (.int (0)), (.int (0)), (.int (1))]), (.tup [(.int (0)), (.int (1)), (.int (0)), (.int (0))])]), some (.ref 1), some (.ref 7), some (.gl 36), some v] S) (by kernel_rfl)
theorem s18 (S : Store) (odd non' ends row : D) (h_odd : odd ∈ OL) (h_non : non' ∈ NL) (h_row : row ∈ WL) : ∃ x9, evS cfR st18 [some (.ref 0), some odd, some non', some ends, some row, some (.tup [(.tup [(.int (1)), (.int (0)), (.int (0)), (.int (1))]), (.tup [(.int (0)), (.int (1)), (.int (0)), (.int (0))])]), some (.ref 1), some (.ref 7), some (.gl 36), none] S = .nx [some (.ref 0), some odd, some non', some ends, some row, some (.tup [(.tup [(.int (1)), (.int (0)), (.int (0)), (.int (1))]), (.tup [(.int (0)), (.int (1)), (.int (0)), (.int (0))])]), some (.ref 1), some (.ref 7), some (.gl 36), x9] S := by
  obtain ⟨e2, h1, x9, rfl⟩ := for_same (c := cfR) (i := 9) (it := it18) (b := lb18) (env := [some (.ref 0), some odd, some non', some ends, some row, some (.tup [(.tup [(.int (1)), (.int (0)), (.int (0)), (.int (1))]), (.tup [(.int (0)), (.int (1)), (.int (0)), (.int (0))])]), some (.ref 1), some (.ref 7), some (.gl 36), none]) (S := S) (ds := [odd, non', row] ++ CL) (fun e => ∃ x9 : Option D, e = [some (.ref 0), some odd, some non', some ends, some row, some (.tup [(.tup [(.int (1)), (.int (0)), (.int (0)), (.int (1))]), (.tup [(.int (0)), (.int (1)), (.int (0)), (.int (0))])]), some (.ref 1), some (.ref 7), some (.gl 36), x9]) ⟨_, rfl⟩ (by kernel_rfl) (fun d hd e1 ⟨x9, he⟩ => by
    subst he
    refine ⟨_, lp18 S odd non' ends row d ?_, _, rfl⟩
    rcases List.mem_append.mp hd with z | z
    · rcases List.mem_cons.mp z with z | z
      · rw [z]; exact List.mem_append_left _ h_odd
      · rcases List.mem_cons.mp z with z | z
        · rw [z]; exact List.mem_append_right _ (List.mem_append_left _ h_non)
        · rcases List.mem_cons.mp z with z | z
          · rw [z]; exact List.mem_append_right _ (List.mem_append_right _ (List.mem_append_left _ h_row))
          · cases z
    · exact List.mem_append_right _ (List.mem_append_right _ (List.mem_append_right _ z)))
  exact ⟨x9, h1⟩
theorem right_ {n : Int} {l : List D} (hn : n < 1000) (h : Pl n l) : ∃ l', evF TT 100 29 42 [.ref 0] [l] = .ok (.bl true) [l'] ∧ Pl (n + 4) l' := by
  rw [evF_at (show TT[42]? = some ⟨1, 10, body42⟩ from rfl) rfl]
  obtain ⟨odd, h_odd, l1, e1, p1⟩ := draw (lf := 100) (lv := 26) (ds := OL) (by omega) h (by decide) (by decide) (by decide +kernel) (by decide +kernel)
  have hcal : D.calms (NLo odd) = true := by
    have : ∀ o ∈ OL, D.calms (NLo o) = true := fun o ho => of_map (f := fun o => D.calms (NLo o)) (y := true) (by decide +kernel) o ho
    exact this odd h_odd
  obtain ⟨non', h_no, l2, e2, p2⟩ := draw (lf := 100) (lv := 26) (ds := NLo odd) (by omega) p1 (by show 0 < 10; decide) (by show 10 < 1000; decide) hcal rfl
  have h_non := nl_of h_odd h_no
  obtain ⟨ends, h_ends, l3, e3, p3⟩ := draw (lf := 100) (lv := 26) (ds := EL) (by omega) p2 (by decide) (by decide) (by decide +kernel) (by decide +kernel)
  obtain ⟨row, h_row, l4, e4, p4⟩ := draw (lf := 100) (lv := 26) (ds := WL) (by omega) p3 (by decide) (by decide) (by decide +kernel) (by decide +kernel)
  obtain ⟨x9, h18⟩ := s18 [l4, [(.str "turn"), (.str "turn"), (.str "turn"), (.str "row"), (.str "row"), (.str "row"), (.str "row"), (.str "row"), (.str "row"), (.str "row"), (.str "row"), (.str "row"), (.str "row"), (.str "row"), (.str "row"), (.str "row"), (.str "row"), (.str "row")], [(.str "turn"), (.str "turn")], [(.str "turn"), (.str "turn"), (.str "turn"), (.str "row"), (.str "row"), (.str "row"), (.str "row"), (.str "row")], [(.str "turn"), (.str "turn"), (.str "turn"), (.str "row"), (.str "row"), (.str "row"), (.str "row"), (.str "row"), (.str "row"), (.str "row")], [(.str "turn"), (.str "turn"), (.str "turn"), (.str "row"), (.str "row"), (.str "row"), (.str "row"), (.str "row"), (.str "row"), (.str "row"), (.str "row"), (.str "row")], [(.str "turn"), (.str "turn"), (.str "turn"), (.str "row"), (.str "row"), (.str "row"), (.str "row"), (.str "row"), (.str "row"), (.str "row"), (.str "row"), (.str "row"), (.str "row"), (.str "row")], [(.str "turn"), (.str "turn"), (.str "turn"), (.str "row"), (.str "row"), (.str "row"), (.str "row"), (.str "row"), (.str "row"), (.str "row"), (.str "row"), (.str "row"), (.str "row"), (.str "row"), (.str "row"), (.str "row")]] odd non' ends row h_odd h_non h_row
  refine ⟨l4, ?_, p4.mono (by omega)⟩
  have q : evSs cfR body42 [some (.ref 0), none, none, none, none, none, none, none, none, none] [l] = .rt (.bl true) [l4, [(.str "turn"), (.str "turn"), (.str "turn"), (.str "row"), (.str "row"), (.str "row"), (.str "row"), (.str "row"), (.str "row"), (.str "row"), (.str "row"), (.str "row"), (.str "row"), (.str "row"), (.str "row"), (.str "row"), (.str "row"), (.str "row")], [(.str "turn"), (.str "turn")], [(.str "turn"), (.str "turn"), (.str "turn"), (.str "row"), (.str "row"), (.str "row"), (.str "row"), (.str "row")], [(.str "turn"), (.str "turn"), (.str "turn"), (.str "row"), (.str "row"), (.str "row"), (.str "row"), (.str "row"), (.str "row"), (.str "row")], [(.str "turn"), (.str "turn"), (.str "turn"), (.str "row"), (.str "row"), (.str "row"), (.str "row"), (.str "row"), (.str "row"), (.str "row"), (.str "row"), (.str "row")], [(.str "turn"), (.str "turn"), (.str "turn"), (.str "row"), (.str "row"), (.str "row"), (.str "row"), (.str "row"), (.str "row"), (.str "row"), (.str "row"), (.str "row"), (.str "row"), (.str "row")], [(.str "turn"), (.str "turn"), (.str "turn"), (.str "row"), (.str "row"), (.str "row"), (.str "row"), (.str "row"), (.str "row"), (.str "row"), (.str "row"), (.str "row"), (.str "row"), (.str "row"), (.str "row"), (.str "row")]] := by
    refine (ss_nx (asg_nm ((evE_call (vs := [.ref 0, .lst OL]) (ds := [.ref 0, .lst OL]) (S1 := [l]) (by kernel_rfl) rfl).trans e1))).trans ?_
    refine (ss_nx (asg_nm ((evE_call (vs := [.ref 0, .lst (NLo odd)]) (ds := [.ref 0, .lst (NLo odd)]) (S1 := [l1]) (by kernel_rfl) rfl).trans e2))).trans ?_
    refine (ss_nx (asg_nm ((evE_call (vs := [.ref 0, .lst EL]) (ds := [.ref 0, .lst EL]) (S1 := [l2]) (by kernel_rfl) rfl).trans e3))).trans ?_
    refine (ss_nx (asg_nm ((evE_call (vs := [.ref 0, .lst WL]) (ds := [.ref 0, .lst WL]) (S1 := [l3]) (by kernel_rfl) rfl).trans e4))).trans ?_
    refine (ss_nx (s4 l4 odd non' ends row)).trans ?_
    refine (ss_nx (s5 l4 non' ends row odd h_odd)).trans ?_
    refine (ss_nx (s6 l4 odd non' ends row)).trans ?_
    refine (ss_nx (s7 l4 odd ends non' h_non row h_row)).trans ?_
    refine (ss_nx (s8 l4 odd non' ends row h_row)).trans ?_
    refine (ss_nx (s9 l4 odd non' ends row)).trans ?_
    refine (ss_nx (s10 l4 odd ends row non' h_non)).trans ?_
    refine (ss_nx (s11 l4 odd ends row non' h_non)).trans ?_
    refine (ss_nx (s12 l4 odd non' ends row)).trans ?_
    refine (ss_nx (s13 l4 odd row non' h_non ends h_ends)).trans ?_
    refine (ss_nx (s14 l4 odd ends row non' h_non)).trans ?_
    refine (ss_nx (s15 l4 odd ends row non' h_non)).trans ?_
    refine (ss_nx (s16 l4 odd non' ends row)).trans ?_
    refine (ss_nx (s17 l4 odd non' row ends h_ends)).trans ?_
    refine (ss_nx h18).trans ?_
    rfl
  show finR 1 (evSs cfR body42 [some (.ref 0), none, none, none, none, none, none, none, none, none] [l]) = _
  rw [q]
  rfl
end Lw1
namespace Lw1
open PySem PySem.Spec PyProof.Rows L2 Ev
def cfL : Cf := cfAt TT 100 29
def lb : ISs := match body43 with | .cons (.forS _ _ b) _ => b | _ => .nil
def lit : II := match body43 with | .cons (.forS _ i _) _ => i | _ => .seq (.cst .non)
theorem lb_ {ns : List Int} {k : Nat} (hk : k < 64) (x2 : Option D) (S : Store) :
    ∃ x2' S', evSs cfL lb [some (.frz (ns.map D.int)), some (.int k), x2] S = .nx [some (.frz (ns.map D.int)), some (.int k), x2'] S' := by
  obtain ⟨l, e1, p1⟩ := sack_ (lf := 100) (lv := 28) (ns := ns) hk
  obtain ⟨l2, e2, p2⟩ := right_ (by decide) p1
  obtain ⟨l3, e3, p3⟩ := right_ (by decide) p2
  have c1 : cutCall (evF TT 100 29 38) [.frz (ns.map D.int), .int k] S = .ok (.ref S.length) (S ++ [l]) := by
    refine cut_new ?_ rfl e1
    have : D.calms (ns.map D.int) = true := by
      clear e1
      induction ns with
      | nil => rfl
      | cons a r ih => simp [D.calms, D.calm, ih]
    simp [shrD, D.calm, this]
  have c2 : cutCall (evF TT 100 29 42) [.ref S.length] (S ++ [l]) = .ok (.bl true) ((S ++ [l]).set S.length l2) := cut_at (by simp) e2 rfl
  have c3 : cutCall (evF TT 100 29 42) [.ref S.length] ((S ++ [l]).set S.length l2) = .ok (.bl true) (((S ++ [l]).set S.length l2).set S.length l3) := cut_at (by simp) e3 rfl
  refine ⟨some (.ref S.length), ((S ++ [l]).set S.length l2).set S.length l3, ?_⟩
  have a1 : evS cfL (.asg (.nm 2) (.callF 38 [.arg 0, .arg 1] (.cons (.var 0) (.cons (.var 1) .nil)))) [some (.frz (ns.map D.int)), some (.int k), x2] S = .nx [some (.frz (ns.map D.int)), some (.int k), some (.ref S.length)] (S ++ [l]) :=
    asg_nm ((evE_call (vs := [.frz (ns.map D.int), .int k]) (ds := [.frz (ns.map D.int), .int k]) (S1 := S) rfl rfl).trans c1)
  refine (ss_nx a1).trans ?_
  have b1 : ∀ {S1 S2 : Store} {b : Bool}, cutCall (evF TT 100 29 42) [.ref S.length] S1 = .ok (.bl b) S2 → evE cfL (.notE (.callF 42 [.arg 0] (.cons (.var 2) .nil))) [some (.frz (ns.map D.int)), some (.int k), some (.ref S.length)] S1 = .ok (.bl (!b)) S2 := fun h => by
    have q := (evE_call (c := cfL) (k := 42) (src := [.arg 0]) (es := .cons (.var 2) .nil) (env := [some (.frz (ns.map D.int)), some (.int k), some (.ref S.length)]) (vs := [.ref S.length]) (ds := [.ref S.length]) rfl rfl).trans h
    rw [evE, q]; rfl
  refine (ss_nx (e1 := [some (.frz (ns.map D.int)), some (.int k), some (.ref S.length)]) (S1 := ((S ++ [l]).set S.length l2).set S.length l3) ?_).trans rfl
  rw [evS, evE, b1 c2]
  simp -implicitDefEqProofs only [r_bind_ok, tr_bl, Bool.not_true, b1 c3, r_go_ok]
  rfl
/-! the end: two hundred turns; four of them are none -/
def stD : D := .tup [.int 1, .int 0, .int 0, .int 0]
def gD : D := .tup [gA]
def zs : D := .tup (List.replicate 200 (.int 0))
def cfK : Cf := cfAt TT 100 27
def bd16 : ISs := match body16 with | .cons _ (.cons (.forS _ _ b) _) => b | _ => .nil
def h16 : D → Env' → Store → SR := hG cfK (.nm 3) bd16
theorem k1 (z : D) (x : Option D) (S : Store) : h16 (.int 0) [some gD, some z, some stD, x] S = .nx [some gD, some z, some (.tup [.int 1, .int 0, .int 0, .int 1]), some (.int 0)] S := by kernel_rfl
theorem k2 (z : D) (x : Option D) (S : Store) : h16 (.int 0) [some gD, some z, some (.tup [.int 1, .int 0, .int 0, .int 1]), x] S = .nx [some gD, some z, some (.tup [.int 0, .int 0, .int 0, .int 1]), some (.int 0)] S := by kernel_rfl
theorem k3 (z : D) (x : Option D) (S : Store) : h16 (.int 0) [some gD, some z, some (.tup [.int 0, .int 0, .int 0, .int 1]), x] S = .nx [some gD, some z, some (.tup [.int 1, .int 0, .int 0, .int (-1)]), some (.int 0)] S := by kernel_rfl
theorem k4 (z : D) (x : Option D) (S : Store) : h16 (.int 0) [some gD, some z, some (.tup [.int 1, .int 0, .int 0, .int (-1)]), x] S = .nx [some gD, some z, some stD, some (.int 0)] S := by kernel_rfl
theorem round16 (z : D) (S : Store) : ∀ (n : Nat) (x : Option D), ∃ x', forL h16 (List.replicate (4 * n) (.int 0)) [some gD, some z, some stD, x] S = .nx [some gD, some z, some stD, x'] S
  | 0, x => ⟨x, rfl⟩
  | n + 1, x => by
    obtain ⟨x', e⟩ := round16 z S n (some (.int 0))
    refine ⟨x', ?_⟩
    have e1 : 4 * (n + 1) = 4 * n + 1 + 1 + 1 + 1 := by omega
    rw [e1, List.replicate_succ, List.replicate_succ, List.replicate_succ, List.replicate_succ]
    rw [forL, k1]; simp only
    rw [forL, k2]; simp only
    rw [forL, k3]; simp only
    rw [forL, k4]; simp only
    exact e
theorem r200 : ∃ x', forL h16 (List.replicate 200 (.int 0)) [some gD, some zs, some stD, none] [] = .nx [some gD, some zs, some stD, x'] [] := by
  have h := round16 zs [] 50 none
  rw [show (4 * 50 : Nat) = 200 from rfl] at h
  exact h
theorem hi16 : evI cfK (.seq (.var 1)) [some gD, some zs, some stD, none] [] = .ok (.st (List.replicate 200 (.int 0))) [] := by rw [q_seq, q_var]; rfl
theorem done16 (S : Store) : cutCall (evF TT 100 28 16) [gD, zs] S = .ok stD S := by
  refine cut_int (by decide +kernel) (by decide +kernel) ?_ (by decide +kernel)
  rw [evF_at (show TT[16]? = some ⟨2, 4, body16⟩ from rfl) rfl]
  obtain ⟨x', e⟩ := r200
  have q : evSs cfK body16 [some gD, some zs, none, none] [] = .rt stD [] := by
    refine (ss_nx (e1 := [some gD, some zs, some stD, none]) (S1 := []) (by kernel_rfl)).trans ?_
    refine (ss_nx (e1 := [some gD, some zs, some stD, x']) (S1 := []) ?_).trans rfl
    show evS cfK (.forS (.nm 3) (.seq (.var 1)) bd16) [some gD, some zs, some stD, none] [] = _
    rw [q_for, hi16, gob_ok, forJ_st]
    exact e
  show finR 0 (evSs cfK body16 [some gD, some zs, none, none] []) = _
  rw [q]
  rfl
theorem done28 (S : Store) : cutCall (evF TT 100 29 28) [gD, zs] S = .ok stD S := by
  refine cut_int (by decide +kernel) (by decide +kernel) ?_ (by decide +kernel)
  rw [evF_at (show TT[28]? = some ⟨2, 2, body28⟩ from rfl) rfl]
  have q : evSs (cfAt TT 100 28) body28 [some gD, some zs] [] = .rt stD [] := by
    refine (ss_nx (e1 := [some gD, some zs]) (S1 := []) (by kernel_rfl)).trans ?_
    refine (ss_nx (e1 := [some gD, some zs]) (S1 := []) (by kernel_rfl)).trans ?_
    exact ss_rt (ret_of ((evE_call (vs := [gD, zs]) (ds := [gD, zs]) (S1 := []) rfl rfl).trans (done16 [])))
  show finR 0 (evSs (cfAt TT 100 28) body28 [some gD, some zs] []) = _
  rw [q]
  rfl
def finC : IE := .callF 28 [.arg 0, .arg 1] (.cons (.tupE (.cons (.tupE (.cons (.cst (.int (1))) (.cons (.cst (.int (0))) (.cons (.cst (.int (0))) (.cons (.cst (.int (1))) .nil))))) .nil)) (.cons (.bin .Mult (.tupE (.cons (.cst (.int (0))) .nil)) (.cst (.int (200)))) .nil))
def finT : IE := .tupE (.cons (.cst (.int (1))) (.cons (.cst (.int (0))) (.cons (.cst (.int (0))) (.cons (.cst (.int (0))) .nil))))
def finS : IS := .ret (.cmp .Eq finC finT)
theorem finS_ : (match body43 with | .cons _ (.cons s _) => s | _ => .bad) = finS := by kernel_rfl
theorem fin_a (env : Env') (S : Store) : evEs cfL (.cons (.tupE (.cons (.tupE (.cons (.cst (.int (1))) (.cons (.cst (.int (0))) (.cons (.cst (.int (0))) (.cons (.cst (.int (1))) .nil))))) .nil)) (.cons (.bin .Mult (.tupE (.cons (.cst (.int (0))) .nil)) (.cst (.int (200)))) .nil)) env S = .ok [gD, zs] S := by kernel_rfl
theorem fin_c (env : Env') (S : Store) : evE cfL finC env S = .ok stD S := (evE_call (fin_a env S) (show getSrc [gD, zs] [.arg 0, .arg 1] = some [gD, zs] from rfl)).trans (done28 S)
theorem fin_t (env : Env') (S : Store) : evE cfL finT env S = .ok stD S := by kernel_rfl
theorem fin_q (S : Store) : cmpop .Eq stD stD S = some (.bl true) := by kernel_rfl
theorem fin_ (ns : List D) (x1 x2 : Option D) (S : Store) : evS cfL (match body43 with | .cons _ (.cons s _) => s | _ => .bad) [some (.frz ns), x1, x2] S = .rt (.bl true) S := by
  rw [finS_]
  unfold finS
  refine ret_of ?_
  rw [q_cmp, fin_c, bnd_ok, fin_t, bnd_ok, fin_q]
  rfl
theorem law_true {ns : List Int} (hl : ns.length ≤ 63) : ∃ S, evF L.T 100 30 43 [.frz (ns.map D.int)] [] = .ok (.bl true) S := by
  rw [T_eq, evF_at (show TT[43]? = some ⟨1, 3, body43⟩ from rfl) rfl]
  have hi : evI cfL lit [some (.frz (ns.map D.int)), none, none] [] = .ok (.st (upto 0 (if (if (ns.length : Int) < 4 then (ns.length : Int) else 4) > 1 then (if (ns.length : Int) < 4 then (ns.length : Int) else 4) else 1))) [] := by
    have : okR 0 (if (if (ns.length : Int) < 4 then (ns.length : Int) else 4) > 1 then (if (ns.length : Int) < 4 then (ns.length : Int) else 4) else 1) = true := by
      unfold okR
      simp only [Bool.and_eq_true, decide_eq_true_eq]
      refine ⟨by decide, by decide, ?_, ?_⟩
      · split <;> (try split) <;> omega
      · split <;> (try split) <;> omega
    simp -implicitDefEqProofs only [lit, body43, evI, evE, evEs, r_bind_ok, bcR_max, bcR_min, bcR_len, bc_max, bc_min, bc_lenF, ofO_some, List.getElem?_cons_zero, List.length_map]
    exact if_pos this
  obtain ⟨e2, S2, h1, x1, x2, rfl⟩ := forL_inv (h := fun d e1 S2 => match Ev.bindG (.nm 1) d e1 with
    | some e2 => evSs cfL lb e2 S2
    | none => .bad) (fun e1 S1 => ∃ x1 x2, e1 = [some (.frz (ns.map D.int)), x1, x2]) (upto 0 (if (if (ns.length : Int) < 4 then (ns.length : Int) else 4) > 1 then (if (ns.length : Int) < 4 then (ns.length : Int) else 4) else 1)) [some (.frz (ns.map D.int)), none, none] [] ⟨_, _, rfl⟩ (fun d hd e1 S1 ⟨x1, x2, he⟩ => by
      subst he
      obtain ⟨k, rfl, hk⟩ := upto_mem hd
      obtain ⟨x2', S', h⟩ := lb_ (ns := ns) (k := k) (by split at hk <;> (try split at hk) <;> omega) x2 S1
      exact ⟨_, S', h, _, _, rfl⟩)
  have q : evSs cfL body43 [some (.frz (ns.map D.int)), none, none] [] = .rt (.bl true) S2 := by
    refine (ss_nx (e1 := [some (.frz (ns.map D.int)), x1, x2]) (S1 := S2) ?_).trans ?_
    · show evS cfL (.forS (.nm 1) lit lb) _ _ = _
      rw [evS, hi]
      exact h1
    · exact ss_rt (fin_ _ x1 x2 S2)
  refine ⟨S2.take 0, ?_⟩
  show finR 0 (evSs cfL body43 [some (.frz (ns.map D.int)), none, none] []) = _
  rw [q]
  rfl
end Lw1
open PySem PySem.W PySem.Calls PyProof.Rows
theorem PySem.Challenge.cw_leafwide_k27_errors_of_groups_holds : PySem.Challenge.rw_leafwide_k27_errors_of_groups.Holds := by
  w_on; o_law
  refine HandSHeadRun.head_any (r := Lw1.R) (q := view Lw1.R.prog [64]) (H := Lw1.hk) (ob := Lw1.ob) (M := 10750) (loose := Lw1.loose) (d := HandSHeadRun.topDef Lw1.R.prog 64) (kwd := []) Lw1.ob_eq
    (by kernel_rfl) (fun s => by kernel_rfl) Lw1.run (by kernel_rfl) (by kernel_rfl) (by kernel_rfl) (by rfl) (by first | assumption | decide +kernel) (by decide +kernel) ⟨rfl, rfl, rfl, rfl, rfl, by decide +kernel⟩ ?hw ?hc
  case hw => w_witness2
  case hc =>
    refine Ev.walk_law (l := PySem.Challenge.rw_leafwide_k27_errors_of_groups) (n := 63) (lv := 30) (x := "script") rfl (by decide) (by kernel_rfl) ⟨rfl, by decide, by decide⟩ ?F
    intro w mg fa h Y G hmg0
    obtain ⟨K, KX, c⟩ := Y
    have hmg : mg ("law" : PySem.Str) = some (.ref fa) := by
      have e : (HandSHeadRun.topDef Lw1.R.prog 64).name = ("law" : PySem.Str) := by kernel_rfl
      rw [← e]
      exact hmg0
    exact Ev.Lw.goal (L := Lw1.L) (kl := 43) (d := Lw1.d43) (x := "script") (lf := 100) (lv := 30) KX G c Lw1.scs Lw1.bs Lw1.gs Lw1.lamOk (fun h => by first | exact absurd h (by decide) | decide +kernel) rfl rfl rfl hmg (fun _ _ _ _ _ _ _ => rfl) (fun ns hl _ => Lw1.law_true hl)
