import PyProof.Rows.All
import Wide.All
import OpenK.AllK
import Wide.FinOn
import Lean
import PySem.Challenge.RW_pb0193_01
open PySem PySem.W PyProof.Rows PySem.Spec PySem.Calls
set_option Elab.async false
set_option rowWalk.seconds 0
set_option linter.all false
set_option compiler.extract_closed false
set_option genInjectivity false
set_option genSizeOf false
set_option maxRecDepth 100000
set_option maxHeartbeats 8000000
namespace Mine
def hd.view_39 : PySem.Program := { PySem.Challenge.pw_pb0193_01 with main := { PySem.Challenge.pw_pb0193_01.main with body := ((((PySem.Challenge.pw_pb0193_01.main.body.eraseIdx 36).eraseIdx 34).eraseIdx 8).eraseIdx 4).eraseIdx 1 } }
local macro_rules
  | `(tactic| o_law) => `(tactic| refine PySem.W.holds_law (by decide +kernel) fun said => ?_)
local macro_rules
  | `(tactic| o_head $H) => `(tactic| (
      refine PySem.W.holds_open (q := hd.view_39) (loose := [PySem.Str.ofString "buffer_of"]) (Xt := fun s => PySem.W.xlAt hd.view_39 [] s && PySem.W.recOk (PySem.W.RowW.records (PySem.W.OpenRow.toRowW (PySem.W.OpenLaw.row PySem.Challenge.rw_pb0193_01))) s) (XP := PySem.W.XL hd.view_39 []) (Yf := PySem.W.Hook.obs $H) (Ya := PySem.W.Hook.val $H) (YP := PySem.W.Hook.says $H) (N := 4614) ?hl (PySem.W.Hook.of $H) (PySem.W.Hook.keeps $H) (fun s e => PySem.W.xl_of s (Bool.and_eq_true_iff.mp e).1) PySem.W.XL.keeps (by rfl) (by rfl) (by rfl) (fun s e => PySem.W.recFacts_of (Bool.and_eq_true_iff.mp e).2) (by rfl) (by first | assumption | decide +kernel) (by decide +kernel) ⟨rfl, rfl, rfl, rfl, rfl, by decide +kernel⟩ ?hw ?hc
      case hl => exact fun w => by kernel_rfl
      all_goals (try clear said)))
open_top hd for PySem.Challenge.rw_pb0193_01
section PBase
structure Amb (w : World) (mean : ExcName → Option Value) (mg mb : Str → Option Value) (g : Heap) : Prop where
  X : (hd.heap_1 w.params).In g
  T : Top hd.view_39 (looseW hd.view_39 [Str.ofString "buffer_of"]) mean mg mb g

theorem Amb.keeps {w mean mg mb} {g g' : Heap} (a : Amb w mean mg mb g) (k : ∀ b o, g.get? b = some o → g'.get? b = some o) : Amb w mean mg mb g' :=
  ⟨a.X.keeps k, a.T.keeps k⟩

abbrev mkA (dp un : Nat) (fr : Option (List Env)) (gd : Option (List Code)) : Around := { handled := none, depth := dp, frames := fr, guards := gd, units := un }

abbrev Led := List (Addr × Obj)

def Keeps (W : List Addr) (h h' : Heap) : Prop := ∀ a o, h.get? a = some o → a ∉ W → h'.get? a = some o

/-- what a call of a def does: it may change the objects of `led`, makes `own`, hands back a value -/
def Ctr (w : World) (mean : ExcName → Option Value) (mg mb : Str → Option Value) (D U : Nat) (f : Value) (args : List Value) (led : Led) (P : Heap → Prop) (Post : Value → Led → Led → Prop) : Prop :=
  ∀ (dp un : Nat) (fr : Option (List Env)) (gd : Option (List Code)) (h₀ : Heap) (s : Shared) (Res : Result → Shared → Prop),
    dp + D < recursionLimit → un + U < cLine → Amb w mean mg mb h₀ → h₀.StaysIn s.heap → (∀ p ∈ led, s.heap.get? p.1 = some p.2 ∧ h₀.get? p.1 = none) → P (hideAll s.heap (led.map (·.1))) →
    (∀ r h' tk' led' own, Keeps (led.map (·.1)) s.heap h' → led'.map (·.1) = led.map (·.1) → (∀ p ∈ led', h'.get? p.1 = some p.2) → (∀ p ∈ own, s.heap.get? p.1 = none ∧ h'.get? p.1 = some p.2) → Post r led' own →
      Res (.ok (.ret r)) { s with heap := h', toks := tk' }) →
    codeAny (model PySem.Challenge.rw_pb0193_01.row.prog w) (mkA dp un fr gd) (.call f ⟨args, []⟩) Res s

/-- a body has come to its end -/
def Fin0 (g : Heap) (led : Led) (Post : Value → Led → Led → Prop) (v : Value) (h' : Heap) : Prop :=
  ∃ L' m' news' led' own, Fr g L' h' m' ∧ News g L' h' news' ∧ led'.map (·.1) = led.map (·.1) ∧ (∀ p ∈ led', p ∈ news') ∧ (∀ p ∈ own, p ∈ news') ∧ (∀ p ∈ own, ∀ q ∈ led, p.1 ≠ q.1) ∧ Post v led' own

theorem Ctr.enter {w : World} {mean : ExcName → Option Value} {mg mb : Str → Option Value} {D U : Nat} {args : List Value} {led : Led} {P : Heap → Prop} {Post : Value → Led → Led → Prop}
    {name qual : Str} {params : Arguments} {body : List Stmt} {scope : Scope} {dV kV doc pm cdv ct oc : Value} {an od : Option Addr} {osl : Array (Option Value)} {f : Addr} {binds : List (Str × Value)}
    (ho : (hd.heap_1 w.params).lookup f = some ⟨oc, od, .func (fnOf name qual params body scope dV kV doc pm an cdv ct), osl⟩) (hcd : codeIn (hd.heap_1 w.params) cdv qual = true)
    (hbind : ∀ s : Shared, (hd.heap_1 w.params).In s.heap → BindsTo s (fnOf name qual params body scope dV kV doc pm an cdv ct) ⟨args, []⟩ binds) (hloc : ∀ y ∈ binds, scope.names.lookup y.1 = some .local)
    (hco : scope.isCoroutine = false) (hgen : scope.isGenerator = false) (hk : scope.kind = .function)
    (hcell : ∀ x ∈ scope.names, x.2 ≠ .cell)
    (h : ∀ (dp un : Nat) (fr : Option (List Env)) (gd : Option (List Code)) (g : Heap) (L : Addr) (h₁ : Heap) (tk : Nat) (s : Shared) (Q : Value → Shared → Prop), dp + D < recursionLimit + 1 → un + U < cLine + 3 →
      Fr g L h₁ (fun y => binds.reverse.lookup y) → News g L h₁ led → (hd.heap_1 w.params).In g → Top hd.view_39 (looseW hd.view_39 [Str.ofString "buffer_of"]) mean mg mb g → P g →
      (∀ v h' tk', Fin0 g led Post v h' → Q v { s with heap := h', toks := tk' }) →
      wpAny (model PySem.Challenge.rw_pb0193_01.row.prog w) (mkA dp un fr gd) (execs body (envOf qual scope L f cdv))
        (fun fl s' => Q (match fl with | .ret v => v | _ => .none) s') (fun _ _ => False) { s with heap := h₁, toks := tk }) :
    Ctr w mean mg mb D U (.ref f) args led P Post := by
  intro dp un fr gd h₀ s Res hdp hun AM st hl hP k
  have nm : ∀ b o, h₀.get? b = some o → b ∉ led.map (·.1) := fun b o e q => by
    obtain ⟨p, hp, rfl⟩ := List.mem_map.mp q
    rw [(hl p hp).2] at e; cases e
  have stg : h₀.StaysIn (hideAll s.heap (led.map (·.1))) := fun b o e => hideAll_get _ (st b o e) (nm b o e)
  refine codeAny_call_def (fd := fnOf name qual params body scope dV kV doc pm an cdv ct) (body := body) (binds := binds) (by show dp < recursionLimit; (first | lia | omega)) ((AM.X.keeps st) _ _ ho) rfl (AM.T.nolimit.keeps st) (codeRec_of (AM.X.keeps st) hcd) rfl (hbind s (AM.X.keeps st)) hcell hloc (fun h₁ hns hk₁ => ?_) hco hgen hk
  refine wpAny_mono (h (dp + 1) (un + 3) _ gd (hideAll s.heap (led.map (·.1))) s.heap.objs.size h₁ _ s (fun v s' => Res (.ok (.ret v)) s') (by (first | lia | omega)) (by (first | lia | omega)) ⟨hns, fun b o e => hk₁ b o (of_hideAll _ e), Nat.le_of_eq (hideAll_size _ _)⟩
    (fun p hp => ⟨hk₁ _ _ (hl p hp).1, Nat.ne_of_lt (Heap.lt_size (hl p hp).1), hideAll_none _ (List.mem_map_of_mem hp)⟩) (AM.X.keeps fun b o e => stg b o e) (AM.T.keeps fun b o e => stg b o e) hP ?_) (fun _ _ x => x) (fun _ _ x => x.elim)
  rintro v h' tk' ⟨L', m', news', led', own, F', N', hl', hm', ho', hne, hpost⟩
  refine k v h' tk' led' own (fun a o e hn => F'.keep a o (hideAll_get _ e hn)) hl' (fun p hp => (N' p (hm' p hp)).1) (fun p hp => ⟨?_, (N' p (ho' p hp)).1⟩) hpost
  have hg := (N' p (ho' p hp)).2.2
  cases q : s.heap.get? p.1 with
  | none => rfl
  | some o =>
    rw [hideAll_get _ q (fun hm => by obtain ⟨z, hz, e⟩ := List.mem_map.mp hm; exact hne p hp z hz e.symm)] at hg
    cases hg

theorem Ctr.useC {w : World} {mean : ExcName → Option Value} {mg mb : Str → Option Value} {D U : Nat} {f : Value} {args : List Value} {led : Led} {P : Heap → Prop} {Post : Value → Led → Led → Prop}
    (c : Ctr w mean mg mb D U f args led P Post) {A : Around} {g : Heap} {L : Addr} {m : Str → Option Value} {news : Led} {s : Shared} {R : Result → Shared → Prop}
    (F : Fr g L s.heap m) (N : News g L s.heap news) (X : (hd.heap_1 w.params).In g) (T : Top hd.view_39 (looseW hd.view_39 [Str.ofString "buffer_of"]) mean mg mb g)
    (hA : A.handled = none) (hdp : A.depth + D < recursionLimit) (hun : A.units + U < cLine) (hled : ∀ p ∈ led, p ∈ news) (hP : ∀ H : Heap, (∀ b o, g.get? b = some o → H.get? b = some o) → (∀ q ∈ news, q.1 ∉ led.map (·.1) → H.get? q.1 = some q.2) → P H)
    (k : ∀ r h' tk' led' own, Fr g L h' m → led'.map (·.1) = led.map (·.1) → (∀ p ∈ news, p.1 ∉ led.map (·.1) → h'.get? p.1 = some p.2 ∧ p.1 ≠ L ∧ g.get? p.1 = none) →
      News g L h' led' → News g L h' own → (∀ p ∈ own, ∀ q ∈ news, q.1 ≠ p.1) → Post r led' own → R (.ok (.ret r)) { s with heap := h', toks := tk' }) :
    codeAny (model PySem.Challenge.rw_pb0193_01.row.prog w) A (.call f ⟨args, []⟩) R s := by
  obtain ⟨hd, dp, fr, gd, un⟩ := A
  cases hA
  have nb : ∀ b o, g.get? b = some o → b ∉ led.map (·.1) := fun b o e q => by
    obtain ⟨p, hp, rfl⟩ := List.mem_map.mp q
    have := (N p (hled p hp)).2.2
    rw [this] at e; cases e
  refine c dp un fr gd g s _ hdp hun ⟨X, T⟩ F.keep (fun p hp => ⟨(N p (hled p hp)).1, (N p (hled p hp)).2.2⟩) (hP _ (fun b o e => hideAll_get _ (F.keep b o e) (nb b o e)) (fun q hq hn => hideAll_get _ (N q hq).1 hn)) ?_
  intro r h' tk' led' own hk hl' hm ho hpost
  have nL : L ∉ led.map (·.1) := fun q => by
    obtain ⟨p, hp, e⟩ := List.mem_map.mp q
    exact (N p (hled p hp)).2.1 e
  obtain ⟨oL, es, ep, hL, hLr⟩ := F.ns
  refine k r h' tk' led' own ⟨⟨oL, es, ep, hk L oL hL nL, hLr⟩, fun b o e => hk b o (F.keep b o e) (nb b o e), F.above⟩ hl' (fun p hp hn => ⟨hk _ _ (N p hp).1 hn, (N p hp).2⟩) ?_ ?_ ?_ hpost
  · intro p hp
    have : p.1 ∈ led.map (·.1) := hl' ▸ List.mem_map_of_mem hp
    obtain ⟨q, hq, e⟩ := List.mem_map.mp this
    exact ⟨hm p hp, e ▸ (N q (hled q hq)).2.1, e ▸ (N q (hled q hq)).2.2⟩
  · intro p hp
    refine ⟨(ho p hp).2, fun e => ?_, ?_⟩
    · have := (ho p hp).1; rw [e, hL] at this; cases this
    · cases q : g.get? p.1 with
      | none => rfl
      | some o => have := F.keep _ _ q; rw [(ho p hp).1] at this; cases this
  · intro p hp q hq e
    have := (N q hq).1
    rw [e, (ho p hp).1] at this; cases this

theorem Ctr.use {w : World} {mean : ExcName → Option Value} {mg mb : Str → Option Value} {D U : Nat} {f : Value} {args : List Value} {led : Led} {P : Heap → Prop} {Post : Value → Led → Led → Prop}
    (c : Ctr w mean mg mb D U f args led P Post) {A : Around} {g : Heap} {L : Addr} {m : Str → Option Value} {news : Led} {s : Shared} {Q E : Value → Shared → Prop}
    (F : Fr g L s.heap m) (N : News g L s.heap news) (X : (hd.heap_1 w.params).In g) (T : Top hd.view_39 (looseW hd.view_39 [Str.ofString "buffer_of"]) mean mg mb g)
    (hA : A.handled = none) (hdp : A.depth + D < recursionLimit) (hun : A.units + U < cLine) (hled : ∀ p ∈ led, p ∈ news) (hP : ∀ H : Heap, (∀ b o, g.get? b = some o → H.get? b = some o) → (∀ q ∈ news, q.1 ∉ led.map (·.1) → H.get? q.1 = some q.2) → P H)
    (k : ∀ r h' tk' led' own, Fr g L h' m → led'.map (·.1) = led.map (·.1) → (∀ p ∈ news, p.1 ∉ led.map (·.1) → h'.get? p.1 = some p.2 ∧ p.1 ≠ L ∧ g.get? p.1 = none) →
      News g L h' led' → News g L h' own → (∀ p ∈ own, ∀ q ∈ news, q.1 ≠ p.1) → Post r led' own → Q r { s with heap := h', toks := tk' }) :
    wpAny (model PySem.Challenge.rw_pb0193_01.row.prog w) A (call f args) Q E s := wpAny_call (c.useC F N X T hA hdp hun hled hP k)
theorem fin0 {g : Heap} {led : Led} {Post : Value → Led → Led → Prop} {v : Value} {h' : Heap} {L' : Addr} {m' : Str → Option Value} {news' led' own : Led} (F : Fr g L' h' m') (N : News g L' h' news')
    (h1 : ∀ p ∈ led', p ∈ news') (h2 : ∀ p ∈ own, p ∈ news') (h3 : ∀ p ∈ own, ∀ q ∈ led, p.1 ≠ q.1) (hl : led'.map (·.1) = led.map (·.1)) (hp : Post v led' own) : Fin0 g led Post v h' := ⟨L', m', news', led', own, F, N, hl, h1, h2, h3, hp⟩
theorem int_is {a b : Int} {t : Tok} (h : b = a) : Value.int a t = Value.int b t := by rw [h]
theorem str_is {a b : Str} {t : Tok} (h : b = a) : Value.str a t = Value.str b t := by rw [h]
theorem bool_is {a b : Bool} (h : b = a) : Value.bool a = Value.bool b := by rw [h]

theorem Ctr.use0 {w : World} {mean : ExcName → Option Value} {mg mb : Str → Option Value} {D U : Nat} {f : Value} {args : List Value} {P : Heap → Prop} {Post : Value → Led → Led → Prop}
    (c : Ctr w mean mg mb D U f args [] P Post) {A : Around} {g : Heap} {L : Addr} {m : Str → Option Value} {news : Led} {s : Shared} {Q E : Value → Shared → Prop}
    (F : Fr g L s.heap m) (N : News g L s.heap news) (X : (hd.heap_1 w.params).In g) (T : Top hd.view_39 (looseW hd.view_39 [Str.ofString "buffer_of"]) mean mg mb g)
    (hA : A.handled = none) (hdp : A.depth + D < recursionLimit) (hun : A.units + U < cLine) (hP : ∀ H : Heap, (∀ b o, g.get? b = some o → H.get? b = some o) → (∀ q ∈ news, H.get? q.1 = some q.2) → P H)
    (k : ∀ r h' tk' own, Fr g L h' m → News g L h' (own ++ news) → (∀ p ∈ own, ∀ q ∈ news, q.1 ≠ p.1) → Post r [] own → Q r { s with heap := h', toks := tk' }) :
    wpAny (model PySem.Challenge.rw_pb0193_01.row.prog w) A (call f args) Q E s := by
  refine c.use F N X T hA hdp hun (fun _ h => nomatch h) (fun H h1 h2 => hP H h1 fun q hq => h2 q hq fun z => nomatch z) ?_
  intro r h' tk' led' own F' hl hk _ No hne hpost
  cases led' with
  | cons a b => cases hl
  | nil =>
    refine k r h' tk' own F' (fun p hp => ?_) hne hpost
    rcases List.mem_append.mp hp with h | h
    · exact No p h
    · exact hk p h (fun q => nomatch q)
theorem Ctr.useP {w : World} {mean : ExcName → Option Value} {mg mb : Str → Option Value} {D U : Nat} {f : Value} {args : List Value} {P : Heap → Prop} {R : Value → Prop}
    (c : Ctr w mean mg mb D U f args [] P (fun r led own => led = [] ∧ own = [] ∧ R r)) {A : Around} {g : Heap} {L : Addr} {m : Str → Option Value} {news : Led} {s : Shared} {Q E : Value → Shared → Prop}
    (F : Fr g L s.heap m) (N : News g L s.heap news) (X : (hd.heap_1 w.params).In g) (T : Top hd.view_39 (looseW hd.view_39 [Str.ofString "buffer_of"]) mean mg mb g)
    (hA : A.handled = none) (hdp : A.depth + D < recursionLimit) (hun : A.units + U < cLine) (hP : ∀ H : Heap, (∀ b o, g.get? b = some o → H.get? b = some o) → (∀ q ∈ news, H.get? q.1 = some q.2) → P H)
    (k : ∀ r h' tk', R r → Fr g L h' m → News g L h' news → Q r { s with heap := h', toks := tk' }) :
    wpAny (model PySem.Challenge.rw_pb0193_01.row.prog w) A (call f args) Q E s := by
  refine c.use0 F N X T hA hdp hun hP ?_
  rintro r h' tk' own F' N' hne ⟨-, rfl, hr⟩
  exact k r h' tk' hr F' N'
theorem nb1 {x y : Bool} (h : x = false) : ¬ (x = true ∧ y = true) := by simp [h]
theorem nb2 {x y : Bool} (h : y = false) : ¬ (x = true ∧ y = true) := by simp [h]
def IntsPost (is : List Int) (r : Value) (own : Led) : Prop := ∃ x vs n, r = .ref x ∧ own = [(x, listOf (List.toArray vs) n)] ∧ IntsAre vs is
theorem intsPost1 {is : List Int} {x : Addr} {n : Nat} {a : Int} {ta : Tok} (h : is = [a]) : IntsPost is (.ref x) [(x, listOf #[.int a ta] n)] := ⟨x, [.int a ta], n, rfl, rfl, h ▸ .cons _ _ .nil⟩
theorem intsPost2 {is : List Int} {x : Addr} {n : Nat} {a b : Int} {ta tb : Tok} (h : is = [a, b]) : IntsPost is (.ref x) [(x, listOf #[.int a ta, .int b tb] n)] := ⟨x, [.int a ta, .int b tb], n, rfl, rfl, h ▸ .cons _ _ (.cons _ _ .nil)⟩
theorem intsPost3 {is : List Int} {x : Addr} {n : Nat} {a b c : Int} {ta tb tc : Tok} (h : is = [a, b, c]) : IntsPost is (.ref x) [(x, listOf #[.int a ta, .int b tb, .int c tc] n)] := ⟨x, [.int a ta, .int b tb, .int c tc], n, rfl, rfl, h ▸ .cons _ _ (.cons _ _ (.cons _ _ .nil))⟩
theorem bfalse {x : Bool} (h : x = false) : ¬ x = true := by simp [h]

theorem Ctr.use1 {w : World} {mean : ExcName → Option Value} {mg mb : Str → Option Value} {D U : Nat} {f : Value} {args : List Value} {p : Addr} {o : Obj} {P : Heap → Prop} {Post : Value → Led → Led → Prop}
    (c : Ctr w mean mg mb D U f args [(p, o)] P Post) {A : Around} {g : Heap} {L : Addr} {m : Str → Option Value} {news : Led} {gn : Obj → Led} {s : Shared} {Q E : Value → Shared → Prop}
    (F : Fr g L s.heap m) (N : News g L s.heap news) (X : (hd.heap_1 w.params).In g) (T : Top hd.view_39 (looseW hd.view_39 [Str.ofString "buffer_of"]) mean mg mb g)
    (hA : A.handled = none) (hdp : A.depth + D < recursionLimit) (hun : A.units + U < cLine) (Up : UpdF p o news gn)
    (hP : ∀ H : Heap, (∀ b o, g.get? b = some o → H.get? b = some o) → (∀ q ∈ news, q.1 ≠ p → H.get? q.1 = some q.2) → P H)
    (k : ∀ r h' tk' o' own, Fr g L h' m → News g L h' (own ++ gn o') → (∀ p ∈ own, ∀ q ∈ news, q.1 ≠ p.1) → Post r [(p, o')] own → Q r { s with heap := h', toks := tk' }) :
    wpAny (model PySem.Challenge.rw_pb0193_01.row.prog w) A (call f args) Q E s := by
  obtain ⟨pre, post, rfl, hg, h1, h2⟩ := Up.split
  refine c.use F N X T hA hdp hun (fun q hq => by rw [List.mem_singleton.mp hq]; exact List.mem_append_right _ (.head _)) (fun H b1 b2 => hP H b1 fun q hq hn => b2 q hq (fun z => hn (List.mem_singleton.mp z))) ?_
  intro r h' tk' led' own F' hl hk Nl No hne hpost
  cases led' with
  | nil => exact absurd hl (fun z => nomatch z)
  | cons z r9 =>
    cases r9 with
    | cons _ _ => exact absurd hl (fun z => by injection z with _ z; cases z)
    | nil =>
      obtain ⟨p', o'⟩ := z
      have hpp : p' = p := by injection hl
      subst hpp
      refine k r h' tk' o' own F' ?_ hne hpost
      intro q hq
      rcases List.mem_append.mp hq with h | h
      · exact No q h
      · rw [hg] at h
        rcases List.mem_append.mp h with h | h
        · exact hk q (List.mem_append_left _ h) (fun z => h1 q h (List.mem_singleton.mp z))
        · rcases List.mem_cons.mp h with e | h
          · rw [e]; exact Nl _ (.head _)
          · exact hk q (List.mem_append_right _ (.tail _ h)) (fun z => h2 q h (List.mem_singleton.mp z))
abbrev PR : Program := PySem.Challenge.rw_pb0193_01.row.prog
theorem inst_base {g h : Heap} {L : Addr} {m : Str → Option Value} {x dx C : Addr} {od : Obj} (F : Fr g L h m) (h1 : g.get? x = some (instObj C dx)) (h2 : g.get? dx = some od) : PySem.W.InstAt h x (instObj C dx) C (some od) :=
  ⟨F.keep _ _ h1, rfl, rfl, F.keep _ _ h2⟩
theorem Ctr.useR {w : World} {mean : ExcName → Option Value} {mg mb : Str → Option Value} {D U : Nat} {f : Value} {args : List Value} {led : Led} {P : Heap → Prop} {R : Value → Led → Prop}
    (c : Ctr w mean mg mb D U f args led P (fun r led' own => led' = led ∧ R r own)) {A : Around} {g : Heap} {L : Addr} {m : Str → Option Value} {news : Led} {s : Shared} {Q E : Value → Shared → Prop}
    (F : Fr g L s.heap m) (N : News g L s.heap news) (X : (hd.heap_1 w.params).In g) (T : Top hd.view_39 (looseW hd.view_39 [Str.ofString "buffer_of"]) mean mg mb g)
    (hA : A.handled = none) (hdp : A.depth + D < recursionLimit) (hun : A.units + U < cLine) (hled : ∀ p ∈ led, p ∈ news)
    (hP : ∀ H : Heap, (∀ b o, g.get? b = some o → H.get? b = some o) → (∀ q ∈ news, q.1 ∉ led.map (·.1) → H.get? q.1 = some q.2) → P H)
    (k : ∀ r h' tk' own, Fr g L h' m → News g L h' (own ++ news) → (∀ p ∈ own, ∀ q ∈ news, q.1 ≠ p.1) → R r own → Q r { s with heap := h', toks := tk' }) :
    wpAny (model PySem.Challenge.rw_pb0193_01.row.prog w) A (call f args) Q E s := by
  refine c.use F N X T hA hdp hun hled hP ?_
  rintro r h' tk' led' own F' hl hk Nl No hne ⟨rfl, hr⟩
  refine k r h' tk' own F' (fun p hp => ?_) hne hr
  rcases List.mem_append.mp hp with h | h
  · exact No p h
  · by_cases hm : p.1 ∈ led'.map (·.1)
    · obtain ⟨q, hq, e⟩ := List.mem_map.mp hm
      have h1 := (N p h).1
      have h2 := (N q (hled q hq)).1
      rw [e, h1] at h2
      have h3 := Nl q hq
      rw [e] at h3
      exact ⟨by rw [h3.1]; exact h2.symm, h3.2⟩
    · exact hk p h hm
theorem Ctr.mono {w : World} {mean : ExcName → Option Value} {mg mb : Str → Option Value} {D U : Nat} {f : Value} {args : List Value} {led : Led} {P : Heap → Prop} {Post Post' : Value → Led → Led → Prop}
    (c : Ctr w mean mg mb D U f args led P Post) (h : ∀ r l o, Post r l o → Post' r l o) : Ctr w mean mg mb D U f args led P Post' :=
  fun dp un fr gd h₀ s Res a b d e f g k => c dp un fr gd h₀ s Res a b d e f g fun r h' tk' led' own k1 k2 k3 k4 k5 => k r h' tk' led' own k1 k2 k3 k4 (h _ _ _ k5)
def AllNe (x : Addr) (l : List (Addr × Obj)) : Prop := ∀ q ∈ l, q.1 ≠ x
theorem allNe_nil {x : Addr} : AllNe x [] = True := eq_true (List.forall_mem_nil _)
theorem allNe_cons {x : Addr} {p : Addr × Obj} {l : List (Addr × Obj)} : AllNe x (p :: l) = (p.1 ≠ x ∧ AllNe x l) := propext List.forall_mem_cons
theorem allNe_of {x : Addr} {o : Obj} {own news : Led} (h : ∀ p ∈ (x, o) :: own, ∀ q ∈ news, q.1 ≠ p.1) : AllNe x news ∧ ∀ p ∈ own, ∀ q ∈ news, q.1 ≠ p.1 :=
  ⟨h (x, o) (.head _), fun p hp => h p (.tail _ hp)⟩

theorem Ctr.enterC {w : World} {mean : ExcName → Option Value} {mg mb : Str → Option Value} {D U : Nat} {args : List Value} {led : Led} {P : Heap → Prop} {Post : Value → Led → Led → Prop}
    {name qual : Str} {params : Arguments} {body : List Stmt} {scope : Scope} {dV kV doc pm cdv ct oc : Value} {an od : Option Addr} {osl : Array (Option Value)} {f : Addr} {binds : List (Str × Value)}
    (ho : (hd.heap_1 w.params).lookup f = some ⟨oc, od, .func (fnOf name qual params body scope dV kV doc pm an cdv ct), osl⟩) (hcd : codeIn (hd.heap_1 w.params) cdv qual = true)
    (hbind : ∀ s : Shared, (hd.heap_1 w.params).In s.heap → BindsTo s (fnOf name qual params body scope dV kV doc pm an cdv ct) ⟨args, []⟩ binds)
    (hkind : (binds.all fun y => scope.names.lookup y.1 == some .local || scope.names.lookup y.1 == some .cell) = true) (hnd : ((cellsFrom 0 scope.names []).map (·.1)).Nodup)
    (hco : scope.isCoroutine = false) (hgen : scope.isGenerator = false) (hk : scope.kind = .function)
    (h : ∀ (dp un : Nat) (fr : Option (List Env)) (gd : Option (List Code)) (g : Heap) (L : Addr) (h₁ : Heap) (tk : Nat) (s : Shared) (Q : Value → Shared → Prop) (cells : Led), dp + D < recursionLimit + 1 → un + U < cLine + 3 →
      Fr g L h₁ (bindL (envOfC qual scope L f cdv).kindOf binds fun _ => none) → News g L h₁ (cells ++ led) → CellsAre (bindC (envOfC qual scope L f cdv).kindOf binds fun _ => none) (cellsFrom (L + 1) scope.names []) cells → (∀ p ∈ led, p.1 < L) →
      (hd.heap_1 w.params).In g → Top hd.view_39 (looseW hd.view_39 [Str.ofString "buffer_of"]) mean mg mb g → P g →
      (∀ v h' tk', Fin0 g led Post v h' → Q v { s with heap := h', toks := tk' }) →
      wpAny (model PySem.Challenge.rw_pb0193_01.row.prog w) (mkA dp un fr gd) (execs body (envOfC qual scope L f cdv))
        (fun fl s' => Q (match fl with | .ret v => v | _ => .none) s') (fun _ _ => False) { s with heap := h₁, toks := tk }) :
    Ctr w mean mg mb D U (.ref f) args led P Post := by
  intro dp un fr gd h₀ s Res hdp hun AM st hl hP k
  have nm : ∀ b o, h₀.get? b = some o → b ∉ led.map (·.1) := fun b o e q => by
    obtain ⟨p, hp, rfl⟩ := List.mem_map.mp q
    rw [(hl p hp).2] at e; cases e
  have stg : h₀.StaysIn (hideAll s.heap (led.map (·.1))) := fun b o e => hideAll_get _ (st b o e) (nm b o e)
  refine codeAny_call_function (fd := fnOf name qual params body scope dV kV doc pm an cdv ct) (by show dp < recursionLimit; (first | lia | omega)) ((AM.X.keeps st) _ _ ho) rfl hco hgen rfl (codeRec_of (AM.X.keeps st) hcd) (hbind s (AM.X.keeps st) _ _ _ _ ?_)
  refine wpAny_newFunctionEnv_cells hk (kindsX hkind _) fun env' he s' x => ?_
  subst he
  refine ⟨(AM.T.nolimit.keeps st).keeps x.toInCall.keep, codeAny_func ?_⟩
  obtain ⟨h₁, tk, rfl, _⟩ := x.done
  have hk₁ := x.toInCall.keep
  obtain ⟨cells, NC, Y⟩ := Cl.news (h₀ := s.heap) (Nat.le_refl _) fun n c hm => ⟨x.cell n c (lookup_of_mem_nodup (cellsFrom_names scope.names 0 (s.heap.objs.size + 1) [] [] rfl ▸ hnd) hm), x.above n c hm⟩
  refine wpAny_mono (h (dp + 1) (un + 3) _ gd (hideAll s.heap (led.map (·.1))) s.heap.objs.size h₁ tk s (fun v s' => Res (.ok (.ret v)) s') cells (by (first | lia | omega)) (by (first | lia | omega)) ⟨x.toInCall.ns, fun b o e => hk₁ b o (of_hideAll _ e), Nat.le_of_eq (hideAll_size _ _)⟩ (fun p hp => ?_) Y (fun p hp => Heap.lt_size (hl p hp).1)
    (AM.X.keeps fun b o e => stg b o e) (AM.T.keeps fun b o e => stg b o e) hP ?_) (fun _ _ y => y) (fun _ _ y => y.elim)
  · rcases List.mem_append.mp hp with hp | hp
    · refine ⟨(NC p hp).1, (NC p hp).2.1, ?_⟩
      cases q : (hideAll s.heap (led.map (·.1))).get? p.1 with
      | none => rfl
      | some o => have := of_hideAll _ q; rw [(NC p hp).2.2] at this; cases this
    · exact ⟨hk₁ _ _ (hl p hp).1, Nat.ne_of_lt (Heap.lt_size (hl p hp).1), hideAll_none _ (List.mem_map_of_mem hp)⟩
  · rintro v h' tk' ⟨L', m', news', led', own, F', N', hl', hm', ho', hne, hpost⟩
    refine k v h' tk' led' own (fun a o e hn => F'.keep a o (hideAll_get _ e hn)) hl' (fun p hp => (N' p (hm' p hp)).1) (fun p hp => ⟨?_, (N' p (ho' p hp)).1⟩) hpost
    have hg := (N' p (ho' p hp)).2.2
    cases q : s.heap.get? p.1 with
    | none => rfl
    | some o =>
      rw [hideAll_get _ q (fun hm => by obtain ⟨z, hz, e⟩ := List.mem_map.mp hm; exact hne p hp z hz e.symm)] at hg
      cases hg
theorem base_list {g H : Heap} {c : Addr} {vs : List Value} (h : g.IsList c (List.toArray vs)) (b : ∀ b o, g.get? b = some o → H.get? b = some o) : H.IsList c (List.toArray vs) := by
  obtain ⟨o, h1, h2⟩ := h
  exact ⟨o, b _ _ h1, h2⟩
def Stop (P : Prop) : Prop := P
theorem Stop.out {P : Prop} (h : Stop P) : P := h
theorem inst_mix {g h : Heap} {L : Addr} {m : Str → Option Value} {x dx C : Addr} {od : Obj} {news : Led} (F : Fr g L h m) (N : News g L h news) (h1 : g.get? x = some (instObj C dx)) (h2 : (dx, od) ∈ news) : PySem.W.InstAt h x (instObj C dx) C (some od) :=
  ⟨F.keep _ _ h1, rfl, rfl, (N _ h2).1⟩
theorem refIs (a : Addr) {M : Model} {A : Around} {args : List Value} {kw : List (Str × Value)} {Q E : Value → Shared → Prop} {s : Shared} (h : wpAny M A (call (.ref a) args kw) Q E s) : wpAny M A (call (.ref a) args kw) Q E s := h
theorem stIs {M : Model} {A : Around} {env e : PySem.Expr} {a : Addr} {i : Int} {t : Tok} {Q E : Value → Shared → Prop} {s : Shared} (h : wpAny M A (subscriptTail env e (.ref a) (.int i t)) Q E s) : wpAny M A (subscriptTail env e (.ref a) (.int i t)) Q E s := h
theorem biIs {M : Model} {A : Around} {n : String} {a : Addr} {Q E : Value → Shared → Prop} {s : Shared} (h : wpAny M A (call (.builtin n) [.ref a]) Q E s) : wpAny M A (call (.builtin n) [.ref a]) Q E s := h
theorem boIs {M : Model} {A : Around} {o : Operator} {a b : Addr} {Q E : Value → Shared → Prop} {s : Shared} (h : wpAny M A (binaryOp o (.ref a) (.ref b)) Q E s) : wpAny M A (binaryOp o (.ref a) (.ref b)) Q E s := h
theorem nmIs (x : String) {M : Model} {A : Around} {p : Pos} {env : Env} {Q E : Value → Shared → Prop} {s : Shared} (h : wpAny M A (eval (.Name (Str.ofString x) p) env) Q E s) : wpAny M A (eval (.Name (Str.ofString x) p) env) Q E s := h
theorem add_two {prog : Program} {w : World} {A : Around} {h₀ : Heap} {L : Addr} {s : Shared} {m : Str → Option Value} {news : Led} {a b : Addr} {vs ws : List Value} {n1 n2 : Nat} {Q : Value → Shared → Prop} {E : Value → Shared → Prop} (F : Fr h₀ L s.heap m) (N : News h₀ L s.heap news) (ha : (a, listOf (List.toArray vs) n1) ∈ news) (hb : (b, listOf (List.toArray ws) n2) ∈ news) (hz : vs.length + ws.length ≤ sizeLine)
    (h : ∀ D h', Fr h₀ L h' m → News h₀ L h' ((D, listOf (List.toArray (vs ++ ws)) 0) :: news) → (∀ p ∈ news, p.1 < D) → Q (.ref D) { s with heap := h' }) : wpAny (model prog w) A (binaryOp .Add (.ref a) (.ref b)) Q E s :=
  kmk_add_lit F N (News.isList N ha) (News.isList N hb) rfl h hz
/-- what is new differs from what stood there: one premise after the other, no splitting of the goal -/
def NeT (x : Addr) (G : Prop) : Led → Prop
  | [] => G
  | p :: l => p.1 ≠ x → NeT x G l
def OwnT (news : Led) (G : Prop) : Led → Prop
  | [] => G
  | p :: own => NeT p.1 (OwnT news G own) news
theorem neT_tail {x : Addr} {G : Prop} : ∀ {l : Led}, (AllNe x l → G) → NeT x G l
  | [], k => k (List.forall_mem_nil _)
  | _ :: _, k => fun h => neT_tail fun r => k (List.forall_mem_cons.mpr ⟨h, r⟩)
theorem neT_of {x : Addr} {G : Prop} {l : Led} (h : AllNe x l) (k : NeT x G l) : G := by
  induction l with
  | nil => exact k
  | cons p l ih => exact ih (fun q hq => h q (.tail _ hq)) (k (h p (.head _)))
theorem ownT_of {news : Led} {G : Prop} {own : Led} (h : ∀ p ∈ own, ∀ q ∈ news, q.1 ≠ p.1) (k : OwnT news G own) : G := by
  induction own with
  | nil => exact k
  | cons p l ih => exact ih (fun q hq => h q (.tail _ hq)) (neT_of (fun q hq => h p (.head _) q hq) k)
theorem neT_all {x : Addr} {G : Prop} {l : Led} (k : G) : NeT x G l := by
  induction l with
  | nil => exact k
  | cons p l ih => exact fun _ => ih
theorem ownT_tail {news : Led} {G : Prop} {own : Led} (k : G) : OwnT news G own := by
  induction own with
  | nil => exact k
  | cons p l ih => exact neT_all ih
theorem pT {g : Heap} {news : Led} : ∀ H : Heap, (∀ b o, g.get? b = some o → H.get? b = some o) → (∀ q ∈ news, H.get? q.1 = some q.2) → True := fun _ _ _ => trivial
theorem pK {P : Heap → Prop} {g : Heap} {news : Led} (hk : ∀ {g H : Heap}, P g → (∀ b o, g.get? b = some o → H.get? b = some o) → P H) (h : P g) : ∀ H : Heap, (∀ b o, g.get? b = some o → H.get? b = some o) → (∀ q ∈ news, H.get? q.1 = some q.2) → P H := fun _ b _ => hk h b
theorem pK2 {P P' : Heap → Prop} {g : Heap} {news : Led} (hk : ∀ {g H : Heap}, P g → (∀ b o, g.get? b = some o → H.get? b = some o) → P H) (hk' : ∀ {g H : Heap}, P' g → (∀ b o, g.get? b = some o → H.get? b = some o) → P' H) (h : P g) (h' : P' g) : ∀ H : Heap, (∀ b o, g.get? b = some o → H.get? b = some o) → (∀ q ∈ news, H.get? q.1 = some q.2) → P H ∧ P' H := fun _ b _ => ⟨hk h b, hk' h' b⟩
theorem pG2 {a a' : Addr} {o o' : Obj} {g : Heap} {news : Led} (h : g.get? a = some o) (h' : g.get? a' = some o') : ∀ H : Heap, (∀ b o, g.get? b = some o → H.get? b = some o) → (∀ q ∈ news, H.get? q.1 = some q.2) → H.get? a = some o ∧ H.get? a' = some o' := fun _ b _ => ⟨b _ _ h, b _ _ h'⟩
theorem rK {P : Heap → Prop} {g : Heap} {news led : Led} (hk : ∀ {g H : Heap}, P g → (∀ b o, g.get? b = some o → H.get? b = some o) → P H) (h : P g) : ∀ H : Heap, (∀ b o, g.get? b = some o → H.get? b = some o) → (∀ q ∈ news, q.1 ∉ led.map (·.1) → H.get? q.1 = some q.2) → P H := fun _ b _ => hk h b
theorem oG {a p : Addr} {o : Obj} {g : Heap} {news : Led} (h : g.get? a = some o) : ∀ H : Heap, (∀ b o, g.get? b = some o → H.get? b = some o) → (∀ q ∈ news, q.1 ≠ p → H.get? q.1 = some q.2) → H.get? a = some o := fun _ b _ => b _ _ h
set_option hygiene false in
open Lean in
/-- the line of the walk for a call of a def whose contract is proved: the address, the contract with its open premises, the keys that close them, the names of what comes back, the keys behind it -/
def callL (form : String) (a : Nat) (con keys pat after : String) : MacroM Syntax := do
  let seq (s : String) : MacroM (TSyntax `tactic) := do
    let ts ← ((s.splitOn " ").filter (· != "")).toArray.mapM fun t => `(tactic| walk_at $(Syntax.mkStrLit t):str)
    `(tactic| ($[$ts:tactic];*))
  let hole (t : String) : MacroM (TSyntax `term) := if t == "_" then `(?_) else if t == "rfl" then `(rfl) else `(?$(mkIdent t.toName):ident)
  let toks := con.splitOn " "
  let args : Array (TSyntax `term) ← (toks.drop 1).toArray.mapM fun t =>
    match t.splitOn "=" with
    | [n, v] => do
      let x : TSyntax `term := if v.toNat?.isSome then ⟨(Syntax.mkNumLit v).raw⟩ else ⟨(mkIdent v.toName).raw⟩
      let s ← `(Lean.Parser.Term.namedArgument| ($(mkIdent n.toName):ident := $x))
      pure ⟨s.raw⟩
    | _ => hole t
  let c : TSyntax `term := Syntax.mkApp ⟨(mkIdent (toks.headD "").toName).raw⟩ args
  let k ← seq keys
  let z ← seq after
  let hs : Array (TSyntax `term) ← ((if form == "R" then "F N X T rfl d u W P _" else if form == "1" then "F N X T rfl d u U P _" else "F N X T rfl d u P _").splitOn " ").toArray.mapM hole
  let r : TSyntax `term := Syntax.mkApp ⟨(mkIdent (if form == "P" then `Ctr.useP else if form == "O" then `Ctr.use0 else if form == "R" then `Ctr.useR else `Ctr.use1)).raw⟩ (#[c] ++ hs)
  let i := Syntax.mkStrLit ("i" ++ form)
  let ps ← ((pat.splitOn " ").filter (· != "")).toArray.mapM fun t => if t == "_" then `(Lean.Parser.Tactic.rcasesPatLo| _) else `(Lean.Parser.Tactic.rcasesPatLo| $(mkIdent t.toName):ident)
  let o ← if ps.isEmpty then `(tactic| skip) else `(tactic| obtain ⟨$[$ps],*⟩ := R9)
  let body ← `(tactic| (k_dflt (refine' $r; $k; k_whole); walk_at $i:str; $o))
  `(tactic| (k_here; (with_reducible refine refIs $(quote a) ?_); first | (k_fold; $body; k_unfold; clear qk ek; $z) | ($body; $z)))
theorem snIs {M : Model} {A : Around} {env e : PySem.Expr} {a : Addr} {t : Tok} {Q E : Value → Shared → Prop} {s : Shared} (h : wpAny M A (subscriptTail env e (.ref a) (.int (-1) t)) Q E s) : wpAny M A (subscriptTail env e (.ref a) (.int (-1) t)) Q E s := h
theorem slIs {M : Model} {A : Around} {e : PySem.Expr} {p : Pos} {a b : Addr} {Q E : Value → Shared → Prop} {s : Shared} {z y' : Option PySem.Expr} (h : wpAny M A (subscriptTail e (.Slice z y' none p) (.ref a) (.ref b)) Q E s) : wpAny M A (subscriptTail e (.Slice z y' none p) (.ref a) (.ref b)) Q E s := h
theorem apIs {M : Model} {A : Around} {n : String} {a : Addr} {v : Value} {Q E : Value → Shared → Prop} {s : Shared} (h : wpAny M A (call (.builtin n) [.ref a, v]) Q E s) : wpAny M A (call (.builtin n) [.ref a, v]) Q E s := h
set_option hygiene false in
open Lean in
/-- a line of the walk by one lemma: the guard, the lemma, a word for each of its premises, the names of what is new -/
def refL (guard lem args names : String) : MacroM Syntax := do
  let ts : Array (TSyntax `term) ← ((args.splitOn " ").filter (· != "")).toArray.mapM fun t =>
    if t == "?" then `(?_)
    else if t == "asm" then `(by assumption)
    else if t == "kasm" then `(by k_asm)
    else if t == "mem" then `(by k_mem)
    else if t == "rfl" then `(by rfl)
    else if t == "dec" then `(by decide)
    else if t == "wur" then `(by with_unfolding_all rfl)
    else if t == "F₀" then do
      let s ← `(Lean.Parser.Term.namedArgument| (F₀ := by k_asm))
      pure ⟨s.raw⟩
    else if t.contains '.' then pure ⟨(mkIdent t.toName).raw⟩
    else `(by walk_at $(Syntax.mkStrLit t):str)
  let f : TSyntax `term := Syntax.mkApp ⟨(mkIdent lem.toName).raw⟩ ts
  let g ← match guard.toNat? with
    | some a => `(tactic| (with_reducible refine refIs $(quote a) ?_))
    | none => if guard == "" then `(tactic| skip) else `(tactic| (with_reducible refine $(mkIdent guard.toName) ?_))
  let ns : Array (TSyntax `ident) := ((names.splitOn " ").filter (· != "")).toArray.map fun n => mkIdent n.toName
  let i ← if ns.isEmpty then `(tactic| skip) else do
    let xs : Array (TSyntax `term) := ns.map fun n => ⟨n.raw⟩
    `(tactic| intro $[$xs:term]*)
  `(tactic| (k_here; $g; k_dflt (refine' $f; k_whole); $i))
set_option hygiene false in
open Lean in
/-- the first of some lemmas that fits, its premises by the context -/
def firstL (alts : List String) : MacroM Syntax := do
  let ts : Array (TSyntax `tactic) ← alts.toArray.mapM fun a => do
    let ws := (a.splitOn " ").filter (· != "")
    let xs : Array (TSyntax `term) ← (ws.drop 1).toArray.mapM fun t => if t == "asm" then `(by assumption) else if t == "kasm" then `(by k_asm) else if t == "mem" then `(by k_mem) else pure ⟨(mkIdent t.toName).raw⟩
    let f : TSyntax `term := Syntax.mkApp ⟨(mkIdent (ws.headD "").toName).raw⟩ xs
    `(tactic| exact $f)
  `(tactic| first $[| $ts:tactic]*)
set_option hygiene false in
open Lean in
/-- each of the named goals that stand, by one key -/
def casesL (names key : String) : MacroM Syntax := do
  let ts : Array (TSyntax `tactic) ← ((names.splitOn " ").filter (· != "")).toArray.mapM fun n => `(tactic| (try case $(mkIdent n.toName):ident => walk_at $(Syntax.mkStrLit key):str))
  `(tactic| ($[$ts:tactic];*))
theorem no1 {p q : Prop} (h : ¬ p) : ¬ (p ∧ q) := fun x => h x.1
theorem no2 {p q r : Prop} (h : ¬ q) : ¬ (p ∧ q ∧ r) := fun x => h x.2.1
theorem no3 {p q r s : Prop} (h : ¬ r) : ¬ (p ∧ q ∧ r ∧ s) := fun x => h x.2.2.1
theorem no4 {p q r s t : Prop} (h : ¬ s) : ¬ (p ∧ q ∧ r ∧ s ∧ t) := fun x => h x.2.2.2.1
theorem no2z {p q : Prop} (h : ¬ q) : ¬ (p ∧ q) := fun x => h x.2
theorem no4z {p q r s : Prop} (h : ¬ s) : ¬ (p ∧ q ∧ r ∧ s) := fun x => h x.2.2.2
theorem no5z {p q r s t : Prop} (h : ¬ t) : ¬ (p ∧ q ∧ r ∧ s ∧ t) := fun x => h x.2.2.2.2
theorem ifNm (x : String) {M : Model} {A : Around} {env : Env} {Q : Flow → Shared → Prop} {E : Value → Shared → Prop} {s : Shared} {p p2 p3 : Pos} {o : List CmpOp} {c : List PySem.Expr} {b e : List Stmt} (h : wpAny M A (exec (.If (.Compare (.Name (Str.ofString x) p) o c p2) b e p3) env) Q E s) : wpAny M A (exec (.If (.Compare (.Name (Str.ofString x) p) o c p2) b e p3) env) Q E s := h
theorem ifCl {M : Model} {A : Around} {env : Env} {Q : Flow → Shared → Prop} {E : Value → Shared → Prop} {s : Shared} {p p2 p3 p4 : Pos} {bo : BoolOp} {o : List CmpOp} {c r : List PySem.Expr} {f : PySem.Expr} {a : List PySem.Expr} {k : List Keyword} {b e : List Stmt} (h : wpAny M A (exec (.If (.BoolOp bo (.Compare (.Call f a k p) o c p2 :: r) p3) b e p4) env) Q E s) : wpAny M A (exec (.If (.BoolOp bo (.Compare (.Call f a k p) o c p2 :: r) p3) b e p4) env) Q E s := h
theorem asNm (x : String) {M : Model} {A : Around} {env : Env} {Q : Flow → Shared → Prop} {E : Value → Shared → Prop} {s : Shared} {p p2 : Pos} {v : PySem.Expr} (h : wpAny M A (exec (.Assign [.Name (Str.ofString x) p] v p2) env) Q E s) : wpAny M A (exec (.Assign [.Name (Str.ofString x) p] v p2) env) Q E s := h
theorem neIs {M : Model} {A : Around} {a b : Addr} {Q E : Value → Shared → Prop} {s : Shared} (h : wpAny M A (compareOp .NotEq (.ref a) (.ref b)) Q E s) : wpAny M A (compareOp .NotEq (.ref a) (.ref b)) Q E s := h
end PBase
local macro_rules | `(tactic| walk_at "om") => `(tactic| (first | lia | omega))
local macro_rules | `(tactic| walk_at "c_room") => `(tactic| ((try dsimp only [mkA, Around.in1_depth, Around.in1_units]); walk_at "om"))
local macro_rules | `(tactic| k_inst) => firstL ["inst_mix kasm kasm asm mem", "inst_base kasm asm asm"]
local macro_rules | `(tactic| k_tabat) => firstL ["TabAt.ofFr asm kasm"]
local macro_rules | `(tactic| k_ne) => `(tactic| (refine neN ?_; (try dsimp only); first | assumption | exact Ne.symm (by assumption)))
local macro_rules | `(tactic| walk_at "c_om") => `(tactic| first | walk_at "om" | (simp only [Int.toNat_zero, Int.toNat_one, List.getD_cons_zero, List.getD_cons_succ]; walk_at "om"))
local macro_rules | `(tactic| size_fits) => `(tactic| first | exact Nat.le_of_ble_eq_true rfl | (rw [PySem.sizeLine_eq]; walk_at "om"))
local macro_rules | `(tactic| walk_at "CompEnd") => `(tactic| ((repeat (with_reducible rename _ ∧ _ => h8; have h7 := h8.1; have h6 := h8.2; clear h8)); lcg_end))
set_option hygiene false in
local macro_rules | `(tactic| walk_at "uF") => `(tactic| ((case F => k_asm); (case N => k_asm)))
set_option hygiene false in
local macro_rules | `(tactic| walk_at "uX") => `(tactic| ((case X => k_asm); (case T => k_asm); (case d => walk_at "c_room"); (case u => walk_at "c_room")))
local macro_rules | `(tactic| walk_at "aY") => `(tactic| first | assumption | walk_at "c_om")
local macro_rules | `(tactic| walk_at "aX") => casesL "a0 a1 a2 a3 a4 a5 a6 a7 a8 a9" "aY"
local macro_rules | `(tactic| walk_at "bX") => casesL "b0 b1 c0 c1 c2 c3 c4" "aY"
set_option hygiene false in
local macro_rules | `(tactic| walk_at "P0") => `(tactic| (case P => walk_at "Pa"))
set_option hygiene false in
local macro_rules | `(tactic| walk_at "iP") => `(tactic| intro r9 h9 tk9 R9 F9 N9)
set_option hygiene false in
local macro_rules | `(tactic| walk_at "iO") => `(tactic| intro r9 h9 tk9 w9 F9 N9 n9 R9)
set_option hygiene false in
local macro_rules | `(tactic| walk_at "i1") => `(tactic| intro r9 h9 tk9 o9 w9 F9 N9 n9 R9)
set_option hygiene false in
local macro_rules | `(tactic| walk_at "dP") => `(tactic| (obtain ⟨t9, e9⟩ := R9; subst e9))
set_option hygiene false in
local macro_rules | `(tactic| walk_at "dS") => `(tactic| (subst e9; subst w8))
set_option hygiene false in
local macro_rules | `(tactic| walk_at "dI") => `(tactic| (injection l9 with l9 _; injection l9 with _ l9; subst l9))
set_option hygiene false in
local macro_rules | `(tactic| walk_at "dJ") => `(tactic| (injection eo9 with eo9 _; injection eo9 with _ eo9; subst eo9))
local macro_rules | `(tactic| walk_at "zP") => `(tactic| ((try dsimp only); (try k_sweep)))
set_option hygiene false in
local macro_rules | `(tactic| walk_at "zO") => `(tactic| ((try dsimp only [List.nil_append, List.cons_append] at N9); (first | (refine ownT_of n9 ?_; clear n9; dsimp only [OwnT, NeT]; (repeat (first | with_reducible intro n7 | (refine neT_tail ?_; with_reducible intro n8) | refine ownT_tail ?_))) | clear n9 | skip); walk_at "zP"))
local macro_rules | `(tactic| walk_at "forS") => refL "" "For_S" "kasm rfl rfl PassesOwn.never ? fs" ""
local macro_rules | `(tactic| walk_at "forT") => refL "" "For_T" "kasm ? fs PassesOwn.never" ""
local macro_rules | `(tactic| walk_at "compA") => refL "" "AssignComp_S" "F₀ rfl wur rfl dec rfl dec rfl rfl rfl ?" ""
local macro_rules | `(tactic| walk_at "compL") => refL "" "ListComp_S" "F₀ wur dec rfl dec rfl ?" ""
local macro_rules | `(tactic| walk_at "stop") => `(tactic| (k_here; refine Stop.out ?_))
local macro_rules | `(tactic| walk_at "itemB") => refL "stIs" "item_base" "kasm asm asm c_om c_om ? wur" ""
local macro_rules | `(tactic| walk_at "itemR") => refL "stIs" "item_row" "kasm asm c_om c_om c_om ? wur" "x9 d9 q9 e9 f9 c9 k9"
local macro_rules | `(tactic| walk_at "itemN") => refL "snIs" "item_neg" "kasm mem ? wur" ""
local macro_rules | `(tactic| walk_at "lenB") => refL "biIs" "len_base" "kasm asm c_om ?" ""
set_option hygiene false in
local macro_rules | `(tactic| walk_at "sliceL") => `(tactic| first | exact News.isList (by k_asm) (by k_mem) | exact base_list (by assumption) (Fr.keep (by k_asm)))
set_option hygiene false in
local macro_rules | `(tactic| walk_at "sliceE") => `(tactic| first | assumption | exact slice_m1 | exact slice_runL (by walk_at "om") (by walk_at "om") (by walk_at "om"))
local macro_rules | `(tactic| walk_at "slice") => `(tactic| (walk_at "sliceR"; walk_at "newL"))
local macro_rules | `(tactic| walk_at "addT") => `(tactic| (walk_at "addTR"; walk_at "newL"))
set_option hygiene false in
local macro_rules | `(tactic| walk_at "infoN") => `(tactic| (walk_at "infoR"; k_lt l9; k_lt2 m9; (try k_sweep)))
set_option hygiene false in
local macro_rules | `(tactic| walk_at "a0") => `(tactic| (case a0 => assumption))
set_option hygiene false in
local macro_rules | `(tactic| walk_at "a2") => `(tactic| (case a2 => assumption))
set_option hygiene false in
local macro_rules | `(tactic| walk_at "a4") => `(tactic| (case a4 => assumption))
set_option hygiene false in
local macro_rules | `(tactic| walk_at "a7") => `(tactic| (case a7 => assumption))
set_option hygiene false in
local macro_rules | `(tactic| walk_at "uW") => `(tactic| (case W => refine List.forall_mem_cons.mpr ⟨by k_mem, List.forall_mem_nil _⟩))
set_option hygiene false in
local macro_rules | `(tactic| walk_at "uU") => `(tactic| (case U => k_updF))
set_option hygiene false in
local macro_rules | `(tactic| walk_at "iR") => `(tactic| walk_at "iO")
set_option hygiene false in
local macro_rules | `(tactic| walk_at "sR") => `(tactic| subst R9)
set_option hygiene false in
local macro_rules | `(tactic| walk_at "sE") => `(tactic| subst e9)
set_option hygiene false in
local macro_rules | `(tactic| walk_at "sO") => `(tactic| subst o9)
set_option hygiene false in
local macro_rules | `(tactic| walk_at "dT") => `(tactic| (subst w8; subst e9))
set_option hygiene false in
local macro_rules | `(tactic| walk_at "sW") => `(tactic| subst w8)
set_option hygiene false in
local macro_rules | `(tactic| walk_at "sX") => `(tactic| subst ew9)
set_option hygiene false in
local macro_rules | `(tactic| walk_at "sK") => `(tactic| subst ek9)
set_option hygiene false in
local macro_rules | `(tactic| walk_at "sF") => `(tactic| subst e8)
set_option hygiene false in
local macro_rules | `(tactic| walk_at "cN") => `(tactic| clear n9)
local macro_rules | `(tactic| walk_at "addI") => `(tactic| (walk_at "addIR"; intro D' ws' h' F' N' l1 hI'; (try k_lt l1); (try k_sweep)))
local macro_rules | `(tactic| walk_at "addL") => `(tactic| first | exact News.isList (by k_asm) (by k_mem) | assumption)
local macro_rules | `(tactic| walk_at "addE") => `(tactic| first | assumption | exact .cons _ _ .nil | exact IntsAre.ofCarried (by assumption))
local macro_rules | `(tactic| walk_at "fs") => `(tactic| (intro _; rfl))
local macro_rules | `(tactic| walk_at "sliceR") => refL "slIs" "kmk_slice_lit" "kasm kasm sliceL kp kp sliceE ? wur kt sz" ""
local macro_rules | `(tactic| walk_at "kp") => `(tactic| kmk_part)
local macro_rules | `(tactic| walk_at "kt") => `(tactic| kmk_pure)
local macro_rules | `(tactic| walk_at "sz") => `(tactic| (rw [List.size_toArray, PySem.sizeLine_eq]; (try simp only [List.length_append, List.length_map, List.length_cons, List.length_nil]); walk_at "om"))
local macro_rules | `(tactic| walk_at "newL") => `(tactic| (intro D' h' F' N' l1; (try k_lt l1); (try k_sweep)))
local macro_rules | `(tactic| walk_at "addTR") => refL "boIs" "add_two" "kasm kasm mem mem sz2 ?" ""
local macro_rules | `(tactic| walk_at "sz2") => `(tactic| (simp only [PySem.sizeLine_eq, List.length_drop, List.length_map, List.length_append, List.length_cons, List.length_nil]; walk_at "om"))
local macro_rules | `(tactic| walk_at "addIR") => refL "boIs" "kmk_add_ints" "kasm kasm addL addL addE addE ? sz3" ""
local macro_rules | `(tactic| walk_at "sz3") => `(tactic| first | exact Nat.le_of_ble_eq_true rfl | walk_at "om")
local macro_rules | `(tactic| walk_at "infoR") => refL "52" "info_new" "kasm kasm kasm kasm rfl c_room c_room ?" "x9 d9 h9 tk9 q9 F9 N9 l9 m9 c9 e9"
local macro_rules | `(tactic| walk_at "appR") => refL "apIs" "append_S" "kasm kasm upd ? sz4" ""
local macro_rules | `(tactic| walk_at "upd") => `(tactic| k_upd)
local macro_rules | `(tactic| walk_at "sz4") => `(tactic| (simp only [PySem.sizeLine_eq, List.length_map]; walk_at "om"))
local macro_rules | `(tactic| walk_at "app") => `(tactic| (walk_at "appR"; intro h' F' N'; (try k_sweep)))
local macro_rules | `(tactic| walk_at "Pa") => firstL ["pT", "pK NormAt.keeps asm", "pK CharAt.keeps asm", "rK NormAt.keeps asm", "pK2 NormAt.keeps InfoAt.keeps asm asm", "pK2 NormAt.keeps CharAt.keeps asm asm", "pG2 asm asm", "oG asm", "pK StayP.keeps asm", "pK EmptyD.keeps asm", "pK InfoAt.keeps asm"]
local macro_rules | `(tactic| walk_at "noL") => firstL ["no1 asm", "no2 asm", "no3 asm", "no4 asm", "no2z asm", "no4z asm", "no5z asm"]
section PBase2
/-- what a call of a def does: it may change the objects of `led`, makes `own`, hands back a value -/
def Ctr2 (w : World) (mean : ExcName → Option Value) (mg mb : Str → Option Value) (D U : Nat) (f : Value) (args : List Value) (led : Led) (P : Heap → Prop) (Post : Value → Led → Led → Prop) : Prop :=
  ∀ (dp un : Nat) (fr : Option (List Env)) (gd : Option (List Code)) (h₀ : Heap) (s : Shared) (Res : Result → Shared → Prop),
    dp + D < recursionLimit → un + U < cLine → Amb w mean mg mb h₀ → h₀.StaysIn s.heap → (∀ p ∈ led, s.heap.get? p.1 = some p.2 ∧ h₀.get? p.1 = none) → P (hideAll s.heap (led.map (·.1))) →
    (∀ r h' tk' led' own, Keeps (led.map (·.1)) s.heap h' → (∀ p ∈ led', p.1 ∈ led.map (·.1)) → (∀ p ∈ led', h'.get? p.1 = some p.2) → (∀ p ∈ own, s.heap.get? p.1 = none ∧ h'.get? p.1 = some p.2) → Post r led' own →
      Res (.ok (.ret r)) { s with heap := h', toks := tk' }) →
    codeAny (model PySem.Challenge.rw_pb0193_01.row.prog w) (mkA dp un fr gd) (.call f ⟨args, []⟩) Res s

/-- a body has come to its end -/
def Fin2 (g : Heap) (led : Led) (Post : Value → Led → Led → Prop) (v : Value) (h' : Heap) : Prop :=
  ∃ L' m' news' led' own, Fr g L' h' m' ∧ News g L' h' news' ∧ (∀ p ∈ led', p.1 ∈ led.map (·.1)) ∧ (∀ p ∈ led', p ∈ news') ∧ (∀ p ∈ own, p ∈ news') ∧ (∀ p ∈ own, ∀ q ∈ led, p.1 ≠ q.1) ∧ Post v led' own

theorem Ctr2.enter {w : World} {mean : ExcName → Option Value} {mg mb : Str → Option Value} {D U : Nat} {args : List Value} {led : Led} {P : Heap → Prop} {Post : Value → Led → Led → Prop}
    {name qual : Str} {params : Arguments} {body : List Stmt} {scope : Scope} {dV kV doc pm cdv ct oc : Value} {an od : Option Addr} {osl : Array (Option Value)} {f : Addr} {binds : List (Str × Value)}
    (ho : (hd.heap_1 w.params).lookup f = some ⟨oc, od, .func (fnOf name qual params body scope dV kV doc pm an cdv ct), osl⟩) (hcd : codeIn (hd.heap_1 w.params) cdv qual = true)
    (hbind : ∀ s : Shared, (hd.heap_1 w.params).In s.heap → BindsTo s (fnOf name qual params body scope dV kV doc pm an cdv ct) ⟨args, []⟩ binds) (hloc : ∀ y ∈ binds, scope.names.lookup y.1 = some .local)
    (hco : scope.isCoroutine = false) (hgen : scope.isGenerator = false) (hk : scope.kind = .function)
    (hcell : ∀ x ∈ scope.names, x.2 ≠ .cell)
    (h : ∀ (dp un : Nat) (fr : Option (List Env)) (gd : Option (List Code)) (g : Heap) (L : Addr) (h₁ : Heap) (tk : Nat) (s : Shared) (Q : Value → Shared → Prop), dp + D < recursionLimit + 1 → un + U < cLine + 3 →
      Fr g L h₁ (fun y => binds.reverse.lookup y) → News g L h₁ led → (hd.heap_1 w.params).In g → Top hd.view_39 (looseW hd.view_39 [Str.ofString "buffer_of"]) mean mg mb g → P g →
      (∀ v h' tk', Fin2 g led Post v h' → Q v { s with heap := h', toks := tk' }) →
      wpAny (model PySem.Challenge.rw_pb0193_01.row.prog w) (mkA dp un fr gd) (execs body (envOf qual scope L f cdv))
        (fun fl s' => Q (match fl with | .ret v => v | _ => .none) s') (fun _ _ => False) { s with heap := h₁, toks := tk }) :
    Ctr2 w mean mg mb D U (.ref f) args led P Post := by
  intro dp un fr gd h₀ s Res hdp hun AM st hl hP k
  have nm : ∀ b o, h₀.get? b = some o → b ∉ led.map (·.1) := fun b o e q => by
    obtain ⟨p, hp, rfl⟩ := List.mem_map.mp q
    rw [(hl p hp).2] at e; cases e
  have stg : h₀.StaysIn (hideAll s.heap (led.map (·.1))) := fun b o e => hideAll_get _ (st b o e) (nm b o e)
  refine codeAny_call_def (fd := fnOf name qual params body scope dV kV doc pm an cdv ct) (body := body) (binds := binds) (by show dp < recursionLimit; (first | lia | omega)) ((AM.X.keeps st) _ _ ho) rfl (AM.T.nolimit.keeps st) (codeRec_of (AM.X.keeps st) hcd) rfl (hbind s (AM.X.keeps st)) hcell hloc (fun h₁ hns hk₁ => ?_) hco hgen hk
  refine wpAny_mono (h (dp + 1) (un + 3) _ gd (hideAll s.heap (led.map (·.1))) s.heap.objs.size h₁ _ s (fun v s' => Res (.ok (.ret v)) s') (by (first | lia | omega)) (by (first | lia | omega)) ⟨hns, fun b o e => hk₁ b o (of_hideAll _ e), Nat.le_of_eq (hideAll_size _ _)⟩
    (fun p hp => ⟨hk₁ _ _ (hl p hp).1, Nat.ne_of_lt (Heap.lt_size (hl p hp).1), hideAll_none _ (List.mem_map_of_mem hp)⟩) (AM.X.keeps fun b o e => stg b o e) (AM.T.keeps fun b o e => stg b o e) hP ?_) (fun _ _ x => x) (fun _ _ x => x.elim)
  rintro v h' tk' ⟨L', m', news', led', own, F', N', hl', hm', ho', hne, hpost⟩
  refine k v h' tk' led' own (fun a o e hn => F'.keep a o (hideAll_get _ e hn)) hl' (fun p hp => (N' p (hm' p hp)).1) (fun p hp => ⟨?_, (N' p (ho' p hp)).1⟩) hpost
  have hg := (N' p (ho' p hp)).2.2
  cases q : s.heap.get? p.1 with
  | none => rfl
  | some o =>
    rw [hideAll_get _ q (fun hm => by obtain ⟨z, hz, e⟩ := List.mem_map.mp hm; exact hne p hp z hz e.symm)] at hg
    cases hg

theorem Ctr2.useC {w : World} {mean : ExcName → Option Value} {mg mb : Str → Option Value} {D U : Nat} {f : Value} {args : List Value} {led : Led} {P : Heap → Prop} {Post : Value → Led → Led → Prop}
    (c : Ctr2 w mean mg mb D U f args led P Post) {A : Around} {g : Heap} {L : Addr} {m : Str → Option Value} {news : Led} {s : Shared} {R : Result → Shared → Prop}
    (F : Fr g L s.heap m) (N : News g L s.heap news) (X : (hd.heap_1 w.params).In g) (T : Top hd.view_39 (looseW hd.view_39 [Str.ofString "buffer_of"]) mean mg mb g)
    (hA : A.handled = none) (hdp : A.depth + D < recursionLimit) (hun : A.units + U < cLine) (hled : ∀ p ∈ led, p ∈ news) (hP : ∀ H : Heap, (∀ b o, g.get? b = some o → H.get? b = some o) → (∀ q ∈ news, q.1 ∉ led.map (·.1) → H.get? q.1 = some q.2) → P H)
    (k : ∀ r h' tk' led' own, Fr g L h' m → (∀ p ∈ led', p.1 ∈ led.map (·.1)) → (∀ p ∈ news, p.1 ∉ led.map (·.1) → h'.get? p.1 = some p.2 ∧ p.1 ≠ L ∧ g.get? p.1 = none) →
      News g L h' led' → News g L h' own → (∀ p ∈ own, ∀ q ∈ news, q.1 ≠ p.1) → Post r led' own → R (.ok (.ret r)) { s with heap := h', toks := tk' }) :
    codeAny (model PySem.Challenge.rw_pb0193_01.row.prog w) A (.call f ⟨args, []⟩) R s := by
  obtain ⟨hd, dp, fr, gd, un⟩ := A
  cases hA
  have nb : ∀ b o, g.get? b = some o → b ∉ led.map (·.1) := fun b o e q => by
    obtain ⟨p, hp, rfl⟩ := List.mem_map.mp q
    have := (N p (hled p hp)).2.2
    rw [this] at e; cases e
  refine c dp un fr gd g s _ hdp hun ⟨X, T⟩ F.keep (fun p hp => ⟨(N p (hled p hp)).1, (N p (hled p hp)).2.2⟩) (hP _ (fun b o e => hideAll_get _ (F.keep b o e) (nb b o e)) (fun q hq hn => hideAll_get _ (N q hq).1 hn)) ?_
  intro r h' tk' led' own hk hl' hm ho hpost
  have nL : L ∉ led.map (·.1) := fun q => by
    obtain ⟨p, hp, e⟩ := List.mem_map.mp q
    exact (N p (hled p hp)).2.1 e
  obtain ⟨oL, es, ep, hL, hLr⟩ := F.ns
  refine k r h' tk' led' own ⟨⟨oL, es, ep, hk L oL hL nL, hLr⟩, fun b o e => hk b o (F.keep b o e) (nb b o e), F.above⟩ hl' (fun p hp hn => ⟨hk _ _ (N p hp).1 hn, (N p hp).2⟩) ?_ ?_ ?_ hpost
  · intro p hp
    have : p.1 ∈ led.map (·.1) := hl' p hp
    obtain ⟨q, hq, e⟩ := List.mem_map.mp this
    exact ⟨hm p hp, e ▸ (N q (hled q hq)).2.1, e ▸ (N q (hled q hq)).2.2⟩
  · intro p hp
    refine ⟨(ho p hp).2, fun e => ?_, ?_⟩
    · have := (ho p hp).1; rw [e, hL] at this; cases this
    · cases q : g.get? p.1 with
      | none => rfl
      | some o => have := F.keep _ _ q; rw [(ho p hp).1] at this; cases this
  · intro p hp q hq e
    have := (N q hq).1
    rw [e, (ho p hp).1] at this; cases this

theorem Ctr2.use {w : World} {mean : ExcName → Option Value} {mg mb : Str → Option Value} {D U : Nat} {f : Value} {args : List Value} {led : Led} {P : Heap → Prop} {Post : Value → Led → Led → Prop}
    (c : Ctr2 w mean mg mb D U f args led P Post) {A : Around} {g : Heap} {L : Addr} {m : Str → Option Value} {news : Led} {s : Shared} {Q E : Value → Shared → Prop}
    (F : Fr g L s.heap m) (N : News g L s.heap news) (X : (hd.heap_1 w.params).In g) (T : Top hd.view_39 (looseW hd.view_39 [Str.ofString "buffer_of"]) mean mg mb g)
    (hA : A.handled = none) (hdp : A.depth + D < recursionLimit) (hun : A.units + U < cLine) (hled : ∀ p ∈ led, p ∈ news) (hP : ∀ H : Heap, (∀ b o, g.get? b = some o → H.get? b = some o) → (∀ q ∈ news, q.1 ∉ led.map (·.1) → H.get? q.1 = some q.2) → P H)
    (k : ∀ r h' tk' led' own, Fr g L h' m → (∀ p ∈ led', p.1 ∈ led.map (·.1)) → (∀ p ∈ news, p.1 ∉ led.map (·.1) → h'.get? p.1 = some p.2 ∧ p.1 ≠ L ∧ g.get? p.1 = none) →
      News g L h' led' → News g L h' own → (∀ p ∈ own, ∀ q ∈ news, q.1 ≠ p.1) → Post r led' own → Q r { s with heap := h', toks := tk' }) :
    wpAny (model PySem.Challenge.rw_pb0193_01.row.prog w) A (call f args) Q E s := wpAny_call (c.useC F N X T hA hdp hun hled hP k)
theorem fin2 {g : Heap} {led : Led} {Post : Value → Led → Led → Prop} {v : Value} {h' : Heap} {L' : Addr} {m' : Str → Option Value} {news' led' own : Led} (F : Fr g L' h' m') (N : News g L' h' news')
    (h1 : ∀ p ∈ led', p ∈ news') (h2 : ∀ p ∈ own, p ∈ news') (h3 : ∀ p ∈ own, ∀ q ∈ led, p.1 ≠ q.1) (hl : ∀ p ∈ led', p.1 ∈ led.map (·.1)) (hp : Post v led' own) : Fin2 g led Post v h' := ⟨L', m', news', led', own, F, N, hl, h1, h2, h3, hp⟩
end PBase2
section PLoops
def SEnd {σ : Type} (g : Heap) (L : Addr) (upd : σ → (Str → Option Value) → Str → Option Value) (led : σ → Led) (I : σ → Prop) (meas : σ → Nat) (m₀ : Str → Option Value) (s : Shared) (Q : Flow → Shared → Prop) (n : Nat) (f : Flow) (s' : Shared) : Prop :=
  match f with
  | .ret v => Q (.ret v) s'
  | .brk => Q .next s'
  | _ => ∃ x h' tk' m' news', s' = { s with heap := h', toks := tk' } ∧ I x ∧ meas x < n ∧ Fr g L h' m' ∧ m' = upd x m₀ ∧ News g L h' news' ∧ ∀ p ∈ led x, p ∈ news'
theorem SEnd.next {σ : Type} {g : Heap} {L : Addr} {upd : σ → (Str → Option Value) → Str → Option Value} {led : σ → Led} {I : σ → Prop} {meas : σ → Nat} {m₀ : Str → Option Value} {s : Shared} {Q : Flow → Shared → Prop} {n : Nat}
    {h' : Heap} {tk' : Nat} {m' : Str → Option Value} {news' : Led} (x : σ) (F : Fr g L h' m') (N : News g L h' news') (hn : ∀ p ∈ led x, p ∈ news') (hm : m' = upd x m₀) (hI : I x) (hl : meas x < n) :
    SEnd g L upd led I meas m₀ s Q n .next { s with heap := h', toks := tk' } := ⟨x, h', tk', m', news', rfl, hI, hl, F, hm, N, hn⟩
theorem SEnd.cont {σ : Type} {g : Heap} {L : Addr} {upd : σ → (Str → Option Value) → Str → Option Value} {led : σ → Led} {I : σ → Prop} {meas : σ → Nat} {m₀ : Str → Option Value} {s : Shared} {Q : Flow → Shared → Prop} {n : Nat}
    {h' : Heap} {tk' : Nat} {m' : Str → Option Value} {news' : Led} (x : σ) (F : Fr g L h' m') (N : News g L h' news') (hn : ∀ p ∈ led x, p ∈ news') (hm : m' = upd x m₀) (hI : I x) (hl : meas x < n) :
    SEnd g L upd led I meas m₀ s Q n .cont { s with heap := h', toks := tk' } := ⟨x, h', tk', m', news', rfl, hI, hl, F, hm, N, hn⟩
theorem while_S {w : World} {A : Around} {E : Value → Shared → Prop} {s : Shared} {env : Env} {test : PySem.Expr} {body orelse : List Stmt} {pos : Pos} {Q : Flow → Shared → Prop} {g : Heap} {L : Addr} {m₀ : Str → Option Value} {σ : Type} {x₀ : σ}
    (upd : σ → (Str → Option Value) → Str → Option Value) (led : σ → Led) (I : σ → Prop) (meas : σ → Nat)
    (hE : PassesOwn (model PR w) A env E) (F : Fr g L s.heap m₀) (N : News g L s.heap (led x₀)) (e₀ : upd x₀ m₀ = m₀) (i₀ : I x₀)
    (turn : ∀ x h tk, I x → Fr g L h (upd x m₀) → News g L h (led x) → wpAny (model PR w) A (isTrue test env (eval test env))
      (fun b s₂ => WhlIf b (wpAny (model PR w) A (execs body env) (SEnd g L upd led I meas m₀ s Q (meas x)) E s₂) (wpAny (model PR w) A (execs orelse env) Q E s₂)) E { s with heap := h, toks := tk }) :
    wpAny (model PR w) A (exec (.While test body orelse pos) env) Q E s := by
  have all : ∀ n, ∀ x h tk, meas x = n → I x → Fr g L h (upd x m₀) → News g L h (led x) → WhlRest PR w A E env test body orelse Q 0 { s with heap := h, toks := tk } := by
    intro n
    induction n using Nat.strongRecOn with
    | ind n ih =>
      intro x h tk hm hi F' N'
      have hstep : WhlRest PR w A E env test body orelse Q (0 + 1) { s with heap := h, toks := tk } := by
        refine whl_turn (k := 0) hE (wpAny_mono (turn x h tk hi F' N') (fun b s₂ hb => ?_) fun _ _ e => e)
        cases b with
        | false => exact hb
        | true =>
          unfold WhlIf at hb ⊢
          rw [if_pos rfl] at hb ⊢
          refine wpAny_mono hb (fun f s₃ hf => ?_) fun _ _ e => e
          cases f with
          | ret v => exact hf
          | brk => exact hf
          | next =>
            obtain ⟨x', h', tk', m', news', rfl, hI, hl, F3, rfl, N3, hn⟩ := hf
            exact ih (meas x') (hm ▸ hl) x' h' tk' rfl hI F3 fun p hp => N3 p (hn p hp)
          | cont =>
            obtain ⟨x', h', tk', m', news', rfl, hI, hl, F3, rfl, N3, hn⟩ := hf
            exact ih (meas x') (hm ▸ hl) x' h' tk' rfl hI F3 fun p hp => N3 p (hn p hp)
      exact hstep
  exact whl_start 0 (all _ x₀ s.heap s.toks rfl i₀ (e₀.symm ▸ F) N)
def FEnd {σ : Type} (g : Heap) (L : Addr) (upd : σ → (Str → Option Value) → Str → Option Value) (led : σ → Led) (I : Nat → σ → Prop) (m₀ : Str → Option Value) (s : Shared) (Q : Flow → Shared → Prop) (xn : Str) (own : Led) (it : Addr) (i : Nat) (f : Flow) (s' : Shared) : Prop :=
  match f with
  | .ret v => Q (.ret v) s'
  | .brk => Q .next s'
  | _ => ∃ x h' tk' m' news', s' = { s with heap := h', toks := tk' } ∧ I (i + 1) x ∧ Fr g L h' m' ∧ (∀ y, y ≠ xn → m' y = upd x m₀ y) ∧ News g L h' news' ∧ (∀ p ∈ own, p ∈ news') ∧ (∀ p ∈ led x, p ∈ news') ∧ ∀ p ∈ led x, p.1 ≠ it
section
variable {σ : Type} {g : Heap} {L : Addr} {upd : σ → (Str → Option Value) → Str → Option Value} {led : σ → Led} {I : Nat → σ → Prop} {m₀ : Str → Option Value} {s : Shared} {Q : Flow → Shared → Prop} {xn : Str} {own : Led} {it : Addr} {i : Nat}
theorem FEnd.next {h' : Heap} {tk' : Nat} {m' : Str → Option Value} {news' : Led} (x : σ) (F : Fr g L h' m') (N : News g L h' news') (ho : ∀ p ∈ own, p ∈ news') (hn : ∀ p ∈ led x, p ∈ news') (hne : ∀ p ∈ led x, p.1 ≠ it) (hm : ∀ y, y ≠ xn → m' y = upd x m₀ y) (hI : I (i + 1) x) :
    FEnd g L upd led I m₀ s Q xn own it i .next { s with heap := h', toks := tk' } := ⟨x, h', tk', m', news', rfl, hI, F, hm, N, ho, hn, hne⟩
end
theorem For_S {w : World} {A : Around} {E : Value → Shared → Prop} {s : Shared} {env : Env} {g : Heap} {L : Addr} {m : Str → Option Value} {x : Str} {px pos : Pos} {iter : PySem.Expr} {body : List Stmt} {Q : Flow → Shared → Prop} (_F : Fr g L s.heap m) (hx : env.kindOf x = some .local)
    (hp : (env.scope.kind == .class || (env.scope.kind == .module && env.locals != env.globals)) = false) (hE : PassesOwn (model PR w) A env E)
    (h : wpAny (model PR w) A (eval iter env) (fun xv s₁ => Stop (wpAny (model PR w) A (pyIter xv) (fun it s₂ => LoopAtV PR w A g env x body Q E it s₂) E s₁)) E s)
    (hs : ∀ x, foldedSetIterable iter env x = pure x) :
    wpAny (model PR w) A (exec (.For (.Name x px) iter body [] pos) env) Q E s := For_invV g hx hp h hs hE
theorem off_it {σ : Type} {upd : σ → (Str → Option Value) → Str → Option Value} {m₀ m₁ : Str → Option Value} {x : σ} {xn : Str} {v : Value} (h : ∀ y, y ≠ xn → m₁ y = upd x m₀ y) :
    (fun y => if y = xn then some v else m₁ y) = fun y => if y = xn then some v else upd x m₀ y := by
  funext y
  by_cases e : y = xn
  · rw [if_pos e, if_pos e]
  · rw [if_neg e, if_neg e]; exact h y e
theorem off_out {σ : Type} {upd : σ → (Str → Option Value) → Str → Option Value} {m₀ m₁ : Str → Option Value} {x : σ} {xn : Str} (h : ∀ y, y ≠ xn → m₁ y = upd x m₀ y) :
    m₁ = fun y => if y = xn then m₁ xn else upd x m₀ y := by
  funext y
  by_cases e : y = xn
  · rw [if_pos e, e]
  · rw [if_neg e]; exact h y e
theorem for_list_S {w : World} {A : Around} {E : Value → Shared → Prop} {s : Shared} {env : Env} {g : Heap} {m₀ : Str → Option Value} {xn : Str} {body : List Stmt} {Q : Flow → Shared → Prop} {σ : Type} {x₀ : σ} {its : Array Value} {n : Nat} {l : Addr} {news : Led}
    (upd : σ → (Str → Option Value) → Str → Option Value) (led : σ → Led) (I : Nat → σ → Prop)
    (hh : A.handled = none) (F : Fr g env.locals s.heap m₀) (N : News g env.locals s.heap news) (hl : (l, listOf its n) ∈ news) (hled : ∀ p ∈ led x₀, p ∈ news) (e₀ : upd x₀ m₀ = m₀) (i₀ : I 0 x₀)
    (turn : ∀ i v x h tk it oi, its[i]? = some v → I i x → Fr g env.locals h (fun y => if y = xn then some v else upd x m₀ y) → News g env.locals h ((it, oi) :: (l, listOf its n) :: led x) → l ≠ it → (∀ p ∈ led x, p.1 ≠ it) →
      wpAny (model PR w) A (execs body env) (FEnd g env.locals upd led I m₀ s Q xn [(it, oi), (l, listOf its n)] it i) E { s with heap := h, toks := tk })
    (done : ∀ x u h tk, I its.size x → Fr g env.locals h (fun y => if y = xn then u else upd x m₀ y) → News g env.locals h (led x) → Q .next { s with heap := h, toks := tk }) :
    wpAny (model PR w) A (pyIter (.ref l)) (fun it s₂ => LoopAtV PR w A g env xn body Q E it s₂) E s := by
  have hls : s.heap.IsList l its := ⟨_, (N _ hl).1, rfl, n, rfl⟩
  have hlt : l < s.heap.objs.size := Heap.lt_size (N _ hl).1
  have hne : l ≠ s.heap.objs.size := Nat.ne_of_lt hlt
  have hLl : l ≠ env.locals := (N _ hl).2.1
  have hsub : ∀ p ∈ (l, listOf its n) :: led x₀, p ∈ news := fun p hp => by
    rcases List.mem_cons.mp hp with rfl | hp
    · exact hl
    · exact hled p hp
  refine wpAny_pyIter_list hls ?_
  have W := Walks.list (prog := PR) (w := w) hh s.heap.objs.size l hne its
  refine ⟨_, _, _, its.size, _, _, m₀, (l, listOf its n) :: led x₀, fun i m₁ news₁ => ∃ x, news₁ = (l, listOf its n) :: led x ∧ I i x ∧ ∀ y, y ≠ xn → m₁ y = upd x m₀ y, rfl, W, ?_, ?_, ?_, ⟨⟨_, Heap.get?_push_size _ rfl, rfl, rfl⟩, hls.at fun o e => Heap.get?_push_of_some _ e⟩, F.push _,
    (fun p hp => ⟨Heap.get?_push_of_some _ (N p (hsub p hp)).1, (N p (hsub p hp)).2⟩), ⟨x₀, rfl, i₀, fun y _ => by rw [e₀]⟩, ?_, ?_⟩
  · intro hm
    rcases List.mem_cons.mp hm with e | hm
    · exact absurd F.ns.lt (e ▸ Nat.lt_irrefl _)
    · exact hLl (List.mem_singleton.mp hm).symm
  · intro b hb
    rw [List.mem_singleton.mp hb]
    exact next_is_new F
  · intro p hp hI
    exact absurd (Heap.lt_size (N p (hsub p hp)).1) ((List.mem_singleton.mp hI) ▸ Nat.lt_irrefl _)
  · rintro i v m₁ news₁ s₁ own hZ1 hin hP hZ2 hoff hown hown2 hown3 hst' F₁ N₁
    show wpAny _ _ _ _ _ _
    k_fold
    obtain ⟨hh', tk', rfl⟩ := hZ1
    obtain ⟨x, rfl, hJ, hm⟩ := hZ2
    obtain ⟨⟨oi, hoi, hoir⟩, ⟨ol, hol, holr⟩⟩ := hst'
    have h1 : (s.heap.objs.size, oi) ∈ own := hown3 _ (.head _) (next_is_new F) oi hoi
    have q2 := (N₁ (l, listOf its n) (List.mem_append_right _ (.head _))).1
    have hownE : ∀ p ∈ own, p = (s.heap.objs.size, oi) ∨ p = (l, listOf its n) := fun p hp => by
      have e := hown2 p hp
      rcases List.mem_cons.mp (hown p hp) with e1 | e1
      · left
        rw [e1] at e
        have := hoi.symm.trans e
        exact Prod.ext e1 (Option.some.inj this).symm
      · right
        have e1 := List.mem_singleton.mp e1
        rw [e1] at e
        have := q2.symm.trans e
        exact Prod.ext e1 (Option.some.inj this).symm
    rw [off_it hm] at F₁
    refine wpAny_mono (turn i v x hh' tk' s.heap.objs.size oi hP hJ F₁ (fun p hp => ?_) hne (fun p hp => ?_)) (fun f s₂ hf => ?_) fun _ _ e => e
    · rcases List.mem_cons.mp hp with rfl | hp
      · exact N₁ _ (List.mem_append_left _ h1)
      · exact N₁ _ (List.mem_append_right _ hp)
    · exact fun e => hoff p (.tail _ hp) (e ▸ List.mem_singleton.mpr rfl)
    · have fin : (∃ x h' tk'' m' news', s₂ = { s with heap := h', toks := tk'' } ∧ I (i + 1) x ∧ Fr g env.locals h' m' ∧ (∀ y, y ≠ xn → m' y = upd x m₀ y) ∧ News g env.locals h' news' ∧ (∀ p ∈ [(s.heap.objs.size, oi), (l, listOf its n)], p ∈ news') ∧ (∀ p ∈ led x, p ∈ news') ∧ ∀ p ∈ led x, p.1 ≠ s.heap.objs.size) →
          LoopStepU g env.locals [s.heap.objs.size] own (fun m₁ news₁ => ∃ x, news₁ = (l, listOf its n) :: led x ∧ I (i + 1) x ∧ ∀ y, y ≠ xn → m₁ y = upd x m₀ y) { s with heap := hh', toks := tk' } .next s₂ := by
        rintro ⟨x', h', tk'', m', news', rfl, hI, F', hm', N', ho, hn, hne'⟩
        refine LoopStepU.intro F' (fun p hp => ?_) (fun p hp => ?_) ⟨x', rfl, hI, hm'⟩
        · rcases List.mem_append.mp hp with hp | hp
          · rcases hownE p hp with rfl | rfl
            · exact N' _ (ho _ (.head _))
            · exact N' _ (ho _ (.tail _ (.head _)))
          · rcases List.mem_cons.mp hp with rfl | hp
            · exact N' _ (ho _ (.tail _ (.head _)))
            · exact N' _ (hn _ hp)
        · rcases List.mem_cons.mp hp with rfl | hp
          · exact fun z => hne (List.mem_singleton.mp z)
          · exact fun z => hne' p hp (List.mem_singleton.mp z)
      cases f with
      | ret v => exact .ret hf
      | brk => exact .brk hf
      | next => exact .next (fin hf)
      | cont => exact .cont (fin hf)
  · rintro h' tk m' news' F' N' _ ⟨x, rfl, hJ, hm⟩
    rw [off_out hm] at F'
    exact done x _ h' tk hJ F' fun p hp => N' p (.tail _ hp)
theorem for_range_S {w : World} {A : Around} {E : Value → Shared → Prop} {s : Shared} {env : Env} {g : Heap} {m₀ : Str → Option Value} {xn : Str} {body : List Stmt} {Q : Flow → Shared → Prop} {σ : Type} {x₀ : σ} {r : Addr} {b : Int} {t u v : Tok} {n : Nat} {news : Led}
    (upd : σ → (Str → Option Value) → Str → Option Value) (led : σ → Led) (I : Nat → σ → Prop)
    (hh : A.handled = none) (hr : IsRange s.heap r 0 b 1 t u v) (hsm : Builtin.Range.small 0 b 1 = true) (hn : Builtin.Range.rangeSize 0 b 1 = (n : Int)) (F : Fr g env.locals s.heap m₀) (N : News g env.locals s.heap news) (hled : ∀ p ∈ led x₀, p ∈ news) (e₀ : upd x₀ m₀ = m₀) (i₀ : I 0 x₀)
    (turn : ∀ i x h tk it oi tv, i < n → I i x → Fr g env.locals h (fun y => if y = xn then some (.int (i : Nat) tv) else upd x m₀ y) → News g env.locals h ((it, oi) :: led x) → (∀ p ∈ led x, p.1 ≠ it) →
      wpAny (model PR w) A (execs body env) (FEnd g env.locals upd led I m₀ s Q xn [(it, oi)] it i) E { s with heap := h, toks := tk })
    (done : ∀ x u h tk, I n x → Fr g env.locals h (fun y => if y = xn then u else upd x m₀ y) → News g env.locals h (led x) → Q .next { s with heap := h, toks := tk }) :
    wpAny (model PR w) A (pyIter (.ref r)) (fun it s₂ => LoopAtV PR w A g env xn body Q E it s₂) E s := by
  refine wpAny_pyIter_range hr hsm ?_
  have W := LCg.range_walks (prog := PR) (w := w) (I := s.heap.objs.size) hh 0 n
  refine ⟨_, _, _, n, _, _, m₀, led x₀, fun i m₁ news₁ => ∃ x, news₁ = led x ∧ I i x ∧ ∀ y, y ≠ xn → m₁ y = upd x m₀ y, rfl, W, ?_, ?_, ?_, (by show IsRangeIter _ _ _ _ _; rw [hn]; simpa using Heap.get?_push_size _ rfl), F.push _,
    (fun p hp => ⟨Heap.get?_push_of_some _ (N p (hled p hp)).1, (N p (hled p hp)).2⟩), ⟨x₀, rfl, i₀, fun y _ => by rw [e₀]⟩, ?_, ?_⟩
  · intro hm
    exact absurd F.ns.lt ((List.mem_singleton.mp hm) ▸ Nat.lt_irrefl _)
  · intro b hb
    rw [List.mem_singleton.mp hb]
    exact next_is_new F
  · intro p hp hI
    exact absurd (Heap.lt_size (N p (hled p hp)).1) ((List.mem_singleton.mp hI) ▸ Nat.lt_irrefl _)
  · rintro i v m₁ news₁ s₁ own hZ1 hin hZ2 hZ3 hoff hown hown2 hown3 hst' F₁ N₁
    show wpAny _ _ _ _ _ _
    k_fold
    obtain ⟨hh', tk', rfl⟩ := hZ1
    obtain ⟨tv, rfl⟩ := hZ2
    obtain ⟨x, rfl, hJ, hm⟩ := hZ3
    obtain ⟨oi, hoi⟩ : ∃ oi, hh'.get? s.heap.objs.size = some oi := ⟨_, hst'⟩
    have h1 : (s.heap.objs.size, oi) ∈ own := hown3 _ (.head _) (next_is_new F) oi hoi
    have hownE : ∀ p ∈ own, p = (s.heap.objs.size, oi) := fun p hp => by
      have e := hown2 p hp
      have e1 := List.mem_singleton.mp (hown p hp)
      rw [e1] at e
      have := hoi.symm.trans e
      exact Prod.ext e1 (Option.some.inj this).symm
    rw [off_it hm, Int.zero_add] at F₁
    refine wpAny_mono (turn i x hh' tk' s.heap.objs.size oi tv hin hJ F₁ (fun p hp => ?_) (fun p hp => ?_)) (fun f s₂ hf => ?_) fun _ _ e => e
    · rcases List.mem_cons.mp hp with rfl | hp
      · exact N₁ _ (List.mem_append_left _ h1)
      · exact N₁ _ (List.mem_append_right _ hp)
    · exact fun e => hoff p hp (e ▸ List.mem_singleton.mpr rfl)
    · have fin : (∃ x h' tk'' m' news', s₂ = { s with heap := h', toks := tk'' } ∧ I (i + 1) x ∧ Fr g env.locals h' m' ∧ (∀ y, y ≠ xn → m' y = upd x m₀ y) ∧ News g env.locals h' news' ∧ (∀ p ∈ [(s.heap.objs.size, oi)], p ∈ news') ∧ (∀ p ∈ led x, p ∈ news') ∧ ∀ p ∈ led x, p.1 ≠ s.heap.objs.size) →
          LoopStepU g env.locals [s.heap.objs.size] own (fun m₁ news₁ => ∃ x, news₁ = led x ∧ I (i + 1) x ∧ ∀ y, y ≠ xn → m₁ y = upd x m₀ y) { s with heap := hh', toks := tk' } .next s₂ := by
        rintro ⟨x', h', tk'', m', news', rfl, hI, F', hm', N', ho, hn, hne'⟩
        refine LoopStepU.intro F' (fun p hp => ?_) (fun p hp => ?_) ⟨x', rfl, hI, hm'⟩
        · rcases List.mem_append.mp hp with hp | hp
          · rw [hownE p hp]
            exact N' _ (ho _ (.head _))
          · exact N' _ (hn _ hp)
        · exact fun z => hne' p hp (List.mem_singleton.mp z)
      cases f with
      | ret v => exact .ret hf
      | brk => exact .brk hf
      | next => exact .next (fin hf)
      | cont => exact .cont (fin hf)
  · rintro h' tk m' news' F' N' _ ⟨x, rfl, hJ, hm⟩
    rw [off_out hm] at F'
    exact done x _ h' tk hJ F' N'
end PLoops
section PDraw
theorem off_Draw : True := by
  w_top off
  exact trivial
theorem draw_c {w : World} {mean : ExcName → Option Value} {mg mb : Str → Option Value} {p c : Addr} {k t many : Int} {tk tt tm : Tok} {n : Nat} (hk0 : 0 ≤ k) (hk1 : k ≤ 100) (ht0 : 0 ≤ t) (ht1 : t < 997) (hm0 : 0 < many) (hm1 : many ≤ 100) :
    Ctr w mean mg mb 5 50 (.ref 330) [.ref p, .int many tm] [(p, listOf #[.ref c, .int k tk, .int t tt] n)] (fun g => ∃ vs ns, g.IsList c (List.toArray vs) ∧ IntsAre vs ns ∧ ns.length ≤ 60)
      (fun r led' own => ∃ v tv tk', r = .int v tv ∧ 0 ≤ v ∧ v < many ∧ led' = [(p, listOf #[.ref c, .int (k + 1) tk', .int t tt] n)] ∧ own = []) := by
  (k_dflt refine' Ctr.enter ?k6 ?k7 ?k9 ?kB ?c2 ?c3 ?c4 ?c5 ?_)
  case k6 => k_dflt k_is
  case k7 => k_dflt k_is
  case k9 => k_dflt (intro s9 X9; first | exact BindsTo.of_eq rfl | exact binds_K X9 rfl (by k_is) rfl rfl rfl)
  case c5 => decide
  case kB => k_dflt exact locs rfl
  case c2 => exact rfl
  case c3 => exact rfl
  case c4 => exact rfl
  rintro dp un fr gd g L h₁ tk₁ s Q hdp hun F N X T hP9 hret
  (try dsimp only)
  show wpAny _ _ _ _ _ _
  k_fold
  obtain ⟨vs, ns, hL, hI, hlen⟩ := hP9
  (try dsimp only)
  (try k_fold)
  k_steps
  all_goals (try k_data)
  all_goals (
    (try dsimp only)
    (try k_unfold)
    (try dsimp only)
    exact hret _ _ _ (fin0 (by k_asm) (by k_asm) (by (repeat (first | exact List.forall_mem_nil _ | refine List.forall_mem_cons.mpr ⟨by k_mem, ?_⟩))) (by (repeat (first | exact List.forall_mem_nil _ | refine List.forall_mem_cons.mpr ⟨by k_mem, ?_⟩))) (by (repeat (first | exact List.forall_mem_nil _ | refine List.forall_mem_cons.mpr ⟨?_, ?_⟩ | (refine neN ?_; (try dsimp only); (first | lia | omega))))) (by exact rfl) (⟨_, _, _, rfl, Int.fmod_nonneg_of_pos _ hm0, Int.fmod_lt_of_pos _ hm0, rfl, rfl⟩)))
end PDraw
section PCode
theorem off_Code : True := by
  w_top off
  exact trivial
def Good (c : Int) : Prop := (4352 ≤ c ∧ c < 4371) ∨ (4449 ≤ c ∧ c < 4470) ∨ (4519 < c ∧ c < 4547) ∨ (44032 ≤ c ∧ c < 55204) ∨ c = 65
theorem good_code {a b d e : Int} (a0 : 0 ≤ a) (a1 : a < 2) (b0 : 0 ≤ b) (b1 : b < 2) (d0 : 0 ≤ d) (d1 : d < 2) (e0 : 0 ≤ e) (e1 : e < 6) :
    Good ([4352 + 18 * a, 4449 + 20 * b, 4519 + [1, 27].getD d.toNat 0, 44032 + 588 * (18 * a) + 28 * (20 * b), 44032 + 588 * (18 * a) + 28 * (20 * b) + [1, 27].getD d.toNat 0, 65].getD e.toNat 0) := by
  have hd : [(1 : Int), 27].getD d.toNat 0 = 1 + 26 * d := by
    have : d = 0 ∨ d = 1 := by (first | lia | omega)
    rcases this with rfl | rfl <;> rfl
  rw [hd]
  have he : e = 0 ∨ e = 1 ∨ e = 2 ∨ e = 3 ∨ e = 4 ∨ e = 5 := by (first | lia | omega)
  rcases he with rfl | rfl | rfl | rfl | rfl | rfl
  · exact .inl ⟨by show 4352 ≤ 4352 + 18 * a; (first | lia | omega), by show 4352 + 18 * a < 4371; (first | lia | omega)⟩
  · exact .inr (.inl ⟨by show 4449 ≤ 4449 + 20 * b; (first | lia | omega), by show 4449 + 20 * b < 4470; (first | lia | omega)⟩)
  · exact .inr (.inr (.inl ⟨by show 4519 < 4519 + (1 + 26 * d); (first | lia | omega), by show 4519 + (1 + 26 * d) < 4547; (first | lia | omega)⟩))
  · exact .inr (.inr (.inr (.inl ⟨by show 44032 ≤ 44032 + 588 * (18 * a) + 28 * (20 * b); (first | lia | omega), by show 44032 + 588 * (18 * a) + 28 * (20 * b) < 55204; (first | lia | omega)⟩)))
  · exact .inr (.inr (.inr (.inl ⟨by show 44032 ≤ 44032 + 588 * (18 * a) + 28 * (20 * b) + (1 + 26 * d); (first | lia | omega), by show 44032 + 588 * (18 * a) + 28 * (20 * b) + (1 + 26 * d) < 55204; (first | lia | omega)⟩)))
  · exact .inr (.inr (.inr (.inr rfl)))
theorem Good.bd {c : Int} (h : Good c) : 0 ≤ c ∧ c < 100000 := by
  rcases h with ⟨h1, h2⟩ | ⟨h1, h2⟩ | ⟨h1, h2⟩ | ⟨h1, h2⟩ | h1
  · exact ⟨by (first | lia | omega), by (first | lia | omega)⟩
  · exact ⟨by (first | lia | omega), by (first | lia | omega)⟩
  · exact ⟨by (first | lia | omega), by (first | lia | omega)⟩
  · exact ⟨by (first | lia | omega), by (first | lia | omega)⟩
  · subst h1; exact ⟨by decide, by decide⟩
set_option hygiene false in
local macro_rules | `(tactic| walk_at "P330") => `(tactic| (case P => intro H9 b9 _; exact ⟨_, _, base_list (by assumption) b9, by assumption, by assumption⟩))
local macro_rules | `(tactic| walk_at "call ref") => callL "1" 330 "draw_c a0 a1 a2 a3 a4 a5" "uF uU aX P330 uX" "v9 t9 tk9 e9 l9 u9 eo9 ew9" "sE sX dJ cN zO"
theorem code_c {w : World} {mean : ExcName → Option Value} {mg mb : Str → Option Value} {p c : Addr} {k t : Int} {tk tt : Tok} {n : Nat} (hk0 : 0 ≤ k) (hk1 : k ≤ 90) (ht0 : 0 ≤ t) (ht1 : t < 997) :
    Ctr w mean mg mb 10 100 (.ref 337) [.ref p] [(p, listOf #[.ref c, .int k tk, .int t tt] n)] (fun g => ∃ vs ns, g.IsList c (List.toArray vs) ∧ IntsAre vs ns ∧ ns.length ≤ 60)
      (fun r led' own => own = [] ∧ (∃ v tv, r = .int v tv ∧ Good v) ∧ ∃ k' tk', led' = [(p, listOf #[.ref c, .int k' tk', .int t tt] n)] ∧ k' = k + 4) := by
  (k_dflt refine' Ctr.enter ?k6 ?k7 ?k9 ?kB ?c2 ?c3 ?c4 ?c5 ?_)
  case k6 => k_dflt k_is
  case k7 => k_dflt k_is
  case k9 => k_dflt (intro s9 X9; first | exact BindsTo.of_eq rfl | exact binds_K X9 rfl (by k_is) rfl rfl rfl)
  case c5 => decide
  case kB => k_dflt exact locs rfl
  case c2 => exact rfl
  case c3 => exact rfl
  case c4 => exact rfl
  rintro dp un fr gd g L h₁ tk₁ s Q hdp hun F N X T hP9 hret
  (try dsimp only)
  show wpAny _ _ _ _ _ _
  k_fold
  obtain ⟨vs, ns, hL, hI, hlen⟩ := hP9
  (try dsimp only)
  (try k_fold)
  k_steps
  all_goals (try k_data)
  all_goals (try k_unfold)
  all_goals (try dsimp only)
  all_goals (
    (try dsimp only)
    (try k_unfold)
    (try dsimp only)
    exact hret _ _ _ (fin0 (by k_asm) (by k_asm) (by (repeat (first | exact List.forall_mem_nil _ | refine List.forall_mem_cons.mpr ⟨by k_mem, ?_⟩))) (by (repeat (first | exact List.forall_mem_nil _ | refine List.forall_mem_cons.mpr ⟨by k_mem, ?_⟩))) (by (repeat (first | exact List.forall_mem_nil _ | refine List.forall_mem_cons.mpr ⟨?_, ?_⟩ | (refine neN ?_; (try dsimp only); (first | lia | omega))))) (by exact rfl) (⟨rfl, ⟨_, _, rfl, good_code (by assumption) (by assumption) (by assumption) (by assumption) (by assumption) (by assumption) (by assumption) (by assumption)⟩, _, _, rfl, by (first | lia | omega)⟩)))
end PCode
section PHparts
theorem off_Hparts : True := by
  w_top off
  exact trivial
abbrev tup2 (a : Int) (ta : Tok) (b : Int) (tb : Tok) : Obj := { cls := .type "tuple", data := .seq #[.int a ta, .int b tb] }
def hparts (c : Int) : Option (Int × Int) :=
  if 0 ≤ c - 44032 ∧ c - 44032 < 19 * 21 * 28 then
    if 0 < (c - 44032).fmod 28 then some (c - (c - 44032).fmod 28, 4519 + (c - 44032).fmod 28)
    else some (4352 + (c - 44032).fdiv (21 * 28), 4449 + ((c - 44032).fdiv 28).fmod 21)
  else none
def PairPost (o : Option (Int × Int)) (r : Value) (own : Led) : Prop := match o with
  | none => r = .none ∧ own = []
  | some q => ∃ x ta tb, r = .ref x ∧ own = [(x, tup2 q.1 ta q.2 tb)]
theorem pairPost_some {o : Option (Int × Int)} {a b : Int} {x : Addr} {ta tb : Tok} (h : o = some (a, b)) : PairPost o (.ref x) [(x, tup2 a ta b tb)] := by
  subst h; exact ⟨x, ta, tb, rfl, rfl⟩
theorem pairPost_none {o : Option (Int × Int)} (h : o = none) : PairPost o .none [] := by
  subst h; exact ⟨rfl, rfl⟩
theorem hparts_c {w : World} {mean : ExcName → Option Value} {mg mb : Str → Option Value} {c : Int} {tc : Tok} (h0 : 0 ≤ c) (h1 : c < 100000) :
    Ctr w mean mg mb 5 50 (.ref 176) [.int c tc] [] (fun _ => True)
      (fun r led' own => led' = [] ∧ PairPost (hparts c) r own) := by
  (k_dflt refine' Ctr.enter ?k6 ?k7 ?k9 ?kB ?c2 ?c3 ?c4 ?c5 ?_)
  case k6 => k_dflt k_is
  case k7 => k_dflt k_is
  case k9 => k_dflt (intro s9 X9; first | exact BindsTo.of_eq rfl | exact binds_K X9 rfl (by k_is) rfl rfl rfl)
  case c5 => decide
  case kB => k_dflt exact locs rfl
  case c2 => exact rfl
  case c3 => exact rfl
  case c4 => exact rfl
  rintro dp un fr gd g L h₁ tk₁ s Q hdp hun F N X T _ hret
  (try dsimp only)
  (try k_fold)
  k_steps
  all_goals (try k_data)
  all_goals (try k_unfold)
  all_goals (try dsimp only)
  · (try dsimp only)
    (try k_unfold)
    (try dsimp only)
    exact hret _ _ _ (fin0 (by k_asm) (by k_asm) (by (repeat (first | exact List.forall_mem_nil _ | refine List.forall_mem_cons.mpr ⟨by k_mem, ?_⟩))) (by (repeat (first | exact List.forall_mem_nil _ | refine List.forall_mem_cons.mpr ⟨by k_mem, ?_⟩))) (by (repeat (first | exact List.forall_mem_nil _ | refine List.forall_mem_cons.mpr ⟨?_, ?_⟩ | (refine neN ?_; (try dsimp only); (first | lia | omega))))) (by exact rfl) (⟨rfl, pairPost_some (by first | (unfold hparts; rw [if_pos ⟨by assumption, by assumption⟩, if_pos (by assumption)]) | (unfold hparts; rw [if_pos (by (first | lia | omega)), if_pos (by (first | lia | omega))]))⟩))
  · (try dsimp only)
    (try k_unfold)
    (try dsimp only)
    exact hret _ _ _ (fin0 (by k_asm) (by k_asm) (by (repeat (first | exact List.forall_mem_nil _ | refine List.forall_mem_cons.mpr ⟨by k_mem, ?_⟩))) (by (repeat (first | exact List.forall_mem_nil _ | refine List.forall_mem_cons.mpr ⟨by k_mem, ?_⟩))) (by (repeat (first | exact List.forall_mem_nil _ | refine List.forall_mem_cons.mpr ⟨?_, ?_⟩ | (refine neN ?_; (try dsimp only); (first | lia | omega))))) (by exact rfl) (⟨rfl, pairPost_some (by first | (unfold hparts; rw [if_pos ⟨by assumption, by assumption⟩, if_neg (by assumption)]) | (unfold hparts; rw [if_pos (by (first | lia | omega)), if_neg (by (first | lia | omega))]))⟩))
  · (try dsimp only)
    (try k_unfold)
    (try dsimp only)
    exact hret _ _ _ (fin0 (by k_asm) (by k_asm) (by (repeat (first | exact List.forall_mem_nil _ | refine List.forall_mem_cons.mpr ⟨by k_mem, ?_⟩))) (by (repeat (first | exact List.forall_mem_nil _ | refine List.forall_mem_cons.mpr ⟨by k_mem, ?_⟩))) (by (repeat (first | exact List.forall_mem_nil _ | refine List.forall_mem_cons.mpr ⟨?_, ?_⟩ | (refine neN ?_; (try dsimp only); (first | lia | omega))))) (by exact rfl) (⟨rfl, pairPost_none (by unfold hparts; rw [if_neg (by first | exact fun h => absurd h.1 (by assumption) | exact fun h => absurd h.2 (by assumption) | (first | lia | omega))])⟩))
  · (try dsimp only)
    (try k_unfold)
    (try dsimp only)
    exact hret _ _ _ (fin0 (by k_asm) (by k_asm) (by (repeat (first | exact List.forall_mem_nil _ | refine List.forall_mem_cons.mpr ⟨by k_mem, ?_⟩))) (by (repeat (first | exact List.forall_mem_nil _ | refine List.forall_mem_cons.mpr ⟨by k_mem, ?_⟩))) (by (repeat (first | exact List.forall_mem_nil _ | refine List.forall_mem_cons.mpr ⟨?_, ?_⟩ | (refine neN ?_; (try dsimp only); (first | lia | omega))))) (by exact rfl) (⟨rfl, pairPost_none (by unfold hparts; rw [if_neg (by first | exact fun h => absurd h.1 (by assumption) | exact fun h => absurd h.2 (by assumption) | (first | lia | omega))])⟩))
theorem hparts_none_c {w : World} {mean : ExcName → Option Value} {mg mb : Str → Option Value} {c : Int} {tc : Tok} (h0 : 0 ≤ c) (h1 : c < 100000) (hp : hparts c = none) :
    Ctr w mean mg mb 5 50 (.ref 176) [.int c tc] [] (fun _ => True) (fun r led' own => led' = [] ∧ own = [] ∧ r = .none) :=
  (hparts_c h0 h1).mono fun r l o h => by rw [hp] at h; exact ⟨h.1, h.2.2, h.2.1⟩
theorem hparts_some_c {w : World} {mean : ExcName → Option Value} {mg mb : Str → Option Value} {c a b : Int} {tc : Tok} (h0 : 0 ≤ c) (h1 : c < 100000) (hp : hparts c = some (a, b)) :
    Ctr w mean mg mb 5 50 (.ref 176) [.int c tc] [] (fun _ => True) (fun r led' own => led' = [] ∧ ∃ x ta tb, r = .ref x ∧ own = [(x, tup2 a ta b tb)]) :=
  (hparts_c h0 h1).mono fun r l o h => by rw [hp] at h; exact h
end PHparts
section PHwhole
theorem off_Hwhole : True := by
  w_top off
  exact trivial
def hwhole (a b : Int) : Int :=
  if 0 ≤ a - 4352 ∧ a - 4352 < 19 ∧ 0 ≤ b - 4449 ∧ b - 4449 < 21 then 44032 + ((a - 4352) * 21 + (b - 4449)) * 28
  else if 0 ≤ a - 44032 ∧ a - 44032 < 19 * 21 * 28 ∧ (a - 44032).fmod 28 = 0 ∧ 0 < b - 4519 ∧ b - 4519 < 28 then a + b - 4519
  else 0
theorem hwhole_1 {a b : Int} (h1 : 0 ≤ a - 4352) (h2 : a - 4352 < 19) (h3 : 0 ≤ b - 4449) (h4 : b - 4449 < 21) : hwhole a b = 44032 + ((a - 4352) * 21 + (b - 4449)) * 28 := if_pos ⟨h1, h2, h3, h4⟩
theorem hwhole_2 {a b : Int} (h1 : 0 ≤ a - 44032) (h2 : a - 44032 < 19 * 21 * 28) (h3 : (a - 44032).fmod 28 = 0) (h4 : 0 < b - 4519) (h5 : b - 4519 < 28) : hwhole a b = a + b - 4519 :=
  (if_neg fun h => absurd h.2.1 (by (first | lia | omega))).trans (if_pos ⟨h1, h2, h3, h4, h5⟩)
theorem hwhole_0 {a b : Int} (n1 : ¬ (0 ≤ a - 4352 ∧ a - 4352 < 19 ∧ 0 ≤ b - 4449 ∧ b - 4449 < 21)) (n2 : ¬ (0 ≤ a - 44032 ∧ a - 44032 < 19 * 21 * 28 ∧ (a - 44032).fmod 28 = 0 ∧ 0 < b - 4519 ∧ b - 4519 < 28)) : hwhole a b = 0 := (if_neg n1).trans (if_neg n2)
local macro_rules | `(tactic| walk_at "no") => `(tactic| first | walk_at "noL" | walk_at "om")
theorem hwhole_c {w : World} {mean : ExcName → Option Value} {mg mb : Str → Option Value} {a b : Int} {ta tb : Tok} (a0 : 0 ≤ a) (a1 : a < 100000) (b0 : 0 ≤ b) (b1 : b < 100000) :
    Ctr w mean mg mb 5 50 (.ref 183) [.int a ta, .int b tb] [] (fun _ => True)
      (fun r led' own => led' = [] ∧ own = [] ∧ ∃ t, r = .int (hwhole a b) t) := by
  (k_dflt refine' Ctr.enter ?k6 ?k7 ?k9 ?kB ?c2 ?c3 ?c4 ?c5 ?_)
  case k6 => k_dflt k_is
  case k7 => k_dflt k_is
  case k9 => k_dflt (intro s9 X9; first | exact BindsTo.of_eq rfl | exact binds_K X9 rfl (by k_is) rfl rfl rfl)
  case c5 => decide
  case kB => k_dflt exact locs rfl
  case c2 => exact rfl
  case c3 => exact rfl
  case c4 => exact rfl
  rintro dp un fr gd g L h₁ tk₁ s Q hdp hun F N X T _ hret
  (try dsimp only)
  (try k_fold)
  k_steps
  all_goals (try k_data)
  all_goals (try k_unfold)
  all_goals (try dsimp only)
  all_goals (
    (try dsimp only)
    (try k_unfold)
    (try dsimp only)
    exact hret _ _ _ (fin0 (by k_asm) (by k_asm) (by (repeat (first | exact List.forall_mem_nil _ | refine List.forall_mem_cons.mpr ⟨by k_mem, ?_⟩))) (by (repeat (first | exact List.forall_mem_nil _ | refine List.forall_mem_cons.mpr ⟨by k_mem, ?_⟩))) (by (repeat (first | exact List.forall_mem_nil _ | refine List.forall_mem_cons.mpr ⟨?_, ?_⟩ | (refine neN ?_; (try dsimp only); (first | lia | omega))))) (by exact rfl) (⟨rfl, rfl, _, int_is (by first | exact hwhole_1 (by assumption) (by assumption) (by assumption) (by assumption) | exact hwhole_2 (by assumption) (by assumption) (by assumption) (by assumption) (by assumption) | exact hwhole_0 (by walk_at "no") (by walk_at "no") | (unfold hwhole; (repeat' split) <;> first | rfl | (exfalso; (first | lia | omega))))⟩)))
end PHwhole
section PLsort
local macro_rules | `(tactic| walk_at "no such key") => `(tactic| skip)
theorem off_Lsort : True := by
  w_top off
  exact trivial
def lsort (c : Int) : Str :=
  if 4352 ≤ c ∧ c < 4371 then Str.ofString "L"
  else if 4449 ≤ c ∧ c < 4470 then Str.ofString "V"
  else if 4519 < c ∧ c < 4547 then Str.ofString "T"
  else if 44032 ≤ c ∧ c < 55204 then (if (c - 44032).fmod 28 = 0 then Str.ofString "S" else Str.ofString "C")
  else Str.ofString ""
theorem lsort_L {c : Int} (h1 : 4352 ≤ c) (h2 : c < 4371) : lsort c = Str.ofString "L" := if_pos ⟨h1, h2⟩
theorem lsort_V {c : Int} (h1 : 4449 ≤ c) (h2 : c < 4470) : lsort c = Str.ofString "V" := (if_neg fun h => absurd h.2 (by (first | lia | omega))).trans (if_pos ⟨h1, h2⟩)
theorem lsort_T {c : Int} (h1 : 4519 < c) (h2 : c < 4547) : lsort c = Str.ofString "T" := (if_neg fun h => absurd h.2 (by (first | lia | omega))).trans ((if_neg fun h => absurd h.2 (by (first | lia | omega))).trans (if_pos ⟨h1, h2⟩))
theorem lsort_H {c : Int} (h1 : 44032 ≤ c) (h2 : c < 55204) : lsort c = if (c - 44032).fmod 28 = 0 then Str.ofString "S" else Str.ofString "C" := (if_neg fun h => absurd h.2 (by (first | lia | omega))).trans ((if_neg fun h => absurd h.2 (by (first | lia | omega))).trans ((if_neg fun h => absurd h.2 (by (first | lia | omega))).trans (if_pos ⟨h1, h2⟩)))
theorem lsort_S {c : Int} (h1 : 44032 ≤ c) (h2 : c < 55204) (h3 : (c - 44032).fmod 28 = 0) : lsort c = Str.ofString "S" := (lsort_H h1 h2).trans (if_pos h3)
theorem lsort_C {c : Int} (h1 : 44032 ≤ c) (h2 : c < 55204) (h3 : ¬ (c - 44032).fmod 28 = 0) : lsort c = Str.ofString "C" := (lsort_H h1 h2).trans (if_neg h3)
theorem lsort_0 {c : Int} (n1 : ¬ (4352 ≤ c ∧ c < 4371)) (n2 : ¬ (4449 ≤ c ∧ c < 4470)) (n3 : ¬ (4519 < c ∧ c < 4547)) (n4 : ¬ (44032 ≤ c ∧ c < 55204)) : lsort c = Str.ofString "" := (if_neg n1).trans ((if_neg n2).trans ((if_neg n3).trans (if_neg n4)))
local macro_rules | `(tactic| walk_at "no") => `(tactic| first | walk_at "noL" | walk_at "om")
theorem sort_c {w : World} {mean : ExcName → Option Value} {mg mb : Str → Option Value} {a : Int} {ta : Tok} (a0 : 0 ≤ a) (a1 : a < 100000) :
    Ctr w mean mg mb 5 50 (.ref 344) [.int a ta] [] (fun _ => True)
      (fun r led' own => led' = [] ∧ own = [] ∧ ∃ t, r = .str (lsort a) t) := by
  (k_dflt refine' Ctr.enter ?k6 ?k7 ?k9 ?kB ?c2 ?c3 ?c4 ?c5 ?_)
  case k6 => k_dflt k_is
  case k7 => k_dflt k_is
  case k9 => k_dflt (intro s9 X9; first | exact BindsTo.of_eq rfl | exact binds_K X9 rfl (by k_is) rfl rfl rfl)
  case c5 => decide
  case kB => k_dflt exact locs rfl
  case c2 => exact rfl
  case c3 => exact rfl
  case c4 => exact rfl
  rintro dp un fr gd g L h₁ tk₁ s Q hdp hun F N X T _ hret
  (try dsimp only)
  (try k_fold)
  k_steps
  all_goals (try k_data)
  all_goals (try k_unfold)
  all_goals (try dsimp only)
  all_goals (
    (try dsimp only)
    (try k_unfold)
    (try dsimp only)
    exact hret _ _ _ (fin0 (by k_asm) (by k_asm) (by (repeat (first | exact List.forall_mem_nil _ | refine List.forall_mem_cons.mpr ⟨by k_mem, ?_⟩))) (by (repeat (first | exact List.forall_mem_nil _ | refine List.forall_mem_cons.mpr ⟨by k_mem, ?_⟩))) (by (repeat (first | exact List.forall_mem_nil _ | refine List.forall_mem_cons.mpr ⟨?_, ?_⟩ | (refine neN ?_; (try dsimp only); (first | lia | omega))))) (by exact rfl) (⟨rfl, rfl, _, str_is (by first | exact lsort_L (by assumption) (by assumption) | exact lsort_V (by assumption) (by assumption) | exact lsort_T (by assumption) (by assumption) | exact lsort_S (by assumption) (by assumption) (by assumption) | exact lsort_C (by assumption) (by assumption) (by assumption) | exact lsort_0 (by walk_at "no") (by walk_at "no") (by walk_at "no") (by walk_at "no") | (unfold lsort; (repeat' split) <;> first | rfl | (exfalso; (first | lia | omega))))⟩)))
end PLsort
section PJoined
theorem off_Joined : True := by
  w_top off
  exact trivial
local macro_rules | `(tactic| walk_at "call ref") => callL "P" 344 "sort_c a0 a1" "aX uF uX P0" "" "dP zP"
def ljoined (a b : Int) : Int :=
  if (lsort a == Str.ofString "L") = true ∧ (lsort b == Str.ofString "V") = true then 44032 + 588 * (a - 4352) + 28 * (b - 4449)
  else if (lsort a == Str.ofString "S") = true ∧ (lsort b == Str.ofString "T") = true then a + b - 4519
  else 0
theorem joined_c {w : World} {mean : ExcName → Option Value} {mg mb : Str → Option Value} {a b : Int} {ta tb : Tok} (a0 : 0 ≤ a) (a1 : a < 100000) (b0 : 0 ≤ b) (b1 : b < 100000) :
    Ctr w mean mg mb 10 100 (.ref 358) [.int a ta, .int b tb] [] (fun _ => True)
      (fun r led' own => led' = [] ∧ own = [] ∧ ∃ t, r = .int (ljoined a b) t) := by
  (k_dflt refine' Ctr.enter ?k6 ?k7 ?k9 ?kB ?c2 ?c3 ?c4 ?c5 ?_)
  case k6 => k_dflt k_is
  case k7 => k_dflt k_is
  case k9 => k_dflt (intro s9 X9; first | exact BindsTo.of_eq rfl | exact binds_K X9 rfl (by k_is) rfl rfl rfl)
  case c5 => decide
  case kB => k_dflt exact locs rfl
  case c2 => exact rfl
  case c3 => exact rfl
  case c4 => exact rfl
  rintro dp un fr gd g L h₁ tk₁ s Q hdp hun F N X T _ hret
  (try dsimp only)
  (try k_fold)
  k_steps
  all_goals (try k_data)
  all_goals (try k_unfold)
  all_goals (try dsimp only)
  all_goals (
    (try dsimp only)
    (try k_unfold)
    (try dsimp only)
    exact hret _ _ _ (fin0 (by k_asm) (by k_asm) (by (repeat (first | exact List.forall_mem_nil _ | refine List.forall_mem_cons.mpr ⟨by k_mem, ?_⟩))) (by (repeat (first | exact List.forall_mem_nil _ | refine List.forall_mem_cons.mpr ⟨by k_mem, ?_⟩))) (by (repeat (first | exact List.forall_mem_nil _ | refine List.forall_mem_cons.mpr ⟨?_, ?_⟩ | (refine neN ?_; (try dsimp only); (first | lia | omega))))) (by exact rfl) (⟨rfl, rfl, _, int_is (by unfold ljoined; first | rw [if_pos ⟨by assumption, by assumption⟩] | (rw [if_neg (by first | exact nb1 (by assumption) | exact nb2 (by assumption))]; first | rw [if_pos ⟨by assumption, by assumption⟩] | rw [if_neg (by first | exact nb1 (by assumption) | exact nb2 (by assumption))]))⟩)))
end PJoined
section PApart
local macro_rules | `(tactic| walk_at "no such key") => `(tactic| skip)
theorem off_Apart : True := by
  w_top off
  exact trivial
local macro_rules | `(tactic| walk_at "call ref") => callL "P" 344 "sort_c a0 a1" "aX uF uX P0" "" "dP zP"
def lapart (ks : List Int) (a : Int) : List Int :=
  if (ks.any fun x => x == a) = true then [a]
  else if ([Str.ofString "S", Str.ofString "C"].any fun x => x == lsort a) = true then
    if 0 < (a - 44032).fmod 28 then
      if (ks.any fun x => x == a - (a - 44032).fmod 28) = true then [a - (a - 44032).fmod 28, 4519 + (a - 44032).fmod 28]
      else [4352 + (a - 44032).fdiv 588, 4449 + ((a - 44032).fdiv 28).fmod 21, 4519 + (a - 44032).fmod 28]
    else [4352 + (a - 44032).fdiv 588, 4449 + ((a - 44032).fdiv 28).fmod 21]
  else [a]
theorem apart_c {w : World} {mean : ExcName → Option Value} {mg mb : Str → Option Value} {a : Int} {kn : Addr} {vs : List Value} {ks : List Int} {ta tb : Tok} (a0 : 0 ≤ a) (a1 : a < 100000) :
    Ctr w mean mg mb 10 100 (.ref 351) [.int a ta, .ref kn] [] (fun g => g.IsList kn vs.toArray ∧ IntsAre vs ks ∧ ks.length ≤ 200)
      (fun r led' own => led' = [] ∧ IntsPost (lapart ks a) r own) := by
  (k_dflt refine' Ctr.enter ?k6 ?k7 ?k9 ?kB ?c2 ?c3 ?c4 ?c5 ?_)
  case k6 => k_dflt k_is
  case k7 => k_dflt k_is
  case k9 => k_dflt (intro s9 X9; first | exact BindsTo.of_eq rfl | exact binds_K X9 rfl (by k_is) rfl rfl rfl)
  case c5 => decide
  case kB => k_dflt exact locs rfl
  case c2 => exact rfl
  case c3 => exact rfl
  case c4 => exact rfl
  rintro dp un fr gd g L h₁ tk₁ s Q hdp hun F N X T hP9 hret
  (try dsimp only)
  show wpAny _ _ _ _ _ _
  k_fold
  obtain ⟨hL, hI, hlen⟩ := hP9
  (try dsimp only)
  (try k_fold)
  k_steps
  all_goals (try k_data)
  all_goals (try k_unfold)
  all_goals (try dsimp only)
  · (try dsimp only)
    (try k_unfold)
    (try dsimp only)
    exact hret _ _ _ (fin0 (by k_asm) (by k_asm) (by (repeat (first | exact List.forall_mem_nil _ | refine List.forall_mem_cons.mpr ⟨by k_mem, ?_⟩))) (by (repeat (first | exact List.forall_mem_nil _ | refine List.forall_mem_cons.mpr ⟨by k_mem, ?_⟩))) (by (repeat (first | exact List.forall_mem_nil _ | refine List.forall_mem_cons.mpr ⟨?_, ?_⟩ | (refine neN ?_; (try dsimp only); (first | lia | omega))))) (by exact rfl) (⟨rfl, intsPost1 (by unfold lapart; rw [if_pos (by assumption)])⟩))
  · exact absurd ‹decide ([4519 + (a - 44032).fmod 28] = []) = true› (by simp)
  · (try dsimp only)
    (try k_unfold)
    (try dsimp only)
    exact hret _ _ _ (fin0 (by k_asm) (by k_asm) (by (repeat (first | exact List.forall_mem_nil _ | refine List.forall_mem_cons.mpr ⟨by k_mem, ?_⟩))) (by (repeat (first | exact List.forall_mem_nil _ | refine List.forall_mem_cons.mpr ⟨by k_mem, ?_⟩))) (by (repeat (first | exact List.forall_mem_nil _ | refine List.forall_mem_cons.mpr ⟨?_, ?_⟩ | (refine neN ?_; (try dsimp only); (first | lia | omega))))) (by exact rfl) (⟨rfl, intsPost2 (by unfold lapart; rw [if_neg (bfalse (by assumption)), if_pos (by assumption), if_pos (by assumption), if_pos (by assumption)])⟩))
  · (try dsimp only)
    (try k_unfold)
    (try dsimp only)
    exact hret _ _ _ (fin0 (by k_asm) (by k_asm) (by (repeat (first | exact List.forall_mem_nil _ | refine List.forall_mem_cons.mpr ⟨by k_mem, ?_⟩))) (by (repeat (first | exact List.forall_mem_nil _ | refine List.forall_mem_cons.mpr ⟨by k_mem, ?_⟩))) (by (repeat (first | exact List.forall_mem_nil _ | refine List.forall_mem_cons.mpr ⟨?_, ?_⟩ | (refine neN ?_; (try dsimp only); (first | lia | omega))))) (by exact rfl) (⟨rfl, intsPost3 (by unfold lapart; rw [if_neg (bfalse (by assumption)), if_pos (by assumption), if_pos (by assumption), if_neg (bfalse (by assumption))])⟩))
  · (try dsimp only)
    (try k_unfold)
    (try dsimp only)
    exact hret _ _ _ (fin0 (by k_asm) (by k_asm) (by (repeat (first | exact List.forall_mem_nil _ | refine List.forall_mem_cons.mpr ⟨by k_mem, ?_⟩))) (by (repeat (first | exact List.forall_mem_nil _ | refine List.forall_mem_cons.mpr ⟨by k_mem, ?_⟩))) (by (repeat (first | exact List.forall_mem_nil _ | refine List.forall_mem_cons.mpr ⟨?_, ?_⟩ | (refine neN ?_; (try dsimp only); (first | lia | omega))))) (by exact rfl) (⟨rfl, intsPost2 (by unfold lapart; rw [if_neg (bfalse (by assumption)), if_pos (by assumption), if_neg (by assumption)])⟩))
  · (try dsimp only)
    (try k_unfold)
    (try dsimp only)
    exact hret _ _ _ (fin0 (by k_asm) (by k_asm) (by (repeat (first | exact List.forall_mem_nil _ | refine List.forall_mem_cons.mpr ⟨by k_mem, ?_⟩))) (by (repeat (first | exact List.forall_mem_nil _ | refine List.forall_mem_cons.mpr ⟨by k_mem, ?_⟩))) (by (repeat (first | exact List.forall_mem_nil _ | refine List.forall_mem_cons.mpr ⟨?_, ?_⟩ | (refine neN ?_; (try dsimp only); (first | lia | omega))))) (by exact rfl) (⟨rfl, intsPost1 (by unfold lapart; rw [if_neg (bfalse (by assumption)), if_neg (bfalse (by assumption))])⟩))
end PApart
section PGlyph
theorem off_Glyph : True := by
  w_top off
  exact trivial
def CharAt (w : World) (g : Heap) (cm : Addr) (ks : List Int) : Prop :=
  ∃ dcm h1 t1 h2 t2 n cd D, g.get? cm = some (instObj 319 dcm) ∧ g.get? dcm = some (dictOf [⟨h1, .str (Str.ofString "codes") t1, .ref cd⟩, ⟨h2, .str (Str.ofString "variations") t2, .none⟩] n) ∧
    TabAt (intKind PR w) PyData.int g cd D ∧ ∀ c, PySem.Spec.lookup (PyData.int c) D = if (ks.any fun x => x == c) = true then some (.int 1) else none
theorem flat_int {v : Value} {i : Int} (h : PyProof.V.Flat v (.int i)) : ∃ t, v = .int i t := by
  obtain ⟨t, e, -⟩ := reads_int_inv (h {})
  exact ⟨t, e⟩
theorem glyph_val {v : Value} {D : List (PyData × PyData)} {ks : List Int} {c : Int} (hD : PySem.Spec.lookup (PyData.int c) D = if (ks.any fun x => x == c) = true then some (.int 1) else none)
    (h : PyProof.V.Flat v ((PySem.Spec.lookup (PyData.int c) D).getD (PyData.int 0))) : ∃ t, v = .int (if (ks.any fun x => x == c) = true then 1 else 0) t := by
  rw [hD] at h
  split at h <;> rename_i hc
  · rw [if_pos hc]; exact flat_int h
  · rw [if_neg hc]; exact flat_int h
theorem glyph_c {w : World} {mean : ExcName → Option Value} {mg mb : Str → Option Value} {cm : Addr} {c : Int} {tc : Tok} {ks : List Int} :
    Ctr w mean mg mb 5 50 (.ref 302) [.ref cm, .int c tc] [] (fun g => CharAt w g cm ks)
      (fun r led' own => led' = [] ∧ own = [] ∧ ∃ t, r = .int (if (ks.any fun x => x == c) = true then 1 else 0) t) := by
  (k_dflt refine' Ctr.enter ?k6 ?k7 ?k9 ?kB ?c2 ?c3 ?c4 ?c5 ?_)
  case k6 => k_dflt k_is
  case k7 => k_dflt k_is
  case k9 => k_dflt (intro s9 X9; first | exact BindsTo.of_eq rfl | exact binds_K X9 rfl (by k_is) rfl rfl rfl)
  case c5 => decide
  case kB => k_dflt exact locs rfl
  case c2 => exact rfl
  case c3 => exact rfl
  case c4 => exact rfl
  rintro dp un fr gd g L h₁ tk₁ s Q hdp hun F N X T hP9 hret
  (try dsimp only)
  show wpAny _ _ _ _ _ _
  k_fold
  obtain ⟨dcm, hh1, t1, hh2, t2, n, cd, D, hcm, hdc, hT, hD⟩ := hP9
  (try dsimp only)
  (try k_fold)
  k_steps
  all_goals (try k_data)
  all_goals (try k_unfold)
  all_goals (try dsimp only)
  all_goals (
    (try dsimp only)
    (try k_unfold)
    (try dsimp only)
    exact hret _ _ _ (fin0 (by k_asm) (by k_asm) (by (repeat (first | exact List.forall_mem_nil _ | refine List.forall_mem_cons.mpr ⟨by k_mem, ?_⟩))) (by (repeat (first | exact List.forall_mem_nil _ | refine List.forall_mem_cons.mpr ⟨by k_mem, ?_⟩))) (by (repeat (first | exact List.forall_mem_nil _ | refine List.forall_mem_cons.mpr ⟨?_, ?_⟩ | (refine neN ?_; (try dsimp only); (first | lia | omega))))) (by exact rfl) (⟨rfl, rfl, glyph_val (hD _) (by assumption)⟩)))
theorem glyph_in_c {w : World} {mean : ExcName → Option Value} {mg mb : Str → Option Value} {cm : Addr} {c : Int} {tc : Tok} {ks : List Int} (hk : (ks.any fun x => x == c) = true) :
    Ctr w mean mg mb 5 50 (.ref 302) [.ref cm, .int c tc] [] (fun g => CharAt w g cm ks) (fun r led' own => led' = [] ∧ own = [] ∧ ∃ t, r = .int 1 t) :=
  glyph_c.mono fun r l o h => by rw [if_pos hk] at h; exact h
theorem glyph_out_c {w : World} {mean : ExcName → Option Value} {mg mb : Str → Option Value} {cm : Addr} {c : Int} {tc : Tok} {ks : List Int} (hk : (ks.any fun x => x == c) = false) :
    Ctr w mean mg mb 5 50 (.ref 302) [.ref cm, .int c tc] [] (fun g => CharAt w g cm ks) (fun r led' own => led' = [] ∧ own = [] ∧ ∃ t, r = .int 0 t) :=
  glyph_c.mono fun r l o h => by rw [if_neg (bfalse hk)] at h; exact h
end PGlyph
section PInfo
local macro_rules | `(tactic| walk_at "no such key") => `(tactic| skip)
theorem off_Info : True := by
  w_top off
  exact trivial
/-- an Info's dict: what it says, and what nobody asks (hashes, marks) -/
structure IR where
  code : Int
  cluster : Int
  h0 : Int
  k0 : Tok
  v0 : Tok
  h1 : Int
  k1 : Tok
  v1 : Tok
  h2 : Int
  k2 : Tok
  v2 : Tok
  h3 : Int
  k3 : Tok
  v3 : Tok
  h4 : Int
  k4 : Tok
  h5 : Int
  k5 : Tok
  v5 : Tok
  h6 : Int
  k6 : Tok
  v6 : Tok
  h7 : Int
  k7 : Tok
  v7 : Tok
  h8 : Int
  k8 : Tok
  v8 : Tok
  h9 : Int
  k9 : Tok
  v9 : Tok
  h10 : Int
  k10 : Tok
  v10 : Tok
  h11 : Int
  k11 : Tok
  v11 : Tok
  h12 : Int
  k12 : Tok
  v12 : Tok
  h13 : Int
  k13 : Tok
  v13 : Tok
  h14 : Int
  k14 : Tok
  v14 : Tok
  h15 : Int
  k15 : Tok
  v15 : Tok
abbrev infoD (q : IR) : Obj := dictOf [
    ⟨q.h0, .str (Str.ofString "code") q.k0, .int q.code q.v0⟩,
    ⟨q.h1, .str (Str.ofString "glyph") q.k1, .int 0 q.v1⟩,
    ⟨q.h2, .str (Str.ofString "cluster") q.k2, .int q.cluster q.v2⟩,
    ⟨q.h3, .str (Str.ofString "mask") q.k3, .int 0 q.v3⟩,
    ⟨q.h4, .str (Str.ofString "is_unsafe") q.k4, .bool false⟩,
    ⟨q.h5, .str (Str.ofString "lig_id") q.k5, .int 0 q.v5⟩,
    ⟨q.h6, .str (Str.ofString "lig_part") q.k6, .int 0 q.v6⟩,
    ⟨q.h7, .str (Str.ofString "lig_count") q.k7, .int 0 q.v7⟩,
    ⟨q.h8, .str (Str.ofString "split_id") q.k8, .int 0 q.v8⟩,
    ⟨q.h9, .str (Str.ofString "kind") q.k9, .str (Str.ofString "") q.v9⟩,
    ⟨q.h10, .str (Str.ofString "x_advance") q.k10, .int 0 q.v10⟩,
    ⟨q.h11, .str (Str.ofString "y_advance") q.k11, .int 0 q.v11⟩,
    ⟨q.h12, .str (Str.ofString "x_offset") q.k12, .int 0 q.v12⟩,
    ⟨q.h13, .str (Str.ofString "y_offset") q.k13, .int 0 q.v13⟩,
    ⟨q.h14, .str (Str.ofString "parent") q.k14, .int 0 q.v14⟩,
    ⟨q.h15, .str (Str.ofString "bond") q.k15, .str (Str.ofString "") q.v15⟩] 16
def IsInfo (o : Obj) (c k : Int) : Prop := ∃ q : IR, o = infoD q ∧ q.code = c ∧ q.cluster = k
theorem isInfo_mk {c k c' k' : Int} {h0 h1 h2 h3 h4 h5 h6 h7 h8 h9 h10 h11 h12 h13 h14 h15 : Int} {k0 v0 k1 v1 k2 v2 k3 v3 k4 k5 v5 k6 v6 k7 v7 k8 v8 k9 v9 k10 v10 k11 v11 k12 v12 k13 v13 k14 v14 k15 v15 : Tok} (hc : c = c') (hk : k = k') : IsInfo (dictOf [
    ⟨h0, .str (Str.ofString "code") k0, .int c v0⟩,
    ⟨h1, .str (Str.ofString "glyph") k1, .int 0 v1⟩,
    ⟨h2, .str (Str.ofString "cluster") k2, .int k v2⟩,
    ⟨h3, .str (Str.ofString "mask") k3, .int 0 v3⟩,
    ⟨h4, .str (Str.ofString "is_unsafe") k4, .bool false⟩,
    ⟨h5, .str (Str.ofString "lig_id") k5, .int 0 v5⟩,
    ⟨h6, .str (Str.ofString "lig_part") k6, .int 0 v6⟩,
    ⟨h7, .str (Str.ofString "lig_count") k7, .int 0 v7⟩,
    ⟨h8, .str (Str.ofString "split_id") k8, .int 0 v8⟩,
    ⟨h9, .str (Str.ofString "kind") k9, .str (Str.ofString "") v9⟩,
    ⟨h10, .str (Str.ofString "x_advance") k10, .int 0 v10⟩,
    ⟨h11, .str (Str.ofString "y_advance") k11, .int 0 v11⟩,
    ⟨h12, .str (Str.ofString "x_offset") k12, .int 0 v12⟩,
    ⟨h13, .str (Str.ofString "y_offset") k13, .int 0 v13⟩,
    ⟨h14, .str (Str.ofString "parent") k14, .int 0 v14⟩,
    ⟨h15, .str (Str.ofString "bond") k15, .str (Str.ofString "") v15⟩] 16) c' k' := ⟨⟨c, k, h0, k0, v0, h1, k1, v1, h2, k2, v2, h3, k3, v3, h4, k4, h5, k5, v5, h6, k6, v6, h7, k7, v7, h8, k8, v8, h9, k9, v9, h10, k10, v10, h11, k11, v11, h12, k12, v12, h13, k13, v13, h14, k14, v14, h15, k15, v15⟩, rfl, hc, hk⟩
theorem info_init_c {w : World} {mean : ExcName → Option Value} {mg mb : Str → Option Value} {x dx : Addr} {c k : Int} {tc tg tk : Tok} (hx : @LT.lt Nat _ dx x) :
    Ctr w mean mg mb 5 50 (.ref 35) [.ref x, .int c tc, .int 0 tg, .int k tk] [(x, instObj 52 dx), (dx, dictOf [] 0)] (fun _ => True)
      (fun r led' own => own = [] ∧ r = .none ∧ ∃ o, led' = [(x, instObj 52 dx), (dx, o)] ∧ IsInfo o c k) := by
  (k_dflt refine' Ctr.enter ?k6 ?k7 ?k9 ?kB ?c2 ?c3 ?c4 ?c5 ?_)
  case k6 => k_dflt k_is
  case k7 => k_dflt k_is
  case k9 => k_dflt (intro s9 X9; first | exact BindsTo.of_eq rfl | exact binds_K X9 rfl (by k_is) rfl rfl rfl)
  case c5 => decide
  case kB => k_dflt exact locs rfl
  case c2 => exact rfl
  case c3 => exact rfl
  case c4 => exact rfl
  rintro dp un fr gd g L h₁ tk₁ s Q hdp hun F N X T _ hret
  (try dsimp only)
  (try k_fold)
  k_steps
  all_goals (try k_data)
  all_goals (
    (try dsimp only)
    (try k_unfold)
    (try dsimp only)
    exact hret _ _ _ (fin0 (by k_asm) (by k_asm) (by (repeat (first | exact List.forall_mem_nil _ | refine List.forall_mem_cons.mpr ⟨by k_mem, ?_⟩))) (by (repeat (first | exact List.forall_mem_nil _ | refine List.forall_mem_cons.mpr ⟨by k_mem, ?_⟩))) (by (repeat (first | exact List.forall_mem_nil _ | refine List.forall_mem_cons.mpr ⟨?_, ?_⟩ | (refine neN ?_; (try dsimp only); (first | lia | omega))))) (by exact rfl) (⟨rfl, rfl, _, rfl, by exact isInfo_mk rfl rfl⟩)))
theorem info_new {w : World} {mean : ExcName → Option Value} {mg mb : Str → Option Value} {A : Around} {g : Heap} {L : Addr} {m : Str → Option Value} {news : Led} {s : Shared} {Q E : Value → Shared → Prop} {c k : Int} {tc tg tk : Tok}
    (F : Fr g L s.heap m) (N : News g L s.heap news) (X : (hd.heap_1 w.params).In g) (T : Top hd.view_39 (looseW hd.view_39 [Str.ofString "buffer_of"]) mean mg mb g)
    (hA : A.handled = none) (hdp : A.depth + 10 < recursionLimit) (hun : A.units + 80 < cLine)
    (h : ∀ x dx h' tk' q, Fr g L h' m → News g L h' ((x, instObj 52 dx) :: (dx, infoD q) :: news) → (∀ p ∈ news, p.1 < dx) → @LT.lt Nat _ dx x → q.code = c → q.cluster = k → Q (.ref x) { s with heap := h', toks := tk' }) :
    wpAny (model PySem.Challenge.rw_pb0193_01.row.prog w) A (call (.ref 52) [.int c tc, .int 0 tg, .int k tk] []) Q E s := by
  k_dflt (refine' call_cls F X N ?k4 ?k5 ?k6 ?_; (case k4 => k_is); (case k5 => k_is); (case k6 => k_is))
  intro x dx h' F' N' l1 l2
  refine (info_init_c (c := c) (k := k) (tc := tc) (tg := tg) (tk := tk) l2).useC F' N' X T hA (by show A.depth + 1 + 5 < _; (first | lia | omega)) (by show A.units + 1 + 50 < _; (first | lia | omega)) (by simp) (fun _ _ _ => trivial) ?_
  rintro r h2 tk' led' own F2 hl hk Nl No hne ⟨rfl, rfl, _, rfl, q, rfl, hc, hk2⟩
  refine ⟨rfl, h x dx h2 tk' q F2 (fun p hp => ?_) l1 l2 hc hk2⟩
  rcases List.mem_cons.mp hp with rfl | hp
  · exact Nl _ (.head _)
  · rcases List.mem_cons.mp hp with rfl | hp
    · exact Nl _ (.tail _ (.head _))
    · have q1 := l1 p hp
      refine hk p (.tail _ (.tail _ hp)) (fun z => ?_)
      rcases List.mem_cons.mp z with z | z
      · exact absurd z (Nat.ne_of_lt (Nat.lt_trans q1 l2))
      · exact absurd (List.mem_singleton.mp z) (Nat.ne_of_lt q1)
end PInfo
section PCopied
local macro_rules | `(tactic| walk_at "no such key") => `(tactic| skip)
theorem off_Copied : True := by
  w_top off
  exact trivial
local macro_rules | `(tactic| walk_at "call ref") => `(tactic| walk_at "infoN")
theorem copied_c {w : World} {mean : ExcName → Option Value} {mg mb : Str → Option Value} {x₀ d₀ : Addr} {q₀ : IR} :
    Ctr w mean mg mb 20 150 (.ref 42) [.ref x₀] [] (fun g => g.get? x₀ = some (instObj 52 d₀) ∧ g.get? d₀ = some (infoD q₀))
      (fun r led' own => led' = [] ∧ ∃ x dx o, r = .ref x ∧ own = [(x, instObj 52 dx), (dx, o)] ∧ IsInfo o q₀.code q₀.cluster ∧ x ≠ dx) := by
  (k_dflt refine' Ctr.enter ?k6 ?k7 ?k9 ?kB ?c2 ?c3 ?c4 ?c5 ?_)
  case k6 => k_dflt k_is
  case k7 => k_dflt k_is
  case k9 => k_dflt (intro s9 X9; first | exact BindsTo.of_eq rfl | exact binds_K X9 rfl (by k_is) rfl rfl rfl)
  case c5 => decide
  case kB => k_dflt exact locs rfl
  case c2 => exact rfl
  case c3 => exact rfl
  case c4 => exact rfl
  rintro dp un fr gd g L h₁ tk₁ s Q hdp hun F N X T hP9 hret
  (try dsimp only)
  show wpAny _ _ _ _ _ _
  k_fold
  obtain ⟨hx₀, hd₀⟩ := hP9
  (try dsimp only)
  (try k_fold)
  k_steps
  all_goals (try k_data)
  all_goals (
    (try dsimp only)
    (try k_unfold)
    (try dsimp only)
    exact hret _ _ _ (fin0 (by k_asm) (by k_asm) (by (repeat (first | exact List.forall_mem_nil _ | refine List.forall_mem_cons.mpr ⟨by k_mem, ?_⟩))) (by (repeat (first | exact List.forall_mem_nil _ | refine List.forall_mem_cons.mpr ⟨by k_mem, ?_⟩))) (by (repeat (first | exact List.forall_mem_nil _ | refine List.forall_mem_cons.mpr ⟨?_, ?_⟩ | (refine neN ?_; (try dsimp only); (first | lia | omega))))) (by exact rfl) (⟨rfl, _, _, _, rfl, rfl, by exact isInfo_mk (by assumption) (by assumption), by refine neN ?_; (first | lia | omega)⟩)))
end PCopied
section PNorm
theorem off_Norm : True := by
  w_top off
  exact trivial
def NormAt (w : World) (g : Heap) (nm : Addr) : Prop :=
  ∃ dn h1 t1 h2 t2 n e1 e2, g.get? nm = some (instObj 165 dn) ∧ g.get? dn = some (dictOf [⟨h1, .str (Str.ofString "parts") t1, .ref e1⟩, ⟨h2, .str (Str.ofString "classes") t2, .ref e2⟩] n) ∧
    TabAt (intKind PR w) PyData.int g e1 [] ∧ TabAt (intKind PR w) PyData.int g e2 []
def InfoAt (g : Heap) (x : Addr) (c k : Int) : Prop := ∃ dx q, g.get? x = some (instObj 52 dx) ∧ g.get? dx = some (infoD q) ∧ q.code = c ∧ q.cluster = k
theorem NormAt.keeps {w : World} {g H : Heap} {nm : Addr} (h : NormAt w g nm) (b : ∀ b o, g.get? b = some o → H.get? b = some o) : NormAt w H nm := by
  obtain ⟨dn, h1, t1, h2, t2, n, e1, e2, a, c, d, e⟩ := h
  exact ⟨dn, h1, t1, h2, t2, n, e1, e2, b _ _ a, b _ _ c, d.keep b, e.keep b⟩
theorem CharAt.keeps {w : World} {g H : Heap} {cm : Addr} {ks : List Int} (h : CharAt w g cm ks) (b : ∀ b o, g.get? b = some o → H.get? b = some o) : CharAt w H cm ks := by
  obtain ⟨dn, h1, t1, h2, t2, n, e1, e2, a, c, d, e⟩ := h
  exact ⟨dn, h1, t1, h2, t2, n, e1, e2, b _ _ a, b _ _ c, d.keep b, e⟩
theorem InfoAt.keeps {g H : Heap} {x : Addr} {c k : Int} (h : InfoAt g x c k) (b : ∀ b o, g.get? b = some o → H.get? b = some o) : InfoAt H x c k := by
  obtain ⟨dx, q, h1, h2, h3⟩ := h
  exact ⟨dx, q, b _ _ h1, b _ _ h2, h3⟩
theorem class_of_c {w : World} {mean : ExcName → Option Value} {mg mb : Str → Option Value} {nm : Addr} {c : Int} {tc : Tok} :
    Ctr w mean mg mb 5 50 (.ref 155) [.ref nm, .int c tc] [] (fun g => NormAt w g nm)
      (fun r led' own => led' = [] ∧ own = [] ∧ ∃ t, r = .int 0 t) := by
  (k_dflt refine' Ctr.enter ?k6 ?k7 ?k9 ?kB ?c2 ?c3 ?c4 ?c5 ?_)
  case k6 => k_dflt k_is
  case k7 => k_dflt k_is
  case k9 => k_dflt (intro s9 X9; first | exact BindsTo.of_eq rfl | exact binds_K X9 rfl (by k_is) rfl rfl rfl)
  case c5 => decide
  case kB => k_dflt exact locs rfl
  case c2 => exact rfl
  case c3 => exact rfl
  case c4 => exact rfl
  rintro dp un fr gd g L h₁ tk₁ s Q hdp hun F N X T hP9 hret
  (try dsimp only)
  show wpAny _ _ _ _ _ _
  k_fold
  obtain ⟨dn, hh1, t1, hh2, t2, n, e1, e2, hnm, hdn, hT1, hT2⟩ := hP9
  (try dsimp only)
  (try k_fold)
  k_steps
  all_goals (try k_data)
  all_goals (
    (try dsimp only)
    (try k_unfold)
    (try dsimp only)
    exact hret _ _ _ (fin0 (by k_asm) (by k_asm) (by (repeat (first | exact List.forall_mem_nil _ | refine List.forall_mem_cons.mpr ⟨by k_mem, ?_⟩))) (by (repeat (first | exact List.forall_mem_nil _ | refine List.forall_mem_cons.mpr ⟨by k_mem, ?_⟩))) (by (repeat (first | exact List.forall_mem_nil _ | refine List.forall_mem_cons.mpr ⟨?_, ?_⟩ | (refine neN ?_; (try dsimp only); (first | lia | omega))))) (by exact rfl) (⟨rfl, rfl, flat_int (by assumption)⟩)))
local macro_rules | `(tactic| walk_at "call ref") => callL "P" 155 "class_of_c" "uF uX P0" "" "dP zP"
theorem class_here_c {w : World} {mean : ExcName → Option Value} {mg mb : Str → Option Value} {nm x : Addr} {c k : Int} :
    Ctr w mean mg mb 10 100 (.ref 242) [.ref nm, .ref x] [] (fun g => NormAt w g nm ∧ InfoAt g x c k)
      (fun r led' own => led' = [] ∧ own = [] ∧ ∃ t, r = .int 0 t) := by
  (k_dflt refine' Ctr.enter ?k6 ?k7 ?k9 ?kB ?c2 ?c3 ?c4 ?c5 ?_)
  case k6 => k_dflt k_is
  case k7 => k_dflt k_is
  case k9 => k_dflt (intro s9 X9; first | exact BindsTo.of_eq rfl | exact binds_K X9 rfl (by k_is) rfl rfl rfl)
  case c5 => decide
  case kB => k_dflt exact locs rfl
  case c2 => exact rfl
  case c3 => exact rfl
  case c4 => exact rfl
  rintro dp un fr gd g L h₁ tk₁ s Q hdp hun F N X T hP9 hret
  (try dsimp only)
  show wpAny _ _ _ _ _ _
  k_fold
  obtain ⟨hNm, ⟨dx, q, hx, hdx, hqc, hqk⟩⟩ := hP9
  obtain ⟨dn, hh1, t1, hh2, t2, n, e1, e2, hnm, hdn, hT1, hT2⟩ := id hNm
  (try dsimp only)
  (try k_fold)
  k_steps
  all_goals (try k_data)
  all_goals (
    (try dsimp only)
    (try k_unfold)
    (try dsimp only)
    exact hret _ _ _ (fin0 (by k_asm) (by k_asm) (by (repeat (first | exact List.forall_mem_nil _ | refine List.forall_mem_cons.mpr ⟨by k_mem, ?_⟩))) (by (repeat (first | exact List.forall_mem_nil _ | refine List.forall_mem_cons.mpr ⟨by k_mem, ?_⟩))) (by (repeat (first | exact List.forall_mem_nil _ | refine List.forall_mem_cons.mpr ⟨?_, ?_⟩ | (refine neN ?_; (try dsimp only); (first | lia | omega))))) (by exact rfl) (⟨rfl, rfl, _, rfl⟩)))
theorem is_blocked_c {w : World} {mean : ExcName → Option Value} {mg mb : Str → Option Value} {t1 t2 : Tok} :
    Ctr w mean mg mb 5 50 (.ref 235) [.int 0 t1, .int 0 t2] [] (fun _ => True)
      (fun r led' own => led' = [] ∧ own = [] ∧ r = .bool false) := by
  (k_dflt refine' Ctr.enter ?k6 ?k7 ?k9 ?kB ?c2 ?c3 ?c4 ?c5 ?_)
  case k6 => k_dflt k_is
  case k7 => k_dflt k_is
  case k9 => k_dflt (intro s9 X9; first | exact BindsTo.of_eq rfl | exact binds_K X9 rfl (by k_is) rfl rfl rfl)
  case c5 => decide
  case kB => k_dflt exact locs rfl
  case c2 => exact rfl
  case c3 => exact rfl
  case c4 => exact rfl
  rintro dp un fr gd g L h₁ tk₁ s Q hdp hun F N X T _ hret
  (try dsimp only)
  (try k_fold)
  k_steps
  all_goals (try k_data)
  all_goals (
    (try dsimp only)
    (try k_unfold)
    (try dsimp only)
    exact hret _ _ _ (fin0 (by k_asm) (by k_asm) (by (repeat (first | exact List.forall_mem_nil _ | refine List.forall_mem_cons.mpr ⟨by k_mem, ?_⟩))) (by (repeat (first | exact List.forall_mem_nil _ | refine List.forall_mem_cons.mpr ⟨by k_mem, ?_⟩))) (by (repeat (first | exact List.forall_mem_nil _ | refine List.forall_mem_cons.mpr ⟨?_, ?_⟩ | (refine neN ?_; (try dsimp only); (first | lia | omega))))) (by exact rfl) (⟨rfl, rfl, rfl⟩)))
end PNorm
section PSplit
theorem off_Split : True := by
  w_top off
  exact trivial
local macro_rules | `(tactic| walk_at "call ref") => callL "P" 176 "hparts_none_c a0 a1 a2" "a2 aX uF uX P0" "" "sR zP"
local macro_rules | `(tactic| walk_at "call ref") => callL "O" 176 "hparts_some_c a0 a1 a2" "a2 aX uF uX P0" "_ x9 ta9 tb9 e9 w8" "dS zO"
theorem parts_of_none_c {w : World} {mean : ExcName → Option Value} {mg mb : Str → Option Value} {nm : Addr} {c : Int} {tc : Tok} (h0 : 0 ≤ c) (h1 : c < 100000) (hp : hparts c = none) :
    Ctr w mean mg mb 10 100 (.ref 190) [.ref nm, .int c tc] [] (fun g => NormAt w g nm)
      (fun r led' own => led' = [] ∧ own = [] ∧ r = .none) := by
  (k_dflt refine' Ctr.enter ?k6 ?k7 ?k9 ?kB ?c2 ?c3 ?c4 ?c5 ?_)
  case k6 => k_dflt k_is
  case k7 => k_dflt k_is
  case k9 => k_dflt (intro s9 X9; first | exact BindsTo.of_eq rfl | exact binds_K X9 rfl (by k_is) rfl rfl rfl)
  case c5 => decide
  case kB => k_dflt exact locs rfl
  case c2 => exact rfl
  case c3 => exact rfl
  case c4 => exact rfl
  rintro dp un fr gd g L h₁ tk₁ s Q hdp hun F N X T hP9 hret
  (try dsimp only)
  show wpAny _ _ _ _ _ _
  k_fold
  obtain ⟨dn, hh1, t1, hh2, t2, n, e1, e2, hnm, hdn, hT1, hT2⟩ := hP9
  (try dsimp only)
  (try k_fold)
  k_steps
  all_goals (try k_data)
  all_goals (try (exact nomatch ‹(Spec.lookup (PyData.int c) []).isSome = true›))
  all_goals (
    (try dsimp only)
    (try k_unfold)
    (try dsimp only)
    exact hret _ _ _ (fin0 (by k_asm) (by k_asm) (by (repeat (first | exact List.forall_mem_nil _ | refine List.forall_mem_cons.mpr ⟨by k_mem, ?_⟩))) (by (repeat (first | exact List.forall_mem_nil _ | refine List.forall_mem_cons.mpr ⟨by k_mem, ?_⟩))) (by (repeat (first | exact List.forall_mem_nil _ | refine List.forall_mem_cons.mpr ⟨?_, ?_⟩ | (refine neN ?_; (try dsimp only); (first | lia | omega))))) (by exact rfl) (⟨rfl, rfl, rfl⟩)))
theorem parts_of_some_c {w : World} {mean : ExcName → Option Value} {mg mb : Str → Option Value} {nm : Addr} {c a b : Int} {tc : Tok} (h0 : 0 ≤ c) (h1 : c < 100000) (hp : hparts c = some (a, b)) :
    Ctr w mean mg mb 10 100 (.ref 190) [.ref nm, .int c tc] [] (fun g => NormAt w g nm)
      (fun r led' own => led' = [] ∧ ∃ x ta tb, r = .ref x ∧ own = [(x, tup2 a ta b tb)]) := by
  (k_dflt refine' Ctr.enter ?k6 ?k7 ?k9 ?kB ?c2 ?c3 ?c4 ?c5 ?_)
  case k6 => k_dflt k_is
  case k7 => k_dflt k_is
  case k9 => k_dflt (intro s9 X9; first | exact BindsTo.of_eq rfl | exact binds_K X9 rfl (by k_is) rfl rfl rfl)
  case c5 => decide
  case kB => k_dflt exact locs rfl
  case c2 => exact rfl
  case c3 => exact rfl
  case c4 => exact rfl
  rintro dp un fr gd g L h₁ tk₁ s Q hdp hun F N X T hP9 hret
  (try dsimp only)
  show wpAny _ _ _ _ _ _
  k_fold
  obtain ⟨dn, hh1, t1, hh2, t2, n, e1, e2, hnm, hdn, hT1, hT2⟩ := hP9
  (try dsimp only)
  (try k_fold)
  k_steps
  all_goals (try k_data)
  all_goals (try (exact nomatch ‹(Spec.lookup (PyData.int c) []).isSome = true›))
  all_goals (
    (try dsimp only)
    (try k_unfold)
    (try dsimp only)
    exact hret _ _ _ (fin0 (by k_asm) (by k_asm) (by (repeat (first | exact List.forall_mem_nil _ | refine List.forall_mem_cons.mpr ⟨by k_mem, ?_⟩))) (by (repeat (first | exact List.forall_mem_nil _ | refine List.forall_mem_cons.mpr ⟨by k_mem, ?_⟩))) (by (repeat (first | exact List.forall_mem_nil _ | refine List.forall_mem_cons.mpr ⟨?_, ?_⟩ | (refine neN ?_; (try dsimp only); (first | lia | omega))))) (by exact rfl) (⟨rfl, _, _, _, rfl, rfl⟩)))
local macro_rules | `(tactic| walk_at "call ref") => callL "P" 190 "parts_of_none_c a0 a1 a2" "a2 aX uF uX P0" "" "sR zP"
local macro_rules | `(tactic| walk_at "call ref") => callL "O" 190 "parts_of_some_c a0 a1 a2" "a2 aX uF uX P0" "_ x9 ta9 tb9 e9 w8" "dS zO"
theorem split_once_none2_c {w : World} {mean : ExcName → Option Value} {mg mb : Str → Option Value} {nm l : Addr} {c d : Int} {tc td : Tok} {n : Nat} (h0 : 0 ≤ c) (h1 : c < 100000) (hp : hparts c = none) :
    Ctr w mean mg mb 15 150 (.ref 204) [.ref nm, .ref l] [(l, listOf #[.int c tc, .int d td] n)] (fun g => NormAt w g nm)
      (fun r led' own => led' = [(l, listOf #[.int c tc, .int d td] n)] ∧ own = [] ∧ r = .none) := by
  (k_dflt refine' Ctr.enter ?k6 ?k7 ?k9 ?kB ?c2 ?c3 ?c4 ?c5 ?_)
  case k6 => k_dflt k_is
  case k7 => k_dflt k_is
  case k9 => k_dflt (intro s9 X9; first | exact BindsTo.of_eq rfl | exact binds_K X9 rfl (by k_is) rfl rfl rfl)
  case c5 => decide
  case kB => k_dflt exact locs rfl
  case c2 => exact rfl
  case c3 => exact rfl
  case c4 => exact rfl
  rintro dp un fr gd g L h₁ tk₁ s Q hdp hun F N X T hNm hret
  (try dsimp only)
  (try k_fold)
  k_steps
  all_goals (try k_data)
  all_goals (
    (try dsimp only)
    (try k_unfold)
    (try dsimp only)
    exact hret _ _ _ (fin0 (by k_asm) (by k_asm) (by (repeat (first | exact List.forall_mem_nil _ | refine List.forall_mem_cons.mpr ⟨by k_mem, ?_⟩))) (by (repeat (first | exact List.forall_mem_nil _ | refine List.forall_mem_cons.mpr ⟨by k_mem, ?_⟩))) (by (repeat (first | exact List.forall_mem_nil _ | refine List.forall_mem_cons.mpr ⟨?_, ?_⟩ | (refine neN ?_; (try dsimp only); (first | lia | omega))))) (by exact rfl) (⟨rfl, rfl, rfl⟩)))
theorem split_once_none3_c {w : World} {mean : ExcName → Option Value} {mg mb : Str → Option Value} {nm l : Addr} {c d e : Int} {tc td te : Tok} {n : Nat} (h0 : 0 ≤ c) (h1 : c < 100000) (hp : hparts c = none) :
    Ctr w mean mg mb 15 150 (.ref 204) [.ref nm, .ref l] [(l, listOf #[.int c tc, .int d td, .int e te] n)] (fun g => NormAt w g nm)
      (fun r led' own => led' = [(l, listOf #[.int c tc, .int d td, .int e te] n)] ∧ own = [] ∧ r = .none) := by
  (k_dflt refine' Ctr.enter ?k6 ?k7 ?k9 ?kB ?c2 ?c3 ?c4 ?c5 ?_)
  case k6 => k_dflt k_is
  case k7 => k_dflt k_is
  case k9 => k_dflt (intro s9 X9; first | exact BindsTo.of_eq rfl | exact binds_K X9 rfl (by k_is) rfl rfl rfl)
  case c5 => decide
  case kB => k_dflt exact locs rfl
  case c2 => exact rfl
  case c3 => exact rfl
  case c4 => exact rfl
  rintro dp un fr gd g L h₁ tk₁ s Q hdp hun F N X T hNm hret
  (try dsimp only)
  (try k_fold)
  k_steps
  all_goals (try k_data)
  all_goals (
    (try dsimp only)
    (try k_unfold)
    (try dsimp only)
    exact hret _ _ _ (fin0 (by k_asm) (by k_asm) (by (repeat (first | exact List.forall_mem_nil _ | refine List.forall_mem_cons.mpr ⟨by k_mem, ?_⟩))) (by (repeat (first | exact List.forall_mem_nil _ | refine List.forall_mem_cons.mpr ⟨by k_mem, ?_⟩))) (by (repeat (first | exact List.forall_mem_nil _ | refine List.forall_mem_cons.mpr ⟨?_, ?_⟩ | (refine neN ?_; (try dsimp only); (first | lia | omega))))) (by exact rfl) (⟨rfl, rfl, rfl⟩)))
theorem split_once_some1_c {w : World} {mean : ExcName → Option Value} {mg mb : Str → Option Value} {nm l : Addr} {c a b : Int} {tc : Tok} {n : Nat} (h0 : 0 ≤ c) (h1 : c < 100000) (hp : hparts c = some (a, b)) (hb : b ≠ 0) :
    Ctr w mean mg mb 15 150 (.ref 204) [.ref nm, .ref l] [(l, listOf #[.int c tc] n)] (fun g => NormAt w g nm)
      (fun r led' own => led' = [(l, listOf #[.int c tc] n)] ∧ ∃ x ta tb, r = .ref x ∧ own = [(x, listOf #[.int a ta, .int b tb] 0)]) := by
  (k_dflt refine' Ctr.enter ?k6 ?k7 ?k9 ?kB ?c2 ?c3 ?c4 ?c5 ?_)
  case k6 => k_dflt k_is
  case k7 => k_dflt k_is
  case k9 => k_dflt (intro s9 X9; first | exact BindsTo.of_eq rfl | exact binds_K X9 rfl (by k_is) rfl rfl rfl)
  case c5 => decide
  case kB => k_dflt exact locs rfl
  case c2 => exact rfl
  case c3 => exact rfl
  case c4 => exact rfl
  rintro dp un fr gd g L h₁ tk₁ s Q hdp hun F N X T hNm hret
  (try dsimp only)
  (try k_fold)
  k_steps
  all_goals (try k_data)
  all_goals (try (exact absurd (by assumption) hb))
  all_goals (
    (try dsimp only)
    (try k_unfold)
    (try dsimp only)
    exact hret _ _ _ (fin0 (by k_asm) (by k_asm) (by (repeat (first | exact List.forall_mem_nil _ | refine List.forall_mem_cons.mpr ⟨by k_mem, ?_⟩))) (by (repeat (first | exact List.forall_mem_nil _ | refine List.forall_mem_cons.mpr ⟨by k_mem, ?_⟩))) (by (repeat (first | exact List.forall_mem_nil _ | refine List.forall_mem_cons.mpr ⟨?_, ?_⟩ | (refine neN ?_; (try dsimp only); (first | lia | omega))))) (by exact rfl) (⟨rfl, _, _, _, rfl, rfl⟩)))
theorem split_once_some2_c {w : World} {mean : ExcName → Option Value} {mg mb : Str → Option Value} {nm l : Addr} {c a b d : Int} {tc td : Tok} {n : Nat} (h0 : 0 ≤ c) (h1 : c < 100000) (hp : hparts c = some (a, b)) (hb : b ≠ 0) :
    Ctr w mean mg mb 15 150 (.ref 204) [.ref nm, .ref l] [(l, listOf #[.int c tc, .int d td] n)] (fun g => NormAt w g nm)
      (fun r led' own => led' = [(l, listOf #[.int c tc, .int d td] n)] ∧ ∃ x ta tb td, r = .ref x ∧ own = [(x, listOf #[.int a ta, .int b tb, .int d td] 0)]) := by
  (k_dflt refine' Ctr.enter ?k6 ?k7 ?k9 ?kB ?c2 ?c3 ?c4 ?c5 ?_)
  case k6 => k_dflt k_is
  case k7 => k_dflt k_is
  case k9 => k_dflt (intro s9 X9; first | exact BindsTo.of_eq rfl | exact binds_K X9 rfl (by k_is) rfl rfl rfl)
  case c5 => decide
  case kB => k_dflt exact locs rfl
  case c2 => exact rfl
  case c3 => exact rfl
  case c4 => exact rfl
  rintro dp un fr gd g L h₁ tk₁ s Q hdp hun F N X T hNm hret
  (try dsimp only)
  (try k_fold)
  k_steps
  all_goals (try k_data)
  all_goals (try (exact absurd (by assumption) hb))
  all_goals (
    (try dsimp only)
    (try k_unfold)
    (try dsimp only)
    exact hret _ _ _ (fin0 (by k_asm) (by k_asm) (by (repeat (first | exact List.forall_mem_nil _ | refine List.forall_mem_cons.mpr ⟨by k_mem, ?_⟩))) (by (repeat (first | exact List.forall_mem_nil _ | refine List.forall_mem_cons.mpr ⟨by k_mem, ?_⟩))) (by (repeat (first | exact List.forall_mem_nil _ | refine List.forall_mem_cons.mpr ⟨?_, ?_⟩ | (refine neN ?_; (try dsimp only); (first | lia | omega))))) (by exact rfl) (⟨rfl, _, _, _, _, rfl, rfl⟩)))
end PSplit
section PSplits
local macro_rules | `(tactic| walk_at "no such key") => `(tactic| skip)
theorem off_Splits : True := by
  w_top off
  exact trivial
local macro_rules | `(tactic| walk_at "call ref") => callL "R" 204 "split_once_none2_c a0 a1 a2" "uF uW a2 aX uX P0" "w8 R9" "sW sR zO"
local macro_rules | `(tactic| walk_at "call ref") => callL "R" 204 "split_once_none3_c a0 a1 a2" "uF uW a2 aX uX P0" "w8 R9" "sW sR zO"
local macro_rules | `(tactic| walk_at "call ref") => callL "R" 204 "split_once_some1_c a0 a1 a2 a3" "uF uW a2 aX uX P0" "x9 ta9 tb9 e9 w8" "dS zO"
local macro_rules | `(tactic| walk_at "call ref") => callL "R" 204 "split_once_some2_c a0 a1 a2 a3" "uF uW a2 aX uX P0" "x9 ta9 tb9 tc9 e9 w8" "dS zO"
theorem splits_S_c {w : World} {mean : ExcName → Option Value} {mg mb : Str → Option Value} {nm : Addr} {c a b : Int} {tc : Tok} (h0 : 0 ≤ c) (h1 : c < 100000) (a0 : 0 ≤ a) (a1 : a < 100000) (hp : hparts c = some (a, b)) (hb : b ≠ 0) (hac : a ≠ c) (hp2 : hparts a = none) :
    Ctr w mean mg mb 20 200 (.ref 211) [.ref nm, .int c tc] [] (fun g => NormAt w g nm)
      (fun r led' own => led' = [] ∧ ∃ x l1 l2 ta tb n, r = .ref x ∧ own = [(x, listOf #[.ref l1, .ref l2] n), (l1, listOf #[.int c tc] 0), (l2, listOf #[.int a ta, .int b tb] 0)]) := by
  (k_dflt refine' Ctr.enter ?k6 ?k7 ?k9 ?kB ?c2 ?c3 ?c4 ?c5 ?_)
  case k6 => k_dflt k_is
  case k7 => k_dflt k_is
  case k9 => k_dflt (intro s9 X9; first | exact BindsTo.of_eq rfl | exact binds_K X9 rfl (by k_is) rfl rfl rfl)
  case c5 => decide
  case kB => k_dflt exact locs rfl
  case c2 => exact rfl
  case c3 => exact rfl
  case c4 => exact rfl
  rintro dp un fr gd g L h₁ tk₁ s Q hdp hun F N X T hNm hret
  (try dsimp only)
  (try k_fold)
  k_steps
  all_goals (try k_data)
  · exact absurd ‹([c].any fun x => x == [a, b].getD (Int.toNat 0) 0) = true› (by simp [Ne.symm hac])
  · (try dsimp only)
    (try k_unfold)
    (try dsimp only)
    exact hret _ _ _ (fin0 (by k_asm) (by k_asm) (by (repeat (first | exact List.forall_mem_nil _ | refine List.forall_mem_cons.mpr ⟨by k_mem, ?_⟩))) (by (repeat (first | exact List.forall_mem_nil _ | refine List.forall_mem_cons.mpr ⟨by k_mem, ?_⟩))) (by (repeat (first | exact List.forall_mem_nil _ | refine List.forall_mem_cons.mpr ⟨?_, ?_⟩ | (refine neN ?_; (try dsimp only); (first | lia | omega))))) (by exact rfl) (⟨rfl, _, _, _, _, _, _, rfl, rfl⟩))
theorem splits_C_c {w : World} {mean : ExcName → Option Value} {mg mb : Str → Option Value} {nm : Addr} {c a b l v : Int} {tc : Tok} (h0 : 0 ≤ c) (h1 : c < 100000) (a0 : 0 ≤ a) (a1 : a < 100000) (l0 : 0 ≤ l) (l1 : l < 100000) (hp : hparts c = some (a, b)) (hb : b ≠ 0) (hac : a ≠ c)
    (hp2 : hparts a = some (l, v)) (hv : v ≠ 0) (hlc : l ≠ c) (hla : l ≠ a) (hp3 : hparts l = none) :
    Ctr w mean mg mb 20 200 (.ref 211) [.ref nm, .int c tc] [] (fun g => NormAt w g nm)
      (fun r led' own => led' = [] ∧ ∃ x l1 l2 l3 ta tb t1 t2 t3 n, r = .ref x ∧ own = [(x, listOf #[.ref l1, .ref l2, .ref l3] n), (l1, listOf #[.int c tc] 0), (l2, listOf #[.int a ta, .int b tb] 0), (l3, listOf #[.int l t1, .int v t2, .int b t3] 0)]) := by
  (k_dflt refine' Ctr.enter ?k6 ?k7 ?k9 ?kB ?c2 ?c3 ?c4 ?c5 ?_)
  case k6 => k_dflt k_is
  case k7 => k_dflt k_is
  case k9 => k_dflt (intro s9 X9; first | exact BindsTo.of_eq rfl | exact binds_K X9 rfl (by k_is) rfl rfl rfl)
  case c5 => decide
  case kB => k_dflt exact locs rfl
  case c2 => exact rfl
  case c3 => exact rfl
  case c4 => exact rfl
  rintro dp un fr gd g L h₁ tk₁ s Q hdp hun F N X T hNm hret
  (try dsimp only)
  (try k_fold)
  k_steps
  all_goals (try k_data)
  · exact absurd ‹([c].any fun x => x == [a, b].getD (Int.toNat 0) 0) = true› (by simp [Ne.symm hac])
  · exact absurd ‹([c, [a, b].getD (Int.toNat 0) 0].any fun x => x == [l, v, b].getD (Int.toNat 0) 0) = true› (by simp [Ne.symm hlc, Ne.symm hla])
  · (try dsimp only)
    (try k_unfold)
    (try dsimp only)
    exact hret _ _ _ (fin0 (by k_asm) (by k_asm) (by (repeat (first | exact List.forall_mem_nil _ | refine List.forall_mem_cons.mpr ⟨by k_mem, ?_⟩))) (by (repeat (first | exact List.forall_mem_nil _ | refine List.forall_mem_cons.mpr ⟨by k_mem, ?_⟩))) (by (repeat (first | exact List.forall_mem_nil _ | refine List.forall_mem_cons.mpr ⟨?_, ?_⟩ | (refine neN ?_; (try dsimp only); (first | lia | omega))))) (by exact rfl) (⟨rfl, _, _, _, _, _, _, _, _, _, _, rfl, rfl⟩))
end PSplits
section PHad
theorem off_Had : True := by
  w_top off
  exact trivial
local macro_rules | `(tactic| walk_at "call ref") => callL "O" 211 "splits_S_c a0 a1 a2 a3 a4 a5 a6 a7" "a4 aX uF uX P0" "_ x9 y9 z9 ta9 tb9 m9 e9 w8" "dS zO"
local macro_rules | `(tactic| walk_at "call ref") => callL "P" 302 "glyph_in_c a0" "a0 uF uX P0" "" "dP zP"
theorem had_S_c {w : World} {mean : ExcName → Option Value} {mg mb : Str → Option Value} {nm cm : Addr} {c a b : Int} {tc : Tok} {ks : List Int} (h0 : 0 ≤ c) (h1 : c < 100000) (a0 : 0 ≤ a) (a1 : a < 100000) (hp : hparts c = some (a, b)) (hb : b ≠ 0) (hac : a ≠ c) (hp2 : hparts a = none)
    (ka : (ks.any fun x => x == a) = true) (kb : (ks.any fun x => x == b) = true) :
    Ctr w mean mg mb 25 250 (.ref 216) [.ref nm, .ref cm, .int c tc] [] (fun g => NormAt w g nm ∧ CharAt w g cm ks)
      (fun r led' own => led' = [] ∧ IntsPost [a, b] r own) := by
  (k_dflt refine' Ctr.enterC ?k6 ?k7 ?k9 ?kB ?kD ?c2 ?c3 ?c4 ?_)
  case k6 => k_dflt k_is
  case k7 => k_dflt k_is
  case k9 => k_dflt (intro s9 X9; first | exact BindsTo.of_eq rfl | exact binds_K X9 rfl (by k_is) rfl rfl rfl)
  case kB => k_dflt exact rfl
  case kD => decide +kernel
  case c2 => exact rfl
  case c3 => exact rfl
  case c4 => exact rfl
  rintro dp un fr gd g L h₁ tk₁ s Q cells hdp hun F N Y hlL X T hP9 hret
  (try dsimp only)
  show wpAny _ _ _ _ _ _
  k_fold
  obtain ⟨hNm, hCm⟩ := hP9
  obtain ⟨dcm, hh1, t1, hh2, t2, n, cd, D, hcm, hdc, hT, hD⟩ := id hCm
  k_cells Y
  (try simp only [List.cons_append, List.nil_append] at N)
  (try dsimp only)
  show wpAny _ _ _ _ _ _
  (try k_fold)
  k_steps
  all_goals (try k_data)
  all_goals (
    (try dsimp only)
    (try k_unfold)
    (try dsimp only)
    exact hret _ _ _ (fin0 (by k_asm) (by k_asm) (by (repeat (first | exact List.forall_mem_nil _ | refine List.forall_mem_cons.mpr ⟨by k_mem, ?_⟩))) (by (repeat (first | exact List.forall_mem_nil _ | refine List.forall_mem_cons.mpr ⟨by k_mem, ?_⟩))) (by (repeat (first | exact List.forall_mem_nil _ | refine List.forall_mem_cons.mpr ⟨?_, ?_⟩ | (refine neN ?_; (try dsimp only); (first | lia | omega))))) (by exact rfl) (⟨rfl, intsPost2 rfl⟩)))
local macro_rules | `(tactic| walk_at "call ref") => callL "O" 211 "splits_C_c a0 a1 a2 a3 b0 b1 a4 a5 a6 a7 a8 a9 c1 c2" "a4 a7 aX bX uF uX P0" "_ x9 y9 y8 z9 ta9 tb9 tc9 td9 te9 m9 e9 w8" "dS zO"
theorem had_C_c {w : World} {mean : ExcName → Option Value} {mg mb : Str → Option Value} {nm cm : Addr} {c a b l v : Int} {tc : Tok} {ks : List Int} (h0 : 0 ≤ c) (h1 : c < 100000) (a0 : 0 ≤ a) (a1 : a < 100000) (l0 : 0 ≤ l) (l1 : l < 100000) (hp : hparts c = some (a, b)) (hb : b ≠ 0) (hac : a ≠ c)
    (hp2 : hparts a = some (l, v)) (hv : v ≠ 0) (hlc : l ≠ c) (hla : l ≠ a) (hp3 : hparts l = none)
    (kl : (ks.any fun x => x == l) = true) (kv : (ks.any fun x => x == v) = true) (kb : (ks.any fun x => x == b) = true) :
    Ctr w mean mg mb 25 250 (.ref 216) [.ref nm, .ref cm, .int c tc] [] (fun g => NormAt w g nm ∧ CharAt w g cm ks)
      (fun r led' own => led' = [] ∧ IntsPost [l, v, b] r own) := by
  (k_dflt refine' Ctr.enterC ?k6 ?k7 ?k9 ?kB ?kD ?c2 ?c3 ?c4 ?_)
  case k6 => k_dflt k_is
  case k7 => k_dflt k_is
  case k9 => k_dflt (intro s9 X9; first | exact BindsTo.of_eq rfl | exact binds_K X9 rfl (by k_is) rfl rfl rfl)
  case kB => k_dflt exact rfl
  case kD => decide +kernel
  case c2 => exact rfl
  case c3 => exact rfl
  case c4 => exact rfl
  rintro dp un fr gd g L h₁ tk₁ s Q cells hdp hun F N Y hlL X T hP9 hret
  (try dsimp only)
  show wpAny _ _ _ _ _ _
  k_fold
  obtain ⟨hNm, hCm⟩ := hP9
  obtain ⟨dcm, hh1, t1, hh2, t2, n, cd, D, hcm, hdc, hT, hD⟩ := id hCm
  k_cells Y
  (try simp only [List.cons_append, List.nil_append] at N)
  (try dsimp only)
  show wpAny _ _ _ _ _ _
  (try k_fold)
  k_steps
  all_goals (try k_data)
  all_goals (
    (try dsimp only)
    (try k_unfold)
    (try dsimp only)
    exact hret _ _ _ (fin0 (by k_asm) (by k_asm) (by (repeat (first | exact List.forall_mem_nil _ | refine List.forall_mem_cons.mpr ⟨by k_mem, ?_⟩))) (by (repeat (first | exact List.forall_mem_nil _ | refine List.forall_mem_cons.mpr ⟨by k_mem, ?_⟩))) (by (repeat (first | exact List.forall_mem_nil _ | refine List.forall_mem_cons.mpr ⟨?_, ?_⟩ | (refine neN ?_; (try dsimp only); (first | lia | omega))))) (by exact rfl) (⟨rfl, intsPost3 rfl⟩)))
end PHad
section PStays
theorem off_Stays : True := by
  w_top off
  exact trivial
theorem item_base {w : World} {A : Around} {E : Value → Shared → Prop} {s : Shared} {g : Heap} {L l : Addr} {m : Str → Option Value} {vs : List Value} {k : Int} {u : Tok} {v : Value} {value slice : Expr} {Q : Value → Shared → Prop}
    (F : Fr g L s.heap m) (hl : g.IsList l (List.toArray vs)) (hx : vs[k.toNat]? = some v) (h0 : 0 ≤ k) (hhi : k < 2 ^ 63) (h : Q v s)
    (hs : subscripted slice false (.ref l) (.int k u) = operate [.ref l, .int k u] (getItem (.ref l) (.int k u)) := by with_unfolding_all rfl) :
    wpAny (model PR w) A (subscriptTail value slice (.ref l) (.int k u)) Q E s :=
  have hL := base_list hl F.keep
  tail_any hL.typeIs slot_list_getitem.lookup (wpAny_getItem_list hL h0 hhi (by simpa using hx) h) hs
local macro_rules | `(tactic| walk_at "subscriptTail") => `(tactic| walk_at "itemB")
theorem len_base {w : World} {A : Around} {E : Value → Shared → Prop} {s : Shared} {g : Heap} {L l : Addr} {m : Str → Option Value} {vs : List Value} {Q : Value → Shared → Prop}
    (F : Fr g L s.heap m) (hl : g.IsList l (List.toArray vs)) (hfit : (vs.length : Int) < 2 ^ 63) (h : Q (.int vs.length (s.toks + 1)) { s with toks := s.toks + 1 + 1 }) :
    wpAny (model PR w) A (call (.builtin "len") [.ref l]) Q E s := by
  have e : (List.toArray vs).size = vs.length := List.size_toArray
  exact call_len_list (base_list hl F.keep) (by rw [e]; exact hfit) (by rw [e]; exact h)
local macro_rules | `(tactic| walk_at "call builtin:len") => `(tactic| walk_at "lenB")
local macro_rules | `(tactic| walk_at "call ref") => callL "P" 302 "glyph_in_c a0" "a0 uF uX P0" "" "dP zP"
local macro_rules | `(tactic| walk_at "call ref") => callL "P" 302 "glyph_out_c a0" "a0 uF uX P0" "" "dP zP"
local macro_rules | `(tactic| walk_at "call ref") => callL "P" 242 "class_here_c" "uF uX P0" "" "dP zP"
def StayP (w : World) (row nm cm : Addr) (k : Int) (n : Nat) (c : Int) (ks : List Int) (g : Heap) : Prop :=
  NormAt w g nm ∧ CharAt w g cm ks ∧ ∃ vs, g.IsList row (List.toArray vs) ∧ vs.length = n ∧ (∃ x cl, vs[k.toNat]? = some (.ref x) ∧ InfoAt g x c cl) ∧ (k + 1 = n ∨ ∃ y c' cl', vs[(k + 1).toNat]? = some (.ref y) ∧ InfoAt g y c' cl')
theorem stays_c {w : World} {mean : ExcName → Option Value} {mg mb : Str → Option Value} {row nm cm : Addr} {k c : Int} {n : Nat} {tk : Tok} {ks : List Int} (h0 : 0 ≤ k) (h1 : k < 1000) (hn : n ≤ 1000) :
    Ctr w mean mg mb 20 200 (.ref 249) [.ref row, .int k tk, .ref nm, .ref cm] [] (StayP w row nm cm k n c ks)
      (fun r led' own => led' = [] ∧ own = [] ∧ r = .bool (ks.any fun x => x == c)) := by
  (k_dflt refine' Ctr.enter ?k6 ?k7 ?k9 ?kB ?c2 ?c3 ?c4 ?c5 ?_)
  case k6 => k_dflt k_is
  case k7 => k_dflt k_is
  case k9 => k_dflt (intro s9 X9; first | exact BindsTo.of_eq rfl | exact binds_K X9 rfl (by k_is) rfl rfl rfl)
  case c5 => decide
  case kB => k_dflt exact locs rfl
  case c2 => exact rfl
  case c3 => exact rfl
  case c4 => exact rfl
  rintro dp un fr gd g L h₁ tk₁ s Q hdp hun F N X T hP9 hret
  (try dsimp only)
  show wpAny _ _ _ _ _ _
  k_fold
  obtain ⟨hNm, hCm, vs, hl, hlen, ⟨x, cl, hx, hIx⟩, hy⟩ := hP9
  obtain ⟨dcm, hh1, t1, hh2, t2, n', cd, D, hcm, hdc, hT, hD⟩ := id hCm
  obtain ⟨dx, q, hx1, hx2, rfl, rfl⟩ := id hIx
  cases hk : (ks.any fun x => x == q.code) with
  | false =>
    (try dsimp only)
    (try k_fold)
    k_steps
    all_goals (try k_data)
    all_goals (
      (try dsimp only)
      (try k_unfold)
      (try dsimp only)
      exact hret _ _ _ (fin0 (by k_asm) (by k_asm) (by (repeat (first | exact List.forall_mem_nil _ | refine List.forall_mem_cons.mpr ⟨by k_mem, ?_⟩))) (by (repeat (first | exact List.forall_mem_nil _ | refine List.forall_mem_cons.mpr ⟨by k_mem, ?_⟩))) (by (repeat (first | exact List.forall_mem_nil _ | refine List.forall_mem_cons.mpr ⟨?_, ?_⟩ | (refine neN ?_; (try dsimp only); (first | lia | omega))))) (by exact rfl) (⟨rfl, rfl, by rw [hk]⟩)))
  | true =>
    rcases hy with hy | ⟨y, c', cl', hy, hIy⟩
    · (try dsimp only)
      (try k_fold)
      k_steps
      all_goals (try k_data)
      all_goals (
        (try dsimp only)
        (try k_unfold)
        (try dsimp only)
        exact hret _ _ _ (fin0 (by k_asm) (by k_asm) (by (repeat (first | exact List.forall_mem_nil _ | refine List.forall_mem_cons.mpr ⟨by k_mem, ?_⟩))) (by (repeat (first | exact List.forall_mem_nil _ | refine List.forall_mem_cons.mpr ⟨by k_mem, ?_⟩))) (by (repeat (first | exact List.forall_mem_nil _ | refine List.forall_mem_cons.mpr ⟨?_, ?_⟩ | (refine neN ?_; (try dsimp only); (first | lia | omega))))) (by exact rfl) (⟨rfl, rfl, bool_is (by rw [hk]; first | rfl | exact (beq_iff_eq.mpr (by assumption)).symm)⟩)))
    · (try dsimp only)
      (try k_fold)
      k_steps
      all_goals (try k_data)
      all_goals (
        (try dsimp only)
        (try k_unfold)
        (try dsimp only)
        exact hret _ _ _ (fin0 (by k_asm) (by k_asm) (by (repeat (first | exact List.forall_mem_nil _ | refine List.forall_mem_cons.mpr ⟨by k_mem, ?_⟩))) (by (repeat (first | exact List.forall_mem_nil _ | refine List.forall_mem_cons.mpr ⟨by k_mem, ?_⟩))) (by (repeat (first | exact List.forall_mem_nil _ | refine List.forall_mem_cons.mpr ⟨?_, ?_⟩ | (refine neN ?_; (try dsimp only); (first | lia | omega))))) (by exact rfl) (⟨rfl, rfl, bool_is (by rw [hk]; first | rfl | exact (beq_iff_eq.mpr (by assumption)).symm)⟩)))
end PStays
section PRow
theorem off_Row : True := by
  w_top off
  exact trivial
def clOf (is : List (Int × Int)) (k : Int) : Int := (is.getD k.toNat (0, 0)).2
def cdOf (is : List (Int × Int)) (k : Int) : Int := (is.getD k.toNat (0, 0)).1
def RowAt (g : Heap) (row : Addr) (is : List (Int × Int)) : Prop :=
  ∃ vs, g.IsList row (List.toArray vs) ∧ vs.length = is.length ∧ ∀ (i : Nat) (p : Int × Int), is[i]? = some p → ∃ x : Addr, vs[i]? = some (Value.ref x) ∧ InfoAt g x p.1 p.2
theorem RowAt.keeps {g H : Heap} {row : Addr} {is : List (Int × Int)} (h : RowAt g row is) (b : ∀ b o, g.get? b = some o → H.get? b = some o) : RowAt H row is := by
  obtain ⟨vs, hl, hn, hi⟩ := h
  exact ⟨vs, base_list hl b, hn, fun i p hp => let ⟨x, h1, h2⟩ := hi i p hp; ⟨x, h1, h2.keeps b⟩⟩
theorem item_row {w : World} {A : Around} {E : Value → Shared → Prop} {s : Shared} {g : Heap} {L l : Addr} {m : Str → Option Value} {is : List (Int × Int)} {k : Int} {u : Tok} {value slice : Expr} {Q : Value → Shared → Prop}
    (F : Fr g L s.heap m) (hr : RowAt g l is) (h0 : 0 ≤ k) (h1 : k < is.length) (h2 : is.length ≤ 1000)
    (h : ∀ x dx q, g.get? x = some (instObj 52 dx) → g.get? dx = some (infoD q) → q.code = cdOf is k → q.cluster = clOf is k → Q (.ref x) s)
    (hs : subscripted slice false (.ref l) (.int k u) = operate [.ref l, .int k u] (getItem (.ref l) (.int k u)) := by with_unfolding_all rfl) :
    wpAny (model PR w) A (subscriptTail value slice (.ref l) (.int k u)) Q E s := by
  obtain ⟨vs, hl, hn, hi⟩ := hr
  have hk : k.toNat < is.length := by (first | lia | omega)
  obtain ⟨x, hx, dx, q, hq1, hq2, hq3, hq4⟩ := hi k.toNat is[k.toNat] (by simp [hk])
  refine item_base F hl hx h0 (by (first | lia | omega)) (h x dx q hq1 hq2 ?_ ?_) hs
  · rw [hq3]; unfold cdOf; simp [List.getD, hk]
  · rw [hq4]; unfold clOf; simp [List.getD, hk]
theorem len_row {w : World} {A : Around} {E : Value → Shared → Prop} {s : Shared} {g : Heap} {L l : Addr} {m : Str → Option Value} {is : List (Int × Int)} {Q : Value → Shared → Prop}
    (F : Fr g L s.heap m) (hr : RowAt g l is) (h2 : is.length ≤ 1000) (h : Q (.int is.length (s.toks + 1)) { s with toks := s.toks + 1 + 1 }) :
    wpAny (model PR w) A (call (.builtin "len") [.ref l]) Q E s := by
  obtain ⟨vs, hl, hn, hi⟩ := hr
  exact len_base F hl (by (first | lia | omega)) (by rw [hn]; exact h)
theorem upd1_self {m : Str → Option Value} {x : Str} {v : Value} (h : m x = some v) : (fun y => if y = x then some v else m y) = m := by
  funext y
  by_cases e : y = x
  · simp [e, h]
  · simp [e]
theorem upd1_again {m : Str → Option Value} {x : Str} {v v' : Value} : (fun y => if y = x then some v' else if y = x then some v else m y) = fun y => if y = x then some v' else m y := by
  funext y
  by_cases e : y = x <;> simp [e]
theorem set_cluster_c {w : World} {mean : ExcName → Option Value} {mg mb : Str → Option Value} {x dx : Addr} {q : IR} {k : Int} {tk : Tok} :
    Ctr w mean mg mb 5 50 (.ref 122) [.ref x, .int k tk] [(dx, infoD q)] (fun g => g.get? x = some (instObj 52 dx))
      (fun r led' own => own = [] ∧ r = .none ∧ ∃ o, led' = [(dx, o)] ∧ IsInfo o q.code k) := by
  (k_dflt refine' Ctr.enter ?k6 ?k7 ?k9 ?kB ?c2 ?c3 ?c4 ?c5 ?_)
  case k6 => k_dflt k_is
  case k7 => k_dflt k_is
  case k9 => k_dflt (intro s9 X9; first | exact BindsTo.of_eq rfl | exact binds_K X9 rfl (by k_is) rfl rfl rfl)
  case c5 => decide
  case kB => k_dflt exact locs rfl
  case c2 => exact rfl
  case c3 => exact rfl
  case c4 => exact rfl
  rintro dp un fr gd g L h₁ tk₁ s Q hdp hun F N X T hx hret
  (try dsimp only)
  (try k_fold)
  k_steps
  all_goals (try k_data)
  all_goals (
    (try dsimp only)
    (try k_unfold)
    (try dsimp only)
    exact hret _ _ _ (fin0 (by k_asm) (by k_asm) (by (repeat (first | exact List.forall_mem_nil _ | refine List.forall_mem_cons.mpr ⟨by k_mem, ?_⟩))) (by (repeat (first | exact List.forall_mem_nil _ | refine List.forall_mem_cons.mpr ⟨by k_mem, ?_⟩))) (by (repeat (first | exact List.forall_mem_nil _ | refine List.forall_mem_cons.mpr ⟨?_, ?_⟩ | (refine neN ?_; (try dsimp only); (first | lia | omega))))) (by exact rfl) (⟨rfl, rfl, _, rfl, by first | exact isInfo_mk rfl rfl | exact ⟨q, rfl, rfl, by assumption⟩⟩)))
theorem set_cluster_same_c {w : World} {mean : ExcName → Option Value} {mg mb : Str → Option Value} {x : Addr} {c k : Int} {tk : Tok} :
    Ctr w mean mg mb 5 50 (.ref 122) [.ref x, .int k tk] [] (fun g => InfoAt g x c k)
      (fun r led' own => led' = [] ∧ own = [] ∧ r = .none) := by
  (k_dflt refine' Ctr.enter ?k6 ?k7 ?k9 ?kB ?c2 ?c3 ?c4 ?c5 ?_)
  case k6 => k_dflt k_is
  case k7 => k_dflt k_is
  case k9 => k_dflt (intro s9 X9; first | exact BindsTo.of_eq rfl | exact binds_K X9 rfl (by k_is) rfl rfl rfl)
  case c5 => decide
  case kB => k_dflt exact locs rfl
  case c2 => exact rfl
  case c3 => exact rfl
  case c4 => exact rfl
  rintro dp un fr gd g L h₁ tk₁ s Q hdp hun F N X T hP9 hret
  (try dsimp only)
  show wpAny _ _ _ _ _ _
  k_fold
  obtain ⟨dx, q, hx, hdx, rfl, rfl⟩ := hP9
  (try dsimp only)
  (try k_fold)
  k_steps
  all_goals (try k_data)
  · exact absurd rfl ‹q.cluster ≠ q.cluster›
  · (try dsimp only)
    (try k_unfold)
    (try dsimp only)
    exact hret _ _ _ (fin0 (by k_asm) (by k_asm) (by (repeat (first | exact List.forall_mem_nil _ | refine List.forall_mem_cons.mpr ⟨by k_mem, ?_⟩))) (by (repeat (first | exact List.forall_mem_nil _ | refine List.forall_mem_cons.mpr ⟨by k_mem, ?_⟩))) (by (repeat (first | exact List.forall_mem_nil _ | refine List.forall_mem_cons.mpr ⟨?_, ?_⟩ | (refine neN ?_; (try dsimp only); (first | lia | omega))))) (by exact rfl) (⟨rfl, rfl, rfl⟩))
local macro_rules | `(tactic| walk_at "subscriptTail") => `(tactic| walk_at "itemR")
local macro_rules | `(tactic| walk_at "call builtin:len") => refL "biIs" "len_row" "kasm asm c_om ?" ""
local macro_rules | `(tactic| walk_at "exec While") => `(tactic| walk_at "stop")
local macro_rules | `(tactic| walk_at "exec While BoolOp") => `(tactic| walk_at "stop")
theorem widened_c {w : World} {mean : ExcName → Option Value} {mg mb : Str → Option Value} {row : Addr} {b e : Int} {tb te : Tok} {is : List (Int × Int)} (b0 : 0 ≤ b) (be : b < e) (en : e ≤ is.length) (hn : is.length ≤ 1000) :
    Ctr w mean mg mb 5 50 (.ref 129) [.ref row, .int b tb, .int e te] [] (fun g => RowAt g row is)
      (fun r led' own => led' = [] ∧ ∃ x f h tf th, r = .ref x ∧ own = [(x, tup2 f tf h th)] ∧ 0 ≤ f ∧ f ≤ b ∧ e ≤ h ∧ h ≤ is.length ∧ (∀ j, f ≤ j → j ≤ b → clOf is j = clOf is b) ∧ (∀ j, e - 1 ≤ j → j < h → clOf is j = clOf is (e - 1))) := by
  (k_dflt refine' Ctr.enter ?k6 ?k7 ?k9 ?kB ?c2 ?c3 ?c4 ?c5 ?_)
  case k6 => k_dflt k_is
  case k7 => k_dflt k_is
  case k9 => k_dflt (intro s9 X9; first | exact BindsTo.of_eq rfl | exact binds_K X9 rfl (by k_is) rfl rfl rfl)
  case c5 => decide
  case kB => k_dflt exact locs rfl
  case c2 => exact rfl
  case c3 => exact rfl
  case c4 => exact rfl
  rintro dp un fr gd g L h₁ tk₁ s Q hdp hun F N X T hrow hret
  (try dsimp only)
  (try k_fold)
  k_steps
  all_goals (try k_data)
  show wpAny _ _ _ _ _ _
  refine while_S (σ := Int × Tok) (x₀ := (e, te)) (fun a m y => if y = Str.ofString "behind" then some (.int a.1 a.2) else m y) (fun _ => []) (fun a => e ≤ a.1 ∧ a.1 ≤ is.length ∧ ∀ j, e - 1 ≤ j → j < a.1 → clOf is j = clOf is (e - 1)) (fun a => (is.length - a.1).toNat) PassesOwn.never (by k_asm) (by k_asm) (upd1_self rfl) ⟨by (first | lia | omega), by (first | lia | omega), fun j h1 h2 => by rw [show j = e - 1 by (first | lia | omega)]⟩ ?_
  rintro ⟨a, ta⟩ h9 tk9 hI9 F N
  show wpAny _ _ _ _ _ _
  (try k_fold)
  obtain ⟨i1, i2, i3⟩ := hI9
  (try dsimp only at F N i1 i2 i3)
  (try dsimp only)
  k_steps
  · refine SEnd.next (a + 1, _) (by k_asm) (by k_asm) (fun _ h => nomatch h) upd1_again ⟨by show e ≤ a + 1; (first | lia | omega), by show a + 1 ≤ _; (first | lia | omega), fun j h1 h2 => ?_⟩ (by show ((is.length : Int) - (a + 1)).toNat < ((is.length : Int) - a).toNat; (first | lia | omega))
    have h3 : j < a + 1 := h2
    by_cases hj : j = a
    · have := i3 (a - 1) (by (first | lia | omega)) (by (first | lia | omega))
      rw [hj]
      (first | lia | omega)
    · exact i3 j h1 (by (first | lia | omega))
  all_goals (
    show wpAny _ _ _ _ _ _
    refine while_S (σ := Int × Tok) (x₀ := (b, tb)) (fun a m y => if y = Str.ofString "first" then some (.int a.1 a.2) else m y) (fun _ => []) (fun a => 0 ≤ a.1 ∧ a.1 ≤ b ∧ ∀ j, a.1 ≤ j → j ≤ b → clOf is j = clOf is b) (fun a => a.1.toNat) PassesOwn.never (by k_asm) (by k_asm) (upd1_self rfl) ⟨by (first | lia | omega), by (first | lia | omega), fun j h1 h2 => by rw [show j = b by (first | lia | omega)]⟩ ?_
    rintro ⟨f, tf⟩ h8 tk8 hI9 F N
    show wpAny _ _ _ _ _ _
    (try k_fold)
    obtain ⟨j1, j2, j3⟩ := hI9
    (try dsimp only at F N j1 j2 j3)
    (try dsimp only)
    k_steps)
  · refine SEnd.next (f - 1, _) (by k_asm) (by k_asm) (fun _ h => nomatch h) upd1_again ⟨by show 0 ≤ f - 1; (first | lia | omega), by show f - 1 ≤ b; (first | lia | omega), fun j h1 h2 => ?_⟩ (by show (f - 1).toNat < f.toNat; (first | lia | omega))
    have h3 : f - 1 ≤ j := h1
    by_cases hj : j = f - 1
    · have := j3 f (by (first | lia | omega)) (by (first | lia | omega))
      rw [hj]
      (first | lia | omega)
    · exact j3 j (by (first | lia | omega)) h2
  · (try dsimp only)
    (try k_unfold)
    (try dsimp only)
    exact hret _ _ _ (fin0 (by k_asm) (by k_asm) (by (repeat (first | exact List.forall_mem_nil _ | refine List.forall_mem_cons.mpr ⟨by k_mem, ?_⟩))) (by (repeat (first | exact List.forall_mem_nil _ | refine List.forall_mem_cons.mpr ⟨by k_mem, ?_⟩))) (by (repeat (first | exact List.forall_mem_nil _ | refine List.forall_mem_cons.mpr ⟨?_, ?_⟩ | (refine neN ?_; (try dsimp only); (first | lia | omega))))) (by exact rfl) (⟨rfl, _, _, _, _, _, rfl, rfl, j1, j2, i1, i2, j3, i3⟩))
  · (try dsimp only)
    (try k_unfold)
    (try dsimp only)
    exact hret _ _ _ (fin0 (by k_asm) (by k_asm) (by (repeat (first | exact List.forall_mem_nil _ | refine List.forall_mem_cons.mpr ⟨by k_mem, ?_⟩))) (by (repeat (first | exact List.forall_mem_nil _ | refine List.forall_mem_cons.mpr ⟨by k_mem, ?_⟩))) (by (repeat (first | exact List.forall_mem_nil _ | refine List.forall_mem_cons.mpr ⟨?_, ?_⟩ | (refine neN ?_; (try dsimp only); (first | lia | omega))))) (by exact rfl) (⟨rfl, _, _, _, _, _, rfl, rfl, j1, j2, i1, i2, j3, i3⟩))
  · refine SEnd.next (f - 1, _) (by k_asm) (by k_asm) (fun _ h => nomatch h) upd1_again ⟨by show 0 ≤ f - 1; (first | lia | omega), by show f - 1 ≤ b; (first | lia | omega), fun j h1 h2 => ?_⟩ (by show (f - 1).toNat < f.toNat; (first | lia | omega))
    have h3 : f - 1 ≤ j := h1
    by_cases hj : j = f - 1
    · have := j3 f (by (first | lia | omega)) (by (first | lia | omega))
      rw [hj]
      (first | lia | omega)
    · exact j3 j (by (first | lia | omega)) h2
  · (try dsimp only)
    (try k_unfold)
    (try dsimp only)
    exact hret _ _ _ (fin0 (by k_asm) (by k_asm) (by (repeat (first | exact List.forall_mem_nil _ | refine List.forall_mem_cons.mpr ⟨by k_mem, ?_⟩))) (by (repeat (first | exact List.forall_mem_nil _ | refine List.forall_mem_cons.mpr ⟨by k_mem, ?_⟩))) (by (repeat (first | exact List.forall_mem_nil _ | refine List.forall_mem_cons.mpr ⟨?_, ?_⟩ | (refine neN ?_; (try dsimp only); (first | lia | omega))))) (by exact rfl) (⟨rfl, _, _, _, _, _, rfl, rfl, j1, j2, i1, i2, j3, i3⟩))
  · (try dsimp only)
    (try k_unfold)
    (try dsimp only)
    exact hret _ _ _ (fin0 (by k_asm) (by k_asm) (by (repeat (first | exact List.forall_mem_nil _ | refine List.forall_mem_cons.mpr ⟨by k_mem, ?_⟩))) (by (repeat (first | exact List.forall_mem_nil _ | refine List.forall_mem_cons.mpr ⟨by k_mem, ?_⟩))) (by (repeat (first | exact List.forall_mem_nil _ | refine List.forall_mem_cons.mpr ⟨?_, ?_⟩ | (refine neN ?_; (try dsimp only); (first | lia | omega))))) (by exact rfl) (⟨rfl, _, _, _, _, _, rfl, rfl, j1, j2, i1, i2, j3, i3⟩))
end PRow
section PMerge
theorem off_Merge : True := by
  w_top off
  exact trivial
abbrev bufD (h1 h2 h3 h4 : Int) (k1 k2 k3 k4 t3 t4 : Tok) (row : Addr) : Obj := dictOf [⟨h1, .str (Str.ofString "row") k1, .ref row⟩, ⟨h2, .str (Str.ofString "is_backward") k2, .bool false⟩, ⟨h3, .str (Str.ofString "last_lig") k3, .int 0 t3⟩, ⟨h4, .str (Str.ofString "last_split") k4, .int 0 t4⟩] 4
def BufAt (g : Heap) (bf row : Addr) : Prop := ∃ db h1 h2 h3 h4 k1 k2 k3 k4 t3 t4, g.get? bf = some (instObj 105 db) ∧ g.get? db = some (bufD h1 h2 h3 h4 k1 k2 k3 k4 t3 t4 row)
/-- the row, but for the Info at place a, whose dict stands in the ledger -/
def RowX (g : Heap) (row : Addr) (is : List (Int × Int)) (a : Nat) (xa da : Addr) : Prop :=
  ∃ vs, g.IsList row (List.toArray vs) ∧ vs.length = is.length ∧ (∀ (i : Nat) (p : Int × Int), i ≠ a → is[i]? = some p → ∃ x : Addr, vs[i]? = some (Value.ref x) ∧ InfoAt g x p.1 p.2) ∧ vs[a]? = some (Value.ref xa) ∧ g.get? xa = some (instObj 52 da)
theorem slice_run {vs : List Value} {st e : Int} (s0 : 0 ≤ st) (hse : st ≤ e) (he : e ≤ vs.length) : slicePick (List.toArray vs) (some st) (some e) none = List.toArray ((vs.drop st.toNat).take (e - st).toNat) := by
  have h1 : st = ((st.toNat : Nat) : Int) := by (first | lia | omega)
  have h2 : e = ((e.toNat : Nat) : Int) := by (first | lia | omega)
  have h := slicePick_run (List.toArray vs) st.toNat e.toNat (by rw [List.size_toArray]; (first | lia | omega)) (by (first | lia | omega))
  rw [← h1, ← h2] at h
  rw [h, show (e - st).toNat = e.toNat - st.toNat by (first | lia | omega)]
theorem slice_runL {vs : List Value} {st e : Int} (s0 : 0 ≤ st) (hse : st ≤ e) (he : e ≤ vs.length) : (slicePick (List.toArray vs) (some st) (some e) none).toList = (vs.drop st.toNat).take (e - st).toNat := by rw [slice_run s0 hse he]
theorem slice_pair {vs : List Value} {st e : Int} {x y : Value} (s0 : 0 ≤ st) (he : e = st + 2) (hx : vs[st.toNat]? = some x) (hy : vs[(st + 1).toNat]? = some y) : slicePick (List.toArray vs) (some st) (some e) none = #[x, y] := by
  have hl : (st + 1).toNat < vs.length := by
    rcases Nat.lt_or_ge (st + 1).toNat vs.length with h | h
    · exact h
    · rw [List.getElem?_eq_none h] at hy; cases hy
  rw [slice_run s0 (by (first | lia | omega)) (by (first | lia | omega)), show (e - st).toNat = 2 by (first | lia | omega)]
  have e1 : (st + 1).toNat = st.toNat + 1 := by (first | lia | omega)
  rw [e1] at hy hl
  have h1 : vs.drop st.toNat = x :: y :: vs.drop (st.toNat + 2) := by
    rw [List.drop_eq_getElem_cons (by (first | lia | omega)), List.drop_eq_getElem_cons (by (first | lia | omega))]
    rw [List.getElem?_eq_getElem (by (first | lia | omega))] at hx hy
    rw [Option.some.inj hx, Option.some.inj hy]
  rw [h1]
  rfl
local macro_rules | `(tactic| walk_at "eval ListComp") => refL "" "LCg.ListComp_U" "F₀ rfl dec rfl dec rfl ?" ""
local macro_rules | `(tactic| walk_at "subscriptTail Name Slice ref ref") => `(tactic| walk_at "slice")
theorem rowX_row {g H : Heap} {row xa da : Addr} {is : List (Int × Int)} {a : Nat} {qa : IR} (h : RowX g row is a xa da) (b : ∀ b o, g.get? b = some o → H.get? b = some o) (hd : H.get? da = some (infoD qa)) (hp : is[a]? = some (qa.code, qa.cluster)) : RowAt H row is := by
  obtain ⟨vs, hl, hn, ho, ha, hx⟩ := h
  refine ⟨vs, base_list hl b, hn, fun i p hip => ?_⟩
  by_cases e : i = a
  · rw [e] at hip ⊢
    rw [hp] at hip
    cases hip
    exact ⟨xa, ha, da, qa, b _ _ hx, hd, rfl, rfl⟩
  · obtain ⟨x, h1, h2⟩ := ho i p e hip
    exact ⟨x, h1, h2.keeps b⟩
set_option hygiene false in
local macro_rules | `(tactic| walk_at "P129") => `(tactic| (case P => intro H9 b9 b8; exact rowX_row (by assumption) b9 (b8 (_, _) (by k_mem)) (by assumption)))
local macro_rules | `(tactic| walk_at "call ref") => callL "O" 129 "widened_c a0 a1 a2 a3" "aX uF uX P129" "_ x9 f9 g9 tf9 tg9 e9 w8 p1 p2 p3 p4 p5 p6" "dS zO"
local macro_rules | `(tactic| walk_at "exec For Name Subscript cons nil") => `(tactic| walk_at "forS")
local macro_rules | `(tactic| walk_at "call ref") => callL "1" 122 "set_cluster_c" "uF P0 uU uX" "w8 e9 z9 l9 i9" "sW sE dI zO"
local macro_rules | `(tactic| walk_at "call ref") => callL "P" 122 "set_cluster_same_c" "uF uX P0" "" "sR zP"
theorem run_get {vs : List Value} {f n i : Nat} {v : Value} (h : (List.toArray ((vs.drop f).take n))[i]? = some v) : vs[f + i]? = some v ∧ i < n := by
  rw [List.getElem?_toArray, List.getElem?_take] at h
  split at h
  · rename_i hi
    rw [List.getElem?_drop] at h
    exact ⟨h, hi⟩
  · cases h
theorem run_size {vs : List Value} {f n : Nat} (h : f + n ≤ vs.length) : (List.toArray ((vs.drop f).take n)).size = n := by
  rw [List.size_toArray, List.length_take, List.length_drop]; (first | lia | omega)
theorem clOf_at {is : List (Int × Int)} {i : Nat} {p : Int × Int} (h : is[i]? = some p) : clOf is (i : Int) = p.2 := by
  unfold clOf
  rw [List.getD_eq_getElem?_getD, Int.toNat_natCast, h]
  rfl
theorem min_is {M a b : Int} (h : M = a ∨ M = b) (h2 : M ≤ a ∧ M ≤ b) (hab : a ≤ b) : M = a := by (first | lia | omega)
theorem merge_c {w : World} {mean : ExcName → Option Value} {mg mb : Str → Option Value} {bf row xa da : Addr} {st e : Int} {ts te : Tok} {is : List (Int × Int)} {qa : IR} (s0 : 0 ≤ st) (hse : e = st + 2) (hen : e ≤ is.length) (hn : is.length ≤ 1000)
    (hle : clOf is st ≤ clOf is (st + 1)) (hpre : ∀ j, st + 1 < j → j < is.length → clOf is j = clOf is (st + 1) → clOf is (st + 1) = clOf is st) (hqa : qa.cluster = clOf is (st + 1)) (hq2 : qa.code = cdOf is (st + 1)) :
    Ctr w mean mg mb 10 100 (.ref 134) [.ref bf, .int st ts, .int e te] [(da, infoD qa)] (fun g => BufAt g bf row ∧ RowX g row is (st + 1).toNat xa da)
      (fun r led' own => own = [] ∧ r = .none ∧ ∃ o, led' = [(da, o)] ∧ IsInfo o qa.code (clOf is st)) := by
  (k_dflt refine' Ctr.enter ?k6 ?k7 ?k9 ?kB ?c2 ?c3 ?c4 ?c5 ?_)
  case k6 => k_dflt k_is
  case k7 => k_dflt k_is
  case k9 => k_dflt (intro s9 X9; first | exact BindsTo.of_eq rfl | exact binds_K X9 rfl (by k_is) rfl rfl rfl)
  case c5 => decide
  case kB => k_dflt exact locs rfl
  case c2 => exact rfl
  case c3 => exact rfl
  case c4 => exact rfl
  rintro dp un fr gd g L h₁ tk₁ s Q hdp hun F N X T hP9 hret
  (try dsimp only)
  show wpAny _ _ _ _ _ _
  k_fold
  obtain ⟨⟨db, b1, b2, b3, b4, k1, k2, k3, k4, t3, t4, hb1, hb2⟩, hRX⟩ := hP9
  obtain ⟨vs, hl, hvl, hoth, hva, hxa⟩ := id hRX
  have hisa : is[(st + 1).toNat]? = some (qa.code, qa.cluster) := by
    rw [hqa, hq2]; unfold cdOf clOf
    rw [List.getElem?_eq_getElem (by (first | lia | omega))]
    simp [List.getD, show (st + 1).toNat < is.length by (first | lia | omega)]
  obtain ⟨xs, hxs, ds, qs, hs1, hs2, hs3, hs4⟩ := hoth st.toNat (is[st.toNat]'(by (first | lia | omega))) (by (first | lia | omega)) (by simp)
  have hsl : (slicePick (List.toArray vs) (some st) (some e) none).toList = [.ref xs, .ref xa] := by rw [slice_pair s0 hse hxs hva]
  (try dsimp only)
  show wpAny _ _ _ _ _ _
  (try k_fold)
  k_steps
  all_goals (try k_data)
  rename _ ∨ _ => hor
  rename _ ≤ _ ∧ _ ≤ _ => hmin
  have hqs : qs.cluster = clOf is st := by rw [hs4]; unfold clOf; simp [List.getD, show st.toNat < is.length by (first | lia | omega)]
  have hM := min_is hor hmin (by rw [hqs, hqa]; exact hle)
  subst hM
  show wpAny _ _ _ _ _ _
  refine for_list_S (σ := IR) (x₀ := qa) (n := 0) (its := List.toArray ((vs.drop f9.toNat).take (g9 - f9).toNat)) (fun _ m => m) (fun x => [(da, infoD x)]) (fun i x => x.code = qa.code ∧ (x.cluster = clOf is (st + 1) ∨ x.cluster = clOf is st) ∧ (st + 1 < f9 + i → x.cluster = clOf is st)) rfl (by k_asm) (by k_asm) (by k_mem) (by intro p hp; rw [List.mem_singleton.mp hp]; k_mem) rfl ⟨rfl, .inl hqa, fun h => by (first | lia | omega)⟩ ?_ ?_
  · rintro i v x h tk it oi hv hI9 F N hlit hne
    show wpAny _ _ _ _ _ _
    (try k_fold)
    obtain ⟨i1, i2, i3⟩ := hI9
    obtain ⟨hvr, hin⟩ := run_get hv
    have hne1 : da ≠ it := hne _ (.head _)
    by_cases hr : f9.toNat + i = (st + 1).toNat
    · rw [hr, hva] at hvr
      injection hvr with hvr
      subst hvr
      (try dsimp only)
      show wpAny _ _ _ _ _ _
      (try k_fold)
      k_steps
      obtain ⟨q', rfl, hq3, hq4⟩ := i9
      exact FEnd.next q' (by k_asm) (by k_asm) (by (repeat (first | exact List.forall_mem_nil _ | refine List.forall_mem_cons.mpr ⟨by k_mem, ?_⟩))) (by (repeat (first | exact List.forall_mem_nil _ | refine List.forall_mem_cons.mpr ⟨by k_mem, ?_⟩))) (by intro p hp; rw [List.mem_singleton.mp hp]; exact hne1) (by intro y hy; exact if_neg hy) ⟨hq3.trans i1, .inr (hq4.trans hqs), fun _ => hq4.trans hqs⟩
    · have hrl : f9.toNat + i < is.length := by (first | lia | omega)
      obtain ⟨xr, hxr, hIr⟩ := hoth (f9.toNat + i) _ hr (List.getElem?_eq_getElem hrl)
      rw [hvr] at hxr
      injection hxr with hxr
      subst hxr
      have hcl := clOf_at (List.getElem?_eq_getElem hrl)
      have hIr2 : InfoAt g xr (is[f9.toNat + i]).1 qs.cluster := by
        have : (is[f9.toNat + i]).2 = qs.cluster := by
          rw [← hcl, hqs]
          rcases Int.lt_or_le st ((f9.toNat + i : Nat) : Int) with hlt | hge
          · have h6 := p6 ((f9.toNat + i : Nat) : Int) (by (first | lia | omega)) (by (first | lia | omega))
            rw [show e - 1 = st + 1 by (first | lia | omega)] at h6
            rw [h6]
            exact hpre _ (by (first | lia | omega)) (by (first | lia | omega)) h6
          · exact p5 _ (by (first | lia | omega)) hge
        rw [this] at hIr
        exact hIr
      (try dsimp only)
      show wpAny _ _ _ _ _ _
      (try k_fold)
      k_steps
      exact FEnd.next x (by k_asm) (by k_asm) (by (repeat (first | exact List.forall_mem_nil _ | refine List.forall_mem_cons.mpr ⟨by k_mem, ?_⟩))) (by (repeat (first | exact List.forall_mem_nil _ | refine List.forall_mem_cons.mpr ⟨by k_mem, ?_⟩))) (by intro p hp; rw [List.mem_singleton.mp hp]; exact hne1) (by intro y hy; exact if_neg hy) ⟨i1, i2, fun h => i3 (by (first | lia | omega))⟩
  · intro x u h tk ⟨i1, i2, i3⟩ F N
    rw [run_size (by (first | lia | omega))] at i3
    (try dsimp only)
    k_steps
    (try dsimp only)
    (try k_unfold)
    (try dsimp only)
    exact hret _ _ _ (fin0 (by k_asm) (by k_asm) (by (repeat (first | exact List.forall_mem_nil _ | refine List.forall_mem_cons.mpr ⟨by k_mem, ?_⟩))) (by (repeat (first | exact List.forall_mem_nil _ | refine List.forall_mem_cons.mpr ⟨by k_mem, ?_⟩))) (by (repeat (first | exact List.forall_mem_nil _ | refine List.forall_mem_cons.mpr ⟨?_, ?_⟩ | (refine neN ?_; (try dsimp only); (first | lia | omega))))) (by exact rfl) (⟨rfl, rfl, _, rfl, x, rfl, i1, i3 (by (first | lia | omega))⟩))
end PMerge
section PWhole
theorem off_Whole : True := by
  w_top off
  exact trivial
def EmptyD (w : World) (g : Heap) (d : Addr) : Prop := (d == sysModules) = false ∧ ∃ o : Obj, g.get? d = some o ∧ o.IsDictOf (intKind PR w) []
theorem EmptyD.keeps {w : World} {g H : Heap} {d : Addr} (h : EmptyD w g d) (b : ∀ b o, g.get? b = some o → H.get? b = some o) : EmptyD w H d := let ⟨lo, o, h1, h2⟩ := h; ⟨lo, o, b _ _ h1, h2⟩
theorem EmptyD.tab {w : World} {g : Heap} {d : Addr} (h : EmptyD w g d) : TabAt (intKind PR w) PyData.int g d [] := let ⟨lo, _, h1, h2⟩ := h; TabAt.ofObj lo h1 h2 .nil
theorem EmptyD.tabH {w : World} {g : Heap} {d : Addr} (h : EmptyD w g d) : TabAtH (tupleKind (intKind PR w)) (encTuple PyData.int) g d [] := by
  obtain ⟨lo, o, h1, es, ep, hc, hdat, _, hp, _⟩ := h
  have he : es.toList = [] := List.length_eq_zero_iff.mp hp.length
  exact ⟨lo, [], ⟨o, es, ep, h1, hc, hdat, he, List.forall_mem_nil _, List.nodup_nil⟩, .nil⟩
theorem get2_empty {w : World} {A : Around} {E : Value → Shared → Prop} {s : Shared} {g : Heap} {L d a : Addr} {m : Str → Option Value} {news : Led} {x y : Int} {tx ty t0 : Tok} {Q : Value → Shared → Prop}
    (hu : A.units + 1 < cLine) (F : Fr g L s.heap m) (N : News g L s.heap news) (hE : EmptyD w g d) (hka : (a, tup2 x tx y ty) ∈ news) (h : ∀ t tk, Q (.int 0 t) { s with toks := tk }) :
    wpAny (model PR w) A (call (.builtin "dict.get") [.ref d, .ref a, .int 0 t0]) Q E s := by
  have tk : TupKeyObj (intKind PR w) [x, y] (tup2 x tx y ty) := TupKeyObj.made (vs := [.int x tx, .int y ty]) (.cons (intKind_is _ _ _ _) (.cons (intKind_is _ _ _ _) .nil))
  refine call_get2_tabH (knd := tupleKind (intKind PR w)) (same_encTuple PyProof.V.same_int) (tupleKind_room_in1 hu) (tk.key (N.get hka)) (hE.keeps F.keep).tabH (PyProof.V.Flat.int 0 t0) ?_
  intro v hv
  obtain ⟨t, rfl⟩ := flat_int hv
  exact h t _
local macro_rules | `(tactic| walk_at "call ref") => callL "P" 183 "hwhole_c a0 a1 a2 a3" "aX uF uX P0" "" "dP zP"
local macro_rules | `(tactic| walk_at "call builtin:dict.get") => refL "" "get2_empty" "c_room kasm kasm asm mem ?" ""
theorem whole_of_c {w : World} {mean : ExcName → Option Value} {mg mb : Str → Option Value} {d : Addr} {a b : Int} {ta tb : Tok} (a0 : 0 ≤ a) (a1 : a < 100000) (b0 : 0 ≤ b) (b1 : b < 100000) :
    Ctr w mean mg mb 10 100 (.ref 197) [.ref d, .int a ta, .int b tb] [] (fun g => EmptyD w g d)
      (fun r led' own => led' = [] ∧ own = [] ∧ ∃ t, r = .int (hwhole a b) t) := by
  (k_dflt refine' Ctr.enter ?k6 ?k7 ?k9 ?kB ?c2 ?c3 ?c4 ?c5 ?_)
  case k6 => k_dflt k_is
  case k7 => k_dflt k_is
  case k9 => k_dflt (intro s9 X9; first | exact BindsTo.of_eq rfl | exact binds_K X9 rfl (by k_is) rfl rfl rfl)
  case c5 => decide
  case kB => k_dflt exact locs rfl
  case c2 => exact rfl
  case c3 => exact rfl
  case c4 => exact rfl
  rintro dp un fr gd g L h₁ tk₁ s Q hdp hun F N X T hE hret
  have hT1 := hE.tab
  (try dsimp only)
  show wpAny _ _ _ _ _ _
  (try k_fold)
  k_steps
  all_goals (try k_data)
  all_goals (
    (try dsimp only)
    (try k_unfold)
    (try dsimp only)
    exact hret _ _ _ (fin0 (by k_asm) (by k_asm) (by (repeat (first | exact List.forall_mem_nil _ | refine List.forall_mem_cons.mpr ⟨by k_mem, ?_⟩))) (by (repeat (first | exact List.forall_mem_nil _ | refine List.forall_mem_cons.mpr ⟨by k_mem, ?_⟩))) (by (repeat (first | exact List.forall_mem_nil _ | refine List.forall_mem_cons.mpr ⟨?_, ?_⟩ | (refine neN ?_; (try dsimp only); (first | lia | omega))))) (by exact rfl) (⟨rfl, rfl, _, rfl⟩)))
end PWhole
section PHere
theorem off_Here : True := by
  w_top off
  exact trivial
local macro_rules | `(tactic| walk_at "subscriptTail") => `(tactic| walk_at "itemR")
local macro_rules | `(tactic| walk_at "call ref") => callL "P" 197 "whole_of_c a0 a1 a2 a3" "aX uF uX P0" "" "dP zP"
local macro_rules | `(tactic| walk_at "call ref") => callL "P" 302 "glyph_c" "uF uX P0" "" "dP zP"
def wHere (ks : List Int) (a b : Int) : Int := if 0 < hwhole a b ∧ (ks.any fun x => x == hwhole a b) = true then hwhole a b else 0
theorem wHere_pos {ks : List Int} {a b a' b' : Int} (h1 : 0 < hwhole a' b') (h2 : 0 < if (ks.any fun x => x == hwhole a' b') = true then (1 : Int) else 0) (ha : a' = a) (hb : b' = b) : wHere ks a b = hwhole a' b' := by
  subst ha hb
  unfold wHere
  split at h2
  · rw [if_pos ⟨h1, by assumption⟩]
  · exact absurd h2 (by decide)
theorem wHere_neg {ks : List Int} {a b a' b' : Int} (h2 : ¬ 0 < if (ks.any fun x => x == hwhole a' b') = true then (1 : Int) else 0) (ha : a' = a) (hb : b' = b) : wHere ks a b = 0 := by
  subst ha hb
  unfold wHere
  split at h2
  · exact absurd (by decide) h2
  · rename_i h
    rw [if_neg (fun z => h z.2)]
theorem wHere_neg2 {ks : List Int} {a b a' b' : Int} (h2 : ¬ 0 < hwhole a' b') (ha : a' = a) (hb : b' = b) : wHere ks a b = 0 := by
  subst ha hb
  unfold wHere
  rw [if_neg (fun z => h2 z.1)]
theorem whole_here_c {w : World} {mean : ExcName → Option Value} {mg mb : Str → Option Value} {bf row d cm : Addr} {st at_ : Int} {t1 t2 : Tok} {is : List (Int × Int)} {ks : List Int} (s0 : 0 ≤ st) (s1 : st < is.length) (a0 : 0 ≤ at_) (a1 : at_ < is.length) (hn : is.length ≤ 1000)
    (c0 : 0 ≤ cdOf is st) (c1 : cdOf is st < 100000) (d0 : 0 ≤ cdOf is at_) (d1 : cdOf is at_ < 100000) :
    Ctr w mean mg mb 20 200 (.ref 268) [.ref bf, .ref d, .ref cm, .int st t1, .int at_ t2] [] (fun g => BufAt g bf row ∧ RowAt g row is ∧ EmptyD w g d ∧ CharAt w g cm ks)
      (fun r led' own => led' = [] ∧ own = [] ∧ ∃ t, r = .int (wHere ks (cdOf is st) (cdOf is at_)) t) := by
  (k_dflt refine' Ctr.enter ?k6 ?k7 ?k9 ?kB ?c2 ?c3 ?c4 ?c5 ?_)
  case k6 => k_dflt k_is
  case k7 => k_dflt k_is
  case k9 => k_dflt (intro s9 X9; first | exact BindsTo.of_eq rfl | exact binds_K X9 rfl (by k_is) rfl rfl rfl)
  case c5 => decide
  case kB => k_dflt exact locs rfl
  case c2 => exact rfl
  case c3 => exact rfl
  case c4 => exact rfl
  rintro dp un fr gd g L h₁ tk₁ s Q hdp hun F N X T hP9 hret
  (try dsimp only)
  show wpAny _ _ _ _ _ _
  k_fold
  obtain ⟨⟨db, b1, b2, b3, b4, k1, k2, k3, k4, t3, t4, hb1, hb2⟩, hRow, hE, hCm⟩ := hP9
  obtain ⟨dcm, hh1, u1, hh2, u2, n', cd, D, hcm, hdc, hT, hD⟩ := id hCm
  (try dsimp only)
  show wpAny _ _ _ _ _ _
  (try k_fold)
  k_steps
  all_goals (try k_data)
  · (try dsimp only)
    (try k_unfold)
    (try dsimp only)
    exact hret _ _ _ (fin0 (by k_asm) (by k_asm) (by (repeat (first | exact List.forall_mem_nil _ | refine List.forall_mem_cons.mpr ⟨by k_mem, ?_⟩))) (by (repeat (first | exact List.forall_mem_nil _ | refine List.forall_mem_cons.mpr ⟨by k_mem, ?_⟩))) (by (repeat (first | exact List.forall_mem_nil _ | refine List.forall_mem_cons.mpr ⟨?_, ?_⟩ | (refine neN ?_; (try dsimp only); (first | lia | omega))))) (by exact rfl) (⟨rfl, rfl, _, int_is (wHere_pos (by assumption) (by assumption) (by assumption) (by assumption))⟩))
  · (try dsimp only)
    (try k_unfold)
    (try dsimp only)
    exact hret _ _ _ (fin0 (by k_asm) (by k_asm) (by (repeat (first | exact List.forall_mem_nil _ | refine List.forall_mem_cons.mpr ⟨by k_mem, ?_⟩))) (by (repeat (first | exact List.forall_mem_nil _ | refine List.forall_mem_cons.mpr ⟨by k_mem, ?_⟩))) (by (repeat (first | exact List.forall_mem_nil _ | refine List.forall_mem_cons.mpr ⟨?_, ?_⟩ | (refine neN ?_; (try dsimp only); (first | lia | omega))))) (by exact rfl) (⟨rfl, rfl, _, int_is (wHere_neg (by assumption) (by assumption) (by assumption))⟩))
  · (try dsimp only)
    (try k_unfold)
    (try dsimp only)
    exact hret _ _ _ (fin0 (by k_asm) (by k_asm) (by (repeat (first | exact List.forall_mem_nil _ | refine List.forall_mem_cons.mpr ⟨by k_mem, ?_⟩))) (by (repeat (first | exact List.forall_mem_nil _ | refine List.forall_mem_cons.mpr ⟨by k_mem, ?_⟩))) (by (repeat (first | exact List.forall_mem_nil _ | refine List.forall_mem_cons.mpr ⟨?_, ?_⟩ | (refine neN ?_; (try dsimp only); (first | lia | omega))))) (by exact rfl) (⟨rfl, rfl, _, int_is (wHere_neg2 (by assumption) (by assumption) (by assumption))⟩))
end PHere
section PWholes
theorem off_Wholes : True := by
  w_top off
  exact trivial
local macro_rules | `(tactic| walk_at "exec For Name Call cons nil") => `(tactic| walk_at "forS")
theorem wholes_c {w : World} {mean : ExcName → Option Value} {mg mb : Str → Option Value} {nm : Addr} :
    Ctr w mean mg mb 10 100 (.ref 162) [.ref nm] [] (fun g => NormAt w g nm)
      (fun r led' own => led' = [] ∧ ∃ d o, r = .ref d ∧ own = [(d, o)] ∧ (d == sysModules) = false ∧ o.IsDictOf (intKind PR w) []) := by
  (k_dflt refine' Ctr.enter ?k6 ?k7 ?k9 ?kB ?c2 ?c3 ?c4 ?c5 ?_)
  case k6 => k_dflt k_is
  case k7 => k_dflt k_is
  case k9 => k_dflt (intro s9 X9; first | exact BindsTo.of_eq rfl | exact binds_K X9 rfl (by k_is) rfl rfl rfl)
  case c5 => decide
  case kB => k_dflt exact locs rfl
  case c2 => exact rfl
  case c3 => exact rfl
  case c4 => exact rfl
  rintro dp un fr gd g L h₁ tk₁ s Q hdp hun F N X T hNm hret
  obtain ⟨dn, hh1, t1, hh2, t2, n, e1, e2, hnm, hdn, hT1, hT2⟩ := id hNm
  (try dsimp only)
  show wpAny _ _ _ _ _ _
  (try k_fold)
  k_steps
  all_goals (try k_data)
  rename IntsAre _ _ => hi
  rename List.length _ = 0 => hz
  have h0 := List.length_eq_zero_iff.mp (hi.length.trans hz)
  subst h0
  rename (_ == sysModules) = false => hlo
  show wpAny _ _ _ _ _ _
  refine for_list_S (σ := Unit) (x₀ := ()) (its := List.toArray []) (fun _ m => m) (fun _ => _) (fun _ _ => True) rfl (by k_asm) (by k_asm) (by k_mem) (fun p hp => List.mem_cons_of_mem _ hp) rfl trivial ?_ ?_
  · intro i v x h tk it oi hv
    exact absurd hv (by simp)
  · intro x u h tk _ F N
    (try dsimp only)
    k_steps
    (try dsimp only)
    (try k_unfold)
    (try dsimp only)
    exact hret _ _ _ (fin0 (by k_asm) (by k_asm) (by (repeat (first | exact List.forall_mem_nil _ | refine List.forall_mem_cons.mpr ⟨by k_mem, ?_⟩))) (by (repeat (first | exact List.forall_mem_nil _ | refine List.forall_mem_cons.mpr ⟨by k_mem, ?_⟩))) (by (repeat (first | exact List.forall_mem_nil _ | refine List.forall_mem_cons.mpr ⟨?_, ?_⟩ | (refine neN ?_; (try dsimp only); (first | lia | omega))))) (by exact rfl) (⟨rfl, _, _, rfl, rfl, hlo, by assumption⟩))
end PWholes
section PInf
structure Inf where
  x : Addr
  dx : Addr
  q : IR
def Inf.ref (i : Inf) : Value := .ref i.x
def Inf.cc (i : Inf) : Int × Int := (i.q.code, i.q.cluster)
def infosL (is : List Inf) : List (Addr × Obj) := is.flatMap fun i => [(i.x, instObj 52 i.dx), (i.dx, infoD i.q)]
theorem infosL_nil : infosL [] = [] := rfl
theorem infosL_cons {i : Inf} {r : List Inf} : infosL (i :: r) = (i.x, instObj 52 i.dx) :: (i.dx, infoD i.q) :: infosL r := rfl
theorem infosL_append {a b : List Inf} : infosL (a ++ b) = infosL a ++ infosL b := by unfold infosL; rw [List.flatMap_append]
theorem infosL_x {is : List Inf} {i : Inf} (h : i ∈ is) : (i.x, instObj 52 i.dx) ∈ infosL is := List.mem_flatMap.mpr ⟨i, h, .head _⟩
theorem infosL_d {is : List Inf} {i : Inf} (h : i ∈ is) : (i.dx, infoD i.q) ∈ infosL is := List.mem_flatMap.mpr ⟨i, h, .tail _ (.head _)⟩
theorem row_led {H : Heap} {row : Addr} {n : Nat} {is : List Inf} (h1 : H.get? row = some (listOf (List.toArray (is.map Inf.ref)) n)) (h2 : ∀ p ∈ infosL is, H.get? p.1 = some p.2) : RowAt H row (is.map Inf.cc) := by
  refine ⟨is.map Inf.ref, ⟨_, h1, rfl, n, rfl⟩, by rw [List.length_map, List.length_map], fun i p hp => ?_⟩
  rw [List.getElem?_map] at hp ⊢
  cases hi : is[i]? with
  | none => rw [hi] at hp; cases hp
  | some j =>
    rw [hi] at hp
    cases hp
    have hm := List.mem_of_getElem? hi
    exact ⟨j.x, rfl, j.dx, j.q, h2 _ (infosL_x hm), h2 _ (infosL_d hm), rfl, rfl⟩
theorem row_ledX {H : Heap} {row : Addr} {n : Nat} {pre post : List Inf} {ia : Inf} (h1 : H.get? row = some (listOf (List.toArray ((pre ++ ia :: post).map Inf.ref)) n)) (h2 : ∀ p ∈ infosL (pre ++ post), H.get? p.1 = some p.2) (h3 : H.get? ia.x = some (instObj 52 ia.dx)) :
    RowX H row ((pre ++ ia :: post).map Inf.cc) pre.length ia.x ia.dx := by
  refine ⟨(pre ++ ia :: post).map Inf.ref, ⟨_, h1, rfl, n, rfl⟩, by rw [List.length_map, List.length_map], fun i p hne hp => ?_, ?_, h3⟩
  · rw [List.getElem?_map] at hp ⊢
    cases hi : (pre ++ ia :: post)[i]? with
    | none => rw [hi] at hp; cases hp
    | some j =>
      rw [hi] at hp
      cases hp
      have hm : j ∈ pre ++ post := by
        rcases Nat.lt_trichotomy i pre.length with h | h | h
        · rw [List.getElem?_append_left h] at hi
          exact List.mem_append_left _ (List.mem_of_getElem? hi)
        · exact absurd h hne
        · rw [List.getElem?_append_right (Nat.le_of_lt h)] at hi
          obtain ⟨k, hk⟩ : ∃ k, i - pre.length = k + 1 := ⟨i - pre.length - 1, by (first | lia | omega)⟩
          rw [hk, List.getElem?_cons_succ] at hi
          exact List.mem_append_right _ (List.mem_of_getElem? hi)
      exact ⟨j.x, rfl, j.dx, j.q, h2 _ (infosL_x hm), h2 _ (infosL_d hm), rfl, rfl⟩
  · rw [List.getElem?_map, List.getElem?_append_right (Nat.le_refl _), Nat.sub_self]
    rfl
theorem item_led {w : World} {A : Around} {E : Value → Shared → Prop} {s : Shared} {g : Heap} {L l : Addr} {vs : List Value} {n : Nat} {news : Led} {k : Int} {u : Tok} {v : Value} {value slice : PySem.Expr} {Q : Value → Shared → Prop}
    (N : News g L s.heap news) (hl : (l, listOf (List.toArray vs) n) ∈ news) (hx : vs[k.toNat]? = some v) (h0 : 0 ≤ k) (hhi : k < 2 ^ 63) (h : Q v s)
    (hs : subscripted slice false (.ref l) (.int k u) = operate [.ref l, .int k u] (getItem (.ref l) (.int k u)) := by with_unfolding_all rfl) :
    wpAny (model PR w) A (subscriptTail value slice (.ref l) (.int k u)) Q E s :=
  have hL : s.heap.IsList l (List.toArray vs) := ⟨_, (N _ hl).1, rfl, n, rfl⟩
  tail_any hL.typeIs slot_list_getitem.lookup (wpAny_getItem_list hL h0 hhi (by simpa using hx) h) hs
theorem len_led {w : World} {A : Around} {E : Value → Shared → Prop} {s : Shared} {g : Heap} {L l : Addr} {vs : List Value} {n k : Nat} {news : Led} {Q : Value → Shared → Prop}
    (N : News g L s.heap news) (hl : (l, listOf (List.toArray vs) n) ∈ news) (hk : vs.length = k) (hfit : (k : Int) < 2 ^ 63) (h : Q (.int (k : Nat) (s.toks + 1)) { s with toks := s.toks + 1 + 1 }) :
    wpAny (model PR w) A (call (.builtin "len") [.ref l]) Q E s := by
  have hL : s.heap.IsList l (List.toArray vs) := ⟨_, (N _ hl).1, rfl, n, rfl⟩
  have e : (List.toArray vs).size = k := by rw [List.size_toArray, hk]
  exact call_len_list hL (by rw [e]; exact hfit) (by rw [e]; exact h)
end PInf
section PPutMath
def isVT (c : Int) : Prop := (4449 ≤ c ∧ c < 4470) ∨ (4519 < c ∧ c < 4547)
theorem hwhole_vt {a b : Int} (h : 0 < hwhole a b) : isVT b := by
  unfold hwhole at h
  unfold isVT
  split at h
  · exact .inl ⟨by (first | lia | omega), by (first | lia | omega)⟩
  · split at h
    · exact .inr ⟨by (first | lia | omega), by (first | lia | omega)⟩
    · exact absurd h (by decide)
theorem hwhole_lt {a b : Int} : hwhole a b < 100000 := by
  unfold hwhole
  split
  · (first | lia | omega)
  · split
    · (first | lia | omega)
    · decide
theorem wHere_le {ks : List Int} {a b : Int} (h : 0 < wHere ks a b) : 0 < hwhole a b ∧ wHere ks a b = hwhole a b := by
  unfold wHere at h ⊢
  split at h
  · rename_i h1; exact ⟨h1.1, if_pos h1⟩
  · exact absurd h (by decide)
structure PutOk (P : List (Int × Int)) (a : Nat) : Prop where
  codes : ∀ p ∈ P, 0 ≤ p.1 ∧ p.1 < 100000
  mono : P.Pairwise fun p q => p.2 ≤ q.2
  sib : ∀ (i j : Nat) (p q : Int × Int), a ≤ i → i < j → P[i]? = some p → P[j]? = some q → p.2 = q.2 → isVT p.1 → ∃ (i' : Nat) (o : Int × Int), i = i' + 1 ∧ P[i']? = some o ∧ o.2 = p.2
theorem PutOk.keep {P : List (Int × Int)} {a : Nat} (h : PutOk P a) : PutOk P (a + 1) := ⟨h.codes, h.mono, fun i j p q hi => h.sib i j p q (by (first | lia | omega))⟩
theorem getE_pre {α : Type} {pre post : List α} {x : α} : (pre ++ x :: post)[pre.length]? = some x := by
  rw [List.getElem?_append_right (Nat.le_refl _), Nat.sub_self]; rfl
theorem getE_pre1 {α : Type} {pre post : List α} {x y : α} : (pre ++ x :: y :: post)[pre.length + 1]? = some y := by
  rw [List.getElem?_append_right (by (first | lia | omega)), show pre.length + 1 - pre.length = 1 by (first | lia | omega)]; rfl
theorem PutOk.le {pre post : List (Int × Int)} {p1 p2 : Int × Int} {a : Nat} (h : PutOk (pre ++ p1 :: p2 :: post) a) : p1.2 ≤ p2.2 := by
  have := List.pairwise_append.mp h.mono
  exact (List.pairwise_cons.mp this.2.1).1 p2 (.head _)
theorem PutOk.pre {pre post : List (Int × Int)} {p1 p2 q : Int × Int} {j : Nat} (h : PutOk (pre ++ p1 :: p2 :: post) (pre.length + 1)) (hj : pre.length + 1 < j) (hq : (pre ++ p1 :: p2 :: post)[j]? = some q) (he : q.2 = p2.2) (hv : isVT p2.1) : p2.2 = p1.2 := by
  obtain ⟨i', o, e, ho, h2⟩ := h.sib (pre.length + 1) j p2 q (Nat.le_refl _) hj getE_pre1 hq he.symm hv
  have : i' = pre.length := by (first | lia | omega)
  subst this
  rw [getE_pre] at ho
  cases ho
  exact h2.symm
theorem PutOk.join {ks : List Int} {pre post : List (Int × Int)} {p1 p2 : Int × Int} (h : PutOk (pre ++ p1 :: p2 :: post) (pre.length + 1)) (hw : 0 < wHere ks p1.1 p2.1) : PutOk (pre ++ (wHere ks p1.1 p2.1, p1.2) :: post) (pre.length + 1) := by
  have hw2 := wHere_le hw
  have hvt := hwhole_vt hw2.1
  refine ⟨fun p hp => ?_, ?_, ?_⟩
  · rcases List.mem_append.mp hp with hp | hp
    · exact h.codes p (List.mem_append_left _ hp)
    · rcases List.mem_cons.mp hp with rfl | hp
      · exact ⟨by show 0 ≤ wHere ks p1.1 p2.1; (first | lia | omega), by show wHere ks p1.1 p2.1 < 100000; rw [hw2.2]; exact hwhole_lt⟩
      · exact h.codes p (List.mem_append_right _ (.tail _ (.tail _ hp)))
  · have m := List.pairwise_append.mp h.mono
    have m1 := List.pairwise_cons.mp m.2.1
    have m2 := List.pairwise_cons.mp m1.2
    refine List.pairwise_append.mpr ⟨m.1, List.pairwise_cons.mpr ⟨fun q hq => m1.1 q (.tail _ hq), m2.2⟩, fun q hq r hr => ?_⟩
    rcases List.mem_cons.mp hr with rfl | hr
    · exact m.2.2 q hq p1 (.head _)
    · exact m.2.2 q hq r (.tail _ (.tail _ hr))
  · intro i j p q hi hij hp hq he hv
    have up : ∀ k r, pre.length + 1 ≤ k → (pre ++ (wHere ks p1.1 p2.1, p1.2) :: post)[k]? = some r → (pre ++ p1 :: p2 :: post)[k + 1]? = some r := by
      intro k r hk hr
      obtain ⟨d, rfl⟩ : ∃ d, k = pre.length + (d + 1) := ⟨k - pre.length - 1, by (first | lia | omega)⟩
      rw [List.getElem?_append_right (by (first | lia | omega))] at hr ⊢
      rw [show pre.length + (d + 1) - pre.length = d + 1 by (first | lia | omega), List.getElem?_cons_succ] at hr
      rw [show pre.length + (d + 1) + 1 - pre.length = d + 1 + 1 by (first | lia | omega), List.getElem?_cons_succ, List.getElem?_cons_succ]
      exact hr
    obtain ⟨i', o, e, ho, h2⟩ := h.sib (i + 1) (j + 1) p q (by (first | lia | omega)) (by (first | lia | omega)) (up i p hi hp) (up j q (by (first | lia | omega)) hq) he hv
    have : i' = i := by (first | lia | omega)
    subst this
    rcases Nat.lt_or_ge (pre.length + 1) i' with hlt | hge
    · obtain ⟨d, hd⟩ : ∃ d, i' = d + 1 := ⟨i' - 1, by (first | lia | omega)⟩
      subst hd
      refine ⟨d, o, rfl, ?_, h2⟩
      obtain ⟨c, rfl⟩ : ∃ c, d = pre.length + (c + 1) := ⟨d - pre.length - 1, by (first | lia | omega)⟩
      rw [List.getElem?_append_right (by (first | lia | omega))] at ho ⊢
      rw [show pre.length + (c + 1) - pre.length = c + 1 by (first | lia | omega), List.getElem?_cons_succ]
      rw [show pre.length + (c + 1) + 1 - pre.length = c + 1 + 1 by (first | lia | omega), List.getElem?_cons_succ, List.getElem?_cons_succ] at ho
      exact ho
    · have : i' = pre.length + 1 := by (first | lia | omega)
      subst this
      rw [getE_pre1] at ho
      cases ho
      refine ⟨pre.length, _, rfl, getE_pre, ?_⟩
      have h3 := h.pre (j := pre.length + 1 + 1) (by (first | lia | omega)) (up _ p hi hp) h2.symm hvt
      show p1.2 = p.2
      (first | lia | omega)
def pstep (ks : List Int) (done : List (Int × Int)) (p : Int × Int) : List (Int × Int) :=
  match done.getLast? with
  | none => [p]
  | some l => if 0 < wHere ks l.1 p.1 then done.dropLast ++ [(wHere ks l.1 p.1, l.2)] else done ++ [p]
def putAll (ks : List Int) (P : List (Int × Int)) : List (Int × Int) := P.foldl (pstep ks) []
def PutTo (ks : List Int) (P : List (Int × Int)) (a : Nat) (R : List (Int × Int)) : Prop := (P.drop a).foldl (pstep ks) (P.take a) = R
theorem putTo_start {ks : List Int} {P : List (Int × Int)} : PutTo ks P 0 (putAll ks P) := rfl
theorem putTo_end {ks : List Int} {P R : List (Int × Int)} (h : PutTo ks P P.length R) : P = R := by
  unfold PutTo at h
  rw [List.drop_length, List.take_length] at h
  exact h
theorem putTo_first {ks : List Int} {p : Int × Int} {post R : List (Int × Int)} (h : PutTo ks (p :: post) 0 R) : PutTo ks (p :: post) 1 R := h
theorem putTo_keep {ks : List Int} {pre post R : List (Int × Int)} {p1 p2 : Int × Int} (h : PutTo ks (pre ++ p1 :: p2 :: post) (pre.length + 1) R) (hw : ¬ 0 < wHere ks p1.1 p2.1) : PutTo ks (pre ++ p1 :: p2 :: post) (pre.length + 1 + 1) R := by
  unfold PutTo at h ⊢
  have e1 : (pre ++ p1 :: p2 :: post).drop (pre.length + 1) = p2 :: post := by rw [List.drop_append, List.drop_of_length_le (by (first | lia | omega)), show pre.length + 1 - pre.length = 1 by (first | lia | omega)]; rfl
  have e2 : (pre ++ p1 :: p2 :: post).take (pre.length + 1) = pre ++ [p1] := by rw [List.take_append, List.take_of_length_le (by (first | lia | omega)), show pre.length + 1 - pre.length = 1 by (first | lia | omega)]; rfl
  have e3 : (pre ++ p1 :: p2 :: post).drop (pre.length + 1 + 1) = post := by rw [List.drop_append, List.drop_of_length_le (by (first | lia | omega)), show pre.length + 1 + 1 - pre.length = 2 by (first | lia | omega)]; rfl
  have e4 : (pre ++ p1 :: p2 :: post).take (pre.length + 1 + 1) = pre ++ [p1] ++ [p2] := by rw [List.take_append, List.take_of_length_le (by (first | lia | omega)), show pre.length + 1 + 1 - pre.length = 2 by (first | lia | omega), List.append_assoc]; rfl
  rw [e1, e2, List.foldl_cons] at h
  rw [e3, e4]
  have : pstep ks (pre ++ [p1]) p2 = pre ++ [p1] ++ [p2] := by
    unfold pstep
    rw [List.getLast?_concat]
    exact if_neg hw
  rw [this] at h
  exact h
theorem putTo_join {ks : List Int} {pre post R : List (Int × Int)} {p1 p2 : Int × Int} (h : PutTo ks (pre ++ p1 :: p2 :: post) (pre.length + 1) R) (hw : 0 < wHere ks p1.1 p2.1) : PutTo ks (pre ++ (wHere ks p1.1 p2.1, p1.2) :: post) (pre.length + 1) R := by
  unfold PutTo at h ⊢
  have e1 : (pre ++ p1 :: p2 :: post).drop (pre.length + 1) = p2 :: post := by rw [List.drop_append, List.drop_of_length_le (by (first | lia | omega)), show pre.length + 1 - pre.length = 1 by (first | lia | omega)]; rfl
  have e2 : (pre ++ p1 :: p2 :: post).take (pre.length + 1) = pre ++ [p1] := by rw [List.take_append, List.take_of_length_le (by (first | lia | omega)), show pre.length + 1 - pre.length = 1 by (first | lia | omega)]; rfl
  have e3 : ∀ x : Int × Int, (pre ++ x :: post).drop (pre.length + 1) = post := fun x => by rw [List.drop_append, List.drop_of_length_le (by (first | lia | omega)), show pre.length + 1 - pre.length = 1 by (first | lia | omega)]; rfl
  have e4 : ∀ x : Int × Int, (pre ++ x :: post).take (pre.length + 1) = pre ++ [x] := fun x => by rw [List.take_append, List.take_of_length_le (by (first | lia | omega)), show pre.length + 1 - pre.length = 1 by (first | lia | omega)]; rfl
  rw [e1, e2, List.foldl_cons] at h
  rw [e3, e4]
  have : pstep ks (pre ++ [p1]) p2 = pre ++ [(wHere ks p1.1 p2.1, p1.2)] := by
    unfold pstep
    rw [List.getLast?_concat]
    show (if 0 < wHere ks p1.1 p2.1 then (pre ++ [p1]).dropLast ++ [(wHere ks p1.1 p2.1, p1.2)] else pre ++ [p1] ++ [p2]) = _
    rw [if_pos hw, List.dropLast_concat]
  rw [this] at h
  exact h
end PPutMath
section PPut
theorem off_Put : True := by
  w_top off
  exact trivial
theorem info_mem {g h : Heap} {L dx : Addr} {news : Led} {c k : Int} {h0 h1 h2 h3 h4 h5 h6 h7 h8 h9 h10 h11 h12 h13 h14 h15 : Int} {k0 v0 k1 v1 k2 v2 k3 v3 k4 k5 v5 k6 v6 k7 v7 k8 v8 k9 v9 k10 v10 k11 v11 k12 v12 k13 v13 k14 v14 k15 v15 : Tok} (_N : News g L h news) (hm : (dx, dictOf [
    ⟨h0, .str (Str.ofString "code") k0, .int c v0⟩,
    ⟨h1, .str (Str.ofString "glyph") k1, .int 0 v1⟩,
    ⟨h2, .str (Str.ofString "cluster") k2, .int k v2⟩,
    ⟨h3, .str (Str.ofString "mask") k3, .int 0 v3⟩,
    ⟨h4, .str (Str.ofString "is_unsafe") k4, .bool false⟩,
    ⟨h5, .str (Str.ofString "lig_id") k5, .int 0 v5⟩,
    ⟨h6, .str (Str.ofString "lig_part") k6, .int 0 v6⟩,
    ⟨h7, .str (Str.ofString "lig_count") k7, .int 0 v7⟩,
    ⟨h8, .str (Str.ofString "split_id") k8, .int 0 v8⟩,
    ⟨h9, .str (Str.ofString "kind") k9, .str (Str.ofString "") v9⟩,
    ⟨h10, .str (Str.ofString "x_advance") k10, .int 0 v10⟩,
    ⟨h11, .str (Str.ofString "y_advance") k11, .int 0 v11⟩,
    ⟨h12, .str (Str.ofString "x_offset") k12, .int 0 v12⟩,
    ⟨h13, .str (Str.ofString "y_offset") k13, .int 0 v13⟩,
    ⟨h14, .str (Str.ofString "parent") k14, .int 0 v14⟩,
    ⟨h15, .str (Str.ofString "bond") k15, .str (Str.ofString "") v15⟩] 16) ∈ news) : ∃ q : IR, (dx, infoD q) ∈ news ∧ q.code = c ∧ q.cluster = k := ⟨⟨c, k, h0, k0, v0, h1, k1, v1, h2, k2, v2, h3, k3, v3, h4, k4, h5, k5, v5, h6, k6, v6, h7, k7, v7, h8, k8, v8, h9, k9, v9, h10, k10, v10, h11, k11, v11, h12, k12, v12, h13, k13, v13, h14, k14, v14, h15, k15, v15⟩, hm, rfl, rfl⟩

def updP (va vl vs : Value) (vh vw : Option Value) (m : Str → Option Value) : Str → Option Value := fun y =>
  if y = Str.ofString "at" then some va else if y = Str.ofString "last" then some vl else if y = Str.ofString "start" then some vs else if y = Str.ofString "here" then vh else if y = Str.ofString "whole" then vw else m y
theorem updP_of {m m₀ : Str → Option Value} {va vl vs : Value} {vh vw : Option Value} (ha : m (Str.ofString "at") = some va) (hl : m (Str.ofString "last") = some vl) (hs : m (Str.ofString "start") = some vs) (hh : m (Str.ofString "here") = vh) (hw : m (Str.ofString "whole") = vw)
    (ho : ∀ y, y ≠ Str.ofString "at" → y ≠ Str.ofString "last" → y ≠ Str.ofString "start" → y ≠ Str.ofString "here" → y ≠ Str.ofString "whole" → m y = m₀ y) : m = updP va vl vs vh vw m₀ := by
  funext y
  unfold updP
  by_cases h1 : y = Str.ofString "at"
  · rw [if_pos h1, h1, ha]
  rw [if_neg h1]
  by_cases h2 : y = Str.ofString "last"
  · rw [if_pos h2, h2, hl]
  rw [if_neg h2]
  by_cases h3 : y = Str.ofString "start"
  · rw [if_pos h3, h3, hs]
  rw [if_neg h3]
  by_cases h4 : y = Str.ofString "here"
  · rw [if_pos h4, h4, hh]
  rw [if_neg h4]
  by_cases h5 : y = Str.ofString "whole"
  · rw [if_pos h5, h5, hw]
  rw [if_neg h5]
  exact ho y h1 h2 h3 h4 h5
theorem split2 {α : Type} {js : List α} {k : Nat} (h : k + 1 < js.length) : ∃ pre i1 i2 post, js = pre ++ i1 :: i2 :: post ∧ pre.length = k := by
  refine ⟨js.take k, js[k], js[k + 1], js.drop (k + 2), ?_, by rw [List.length_take]; (first | lia | omega)⟩
  have e1 : js.drop k = js[k] :: js[k + 1] :: js.drop (k + 2) := by rw [List.drop_eq_getElem_cons (by (first | lia | omega)), List.drop_eq_getElem_cons (by (first | lia | omega))]
  rw [← e1, List.take_append_drop]
theorem perm_mid {pre post : List Inf} {i1 i2 : Inf} : (infosL (pre ++ i1 :: i2 :: post)).Perm ((i1.x, instObj 52 i1.dx) :: (i1.dx, infoD i1.q) :: (i2.x, instObj 52 i2.dx) :: (i2.dx, infoD i2.q) :: infosL (pre ++ post)) := by
  rw [infosL_append, infosL_append, infosL_cons, infosL_cons]
  exact (List.perm_middle.trans ((List.perm_middle.trans ((List.perm_middle.trans (List.perm_middle.cons _)).cons _)).cons _))
theorem perm_mid1 {pre post : List Inf} {i1 : Inf} : (infosL (pre ++ i1 :: post)).Perm ((i1.x, instObj 52 i1.dx) :: (i1.dx, infoD i1.q) :: infosL (pre ++ post)) := by
  rw [infosL_append, infosL_append, infosL_cons]
  exact (List.perm_middle.trans (List.perm_middle.cons _))
theorem news_ne {g h : Heap} {L a b : Addr} {o o' : Obj} {news : Led} (N : News g L h news) (h1 : (a, o) ∈ news) (h2 : (b, o') ∈ news) (hc : o.cls ≠ o'.cls) : a ≠ b := by
  rintro rfl
  have e1 := (N _ h1).1
  have e2 := (N _ h2).1
  rw [e1] at e2
  exact hc (congrArg Obj.cls (Option.some.inj e2))
theorem mem_ne {l : List (Addr × Obj)} {a : Addr} (h : a ∉ l.map (·.1)) : ∀ p ∈ l, p.1 ≠ a := fun p hp e => h (e ▸ List.mem_map_of_mem hp)
structure PS where
  a : Int
  st : Int
  is : List Inf
  row : Addr
  n : Nat
  ta : Tok
  tl : Tok
  ts : Tok
  hv : Option Value
  wv : Option Value
local macro_rules | `(tactic| walk_at "call ref") => callL "O" 162 "wholes_c" "uF uX P0" "_ wd wo e9 w8 hlo hWo" "dS zO"
set_option hygiene false in
local macro_rules | `(tactic| walk_at "P242") => `(tactic| (case P => intro H9 b9 b8; exact ⟨NormAt.keeps (by assumption) b9, ⟨_, _, b8 (_, _) (by k_mem), b8 (_, _) (by k_mem), rfl, rfl⟩⟩))
local macro_rules | `(tactic| walk_at "call ref") => callL "P" 242 "class_here_c" "uF uX P242" "" "dP zP"
local macro_rules | `(tactic| walk_at "call ref") => callL "P" 235 "is_blocked_c" "uF uX P0" "" "sR zP"
set_option hygiene false in
local macro_rules | `(tactic| walk_at "P268") => `(tactic| (case P => intro H9 b9 b8; exact ⟨⟨db, b1, b2, b3, b4, k1, k2, k3, k4, t3, t4, b9 _ _ hbf, b8 (_, _) (by k_mem)⟩, hRow _ b9 b8, ⟨hlo, _, b8 (_, _) (by k_mem), hWo⟩, CharAt.keeps (by assumption) b9⟩))
local macro_rules | `(tactic| walk_at "call ref") => callL "P" 268 "whole_here_c is=P a0 a1 a2 a3 a4 a5 a6 a7 a8" "aX uF uX P268" "" "dP zP"
local macro_rules | `(tactic| walk_at "exec While Compare cons nil") => `(tactic| walk_at "stop")
local macro_rules | `(tactic| walk_at "subscriptTail") => refL "stIs" "item_led" "kasm mem asm c_om c_om ? wur" ""
local macro_rules | `(tactic| walk_at "call builtin:len") => refL "biIs" "len_led" "kasm mem asm c_om ?" ""
local macro_rules | `(tactic| k_all) => `(tactic| assumption)
set_option hygiene false in
local macro_rules | `(tactic| walk_at "P134") => `(tactic| (case P => intro H9 b9 b8; exact ⟨⟨db, b1, b2, b3, b4, k1, k2, k3, k4, t3, t4, b9 _ _ hbf, b8 (_, _) (by k_mem) (by k_ne)⟩, hRX _ b8⟩))
local macro_rules | `(tactic| walk_at "call ref") => callL "1" 134 "merge_c is=P a0 a1 a2 a3 a4 a5 a6 a7" "uF P134 uU aX uX" "w8 e9 z9 l9 i9" "sW sE dI zO"
local macro_rules | `(tactic| walk_at "subscriptTail Name Slice ref ref") => `(tactic| walk_at "slice")
theorem cdOf_at {is : List (Int × Int)} {k : Int} {p : Int × Int} (h : is[k.toNat]? = some p) : cdOf is k = p.1 := by
  unfold cdOf
  rw [List.getD_eq_getElem?_getD, h]
  rfl
theorem clOf_at2 {is : List (Int × Int)} {k : Int} {p : Int × Int} (h : is[k.toNat]? = some p) : clOf is k = p.2 := by
  unfold clOf
  rw [List.getD_eq_getElem?_getD, h]
  rfl
theorem slice_upto {vs : List Value} {a : Int} (h0 : 0 ≤ a) (h1 : a ≤ vs.length) : (slicePick (List.toArray vs) none (some a) none).toList = vs.take a.toNat := by
  have h := slicePick_upto (List.toArray vs) a.toNat (by rw [List.size_toArray]; (first | lia | omega))
  rw [show ((a.toNat : Nat) : Int) = a by (first | lia | omega)] at h
  rw [h]
theorem slice_from {vs : List Value} {a : Int} (h0 : 0 ≤ a) (h1 : a ≤ vs.length) : (slicePick (List.toArray vs) (some a) none none).toList = vs.drop a.toNat := by
  have h := slicePick_from (List.toArray vs) a.toNat (by rw [List.size_toArray]; (first | lia | omega))
  rw [show ((a.toNat : Nat) : Int) = a by (first | lia | omega)] at h
  rw [h]
local macro_rules | `(tactic| walk_at "binaryOp Add ref ref") => `(tactic| walk_at "addT")
local macro_rules | `(tactic| walk_at "exec If") => `(tactic| (k_here; (with_reducible refine ifNm "whole" ?_); refine Stop.out ?_))
theorem put_meas1 {p q : Nat} {a : Int} (h : a.toNat = p + 1) : 2 * (p + q + 1) - a.toNat < 2 * (p + q + 2) - a.toNat := by
  rw [h]; (first | lia | omega)
theorem put_meas2 {p q : Nat} {a : Int} (h0 : 0 ≤ a) (h : a.toNat = p + 1) : 2 * (p + q + 2) - (a + 1).toNat < 2 * (p + q + 2) - a.toNat := by
  rw [show (a + 1).toNat = p + 1 + 1 by (first | lia | omega), h]; (first | lia | omega)
theorem put_meas3 {x : Inf} {l : List Inf} : 2 * (x :: l).length - ((0 : Int) + 1).toNat < 2 * (x :: l).length - (0 : Int).toNat := by
  show 2 * (l.length + 1) - 1 < 2 * (l.length + 1) - 0; (first | lia | omega)
theorem put_c {w : World} {mean : ExcName → Option Value} {mg mb : Str → Option Value} {bf db row nm cm : Addr} {b1 b2 b3 b4 : Int} {k1 k2 k3 k4 t3 t4 : Tok} {is : List Inf} {n : Nat} {ks : List Int} (hlen : is.length ≤ 500) (hok : PutOk (is.map Inf.cc) 0)
    (hnd : (db :: (infosL is).map (·.1)).Nodup) :
    Ctr2 w mean mg mb 40 400 (.ref 275) [.ref bf, .ref nm, .ref cm] ((db, bufD b1 b2 b3 b4 k1 k2 k3 k4 t3 t4 row) :: (row, listOf (List.toArray (is.map Inf.ref)) n) :: infosL is) (fun g => g.get? bf = some (instObj 105 db) ∧ NormAt w g nm ∧ CharAt w g cm ks)
      (fun r led' own => r = .none ∧ ∃ row' n' fin, (db, bufD b1 b2 b3 b4 k1 k2 k3 k4 t3 t4 row') ∈ led' ∧ ((row', listOf (List.toArray (fin.map Inf.ref)) n') ∈ led' ∨ (row', listOf (List.toArray (fin.map Inf.ref)) n') ∈ own) ∧ (∀ p ∈ infosL fin, p ∈ led') ∧ fin.map Inf.cc = putAll ks (is.map Inf.cc) ∧ (db :: (infosL fin).map (·.1)).Nodup) := by
  (k_dflt refine' Ctr2.enter ?k6 ?k7 ?k9 ?kB ?c2 ?c3 ?c4 ?c5 ?_)
  case k6 => k_dflt k_is
  case k7 => k_dflt k_is
  case k9 => k_dflt (intro s9 X9; first | exact BindsTo.of_eq rfl | exact binds_K X9 rfl (by k_is) rfl rfl rfl)
  case c5 => decide
  case kB => k_dflt exact locs rfl
  case c2 => exact rfl
  case c3 => exact rfl
  case c4 => exact rfl
  rintro dp un fr gd g L h₁ tk₁ s Q hdp hun F N X T hP9 hret
  (try dsimp only)
  show wpAny _ _ _ _ _ _
  k_fold
  obtain ⟨hbf, hNm, hCm⟩ := hP9
  obtain ⟨dn, m1, u1, m2, u2, m3, e1, e2, hnm, hdn, hT1, hT2⟩ := id hNm
  (try dsimp only)
  show wpAny _ _ _ _ _ _
  (try k_fold)
  k_steps
  rename row ≠ wd => n7_2
  rename db ≠ wd => n7_1
  have hn0 : (wd :: db :: (infosL is).map (·.1)).Nodup := by
    refine List.nodup_cons.mpr ⟨fun hm => ?_, hnd⟩
    rcases List.mem_cons.mp hm with e | hm
    · exact n7_1 e.symm
    · obtain ⟨q, hq, e⟩ := List.mem_map.mp hm
      exact n8 q hq e
  have hsub0 : ∀ p ∈ infosL is, p.1 ∈ ((db, bufD b1 b2 b3 b4 k1 k2 k3 k4 t3 t4 row) :: (row, listOf (List.toArray (is.map Inf.ref)) n) :: infosL is).map (·.1) := fun p hp => List.mem_map_of_mem (.tail _ (.tail _ hp))
  have hdb0 : db ∈ ((db, bufD b1 b2 b3 b4 k1 k2 k3 k4 t3 t4 row) :: (row, listOf (List.toArray (is.map Inf.ref)) n) :: infosL is).map (·.1) := .head _
  show wpAny _ _ _ _ _ _
  refine while_S (σ := PS) (x₀ := ⟨0, -1, is, row, n, _, _, _, none, none⟩) (fun x => updP (.int x.a x.ta) (.int 0 x.tl) (.int x.st x.ts) x.hv x.wv) (fun x => (wd, wo) :: (db, bufD b1 b2 b3 b4 k1 k2 k3 k4 t3 t4 x.row) :: (x.row, listOf (List.toArray (x.is.map Inf.ref)) x.n) :: infosL x.is)
    (fun x => 0 ≤ x.a ∧ x.st = x.a - 1 ∧ x.a ≤ x.is.length ∧ x.is.length ≤ 500 ∧ PutOk (x.is.map Inf.cc) x.a.toNat ∧ PutTo ks (x.is.map Inf.cc) x.a.toNat (putAll ks (is.map Inf.cc)) ∧ (wd :: db :: (infosL x.is).map (·.1)).Nodup ∧ ∀ p ∈ infosL x.is, p.1 ∈ ((db, bufD b1 b2 b3 b4 k1 k2 k3 k4 t3 t4 row) :: (row, listOf (List.toArray (is.map Inf.ref)) n) :: infosL is).map (·.1))
    (fun x => 2 * x.is.length - x.a.toNat) PassesOwn.never (by k_asm) (by k_asm) (updP_of rfl rfl rfl rfl rfl (fun y _ _ _ _ _ => rfl)).symm ⟨by show (0 : Int) ≤ 0; (first | lia | omega), by show (-1 : Int) = 0 - 1; (first | lia | omega), by show (0 : Int) ≤ is.length; (first | lia | omega), hlen, hok, putTo_start, hn0, hsub0⟩ ?_
  rintro ⟨a, st, js, row1, n1, ta, tl, ts, hv, wv⟩ h tk hI9 F N
  show wpAny _ _ _ _ _ _
  (try k_fold)
  obtain ⟨i1, i2, i3, i4, i5, i6, i7, i8⟩ := hI9
  dsimp only at i1 i2 i3 i4 i5 i6 i7 i8 F N
  have hjl : (js.map Inf.ref).length = js.length := List.length_map ..
  rcases Int.lt_or_le a js.length with hlt | hge
  · rcases Int.lt_or_le 0 a with ha | ha
    · obtain ⟨pre, j1, j2, post, rfl, hpl⟩ := split2 (js := js) (k := (a - 1).toNat) (by (first | lia | omega))
      have hpa : a.toNat = pre.length + 1 := by (first | lia | omega)
      have hps : st.toNat = pre.length := by (first | lia | omega)
      have hps1 : (st + 1).toNat = pre.length + 1 := by (first | lia | omega)
      have hll : (pre ++ j1 :: j2 :: post).length = pre.length + post.length + 2 := by rw [List.length_append, List.length_cons, List.length_cons]; (first | lia | omega)
      have N2 : News g L h ((wd, wo) :: (db, bufD b1 b2 b3 b4 k1 k2 k3 k4 t3 t4 row1) :: (row1, listOf (List.toArray ((pre ++ j1 :: j2 :: post).map Inf.ref)) n1) :: (j1.x, instObj 52 j1.dx) :: (j1.dx, infoD j1.q) :: (j2.x, instObj 52 j2.dx) :: (j2.dx, infoD j2.q) :: infosL (pre ++ post)) := fun p hp => N p (by
        rcases List.mem_cons.mp hp with e | hp
        · rw [e]; exact .head _
        rcases List.mem_cons.mp hp with e | hp
        · rw [e]; exact .tail _ (.head _)
        rcases List.mem_cons.mp hp with e | hp
        · rw [e]; exact .tail _ (.tail _ (.head _))
        exact .tail _ (.tail _ (.tail _ (perm_mid.mem_iff.mpr hp))))
      clear N
      have hnd2 : (wd :: db :: j1.x :: j1.dx :: j2.x :: j2.dx :: (infosL (pre ++ post)).map (·.1)).Nodup := by
        have hp := ((((perm_mid (pre := pre) (post := post) (i1 := j1) (i2 := j2)).map (fun p : Addr × Obj => p.1)).cons db).cons wd)
        exact hp.nodup_iff.mp i7
      simp only [List.nodup_cons, List.mem_cons, not_or] at hnd2
      obtain ⟨⟨w1, w2, w3, w4, w5, w6⟩, ⟨d2, d3, d4, d5, d6⟩, ⟨x3, x4, x5, x6⟩, ⟨y4, y5, y6⟩, ⟨z5, z6⟩, u6, hnr⟩ := hnd2
      have w6' := mem_ne w6
      have d6' := mem_ne d6
      have y6' := mem_ne y6
      have u6' := mem_ne u6
      have r1 : row1 ≠ db := news_ne N2 (by k_mem) (List.Mem.tail _ (List.Mem.head _)) (by show Value.type "list" ≠ Value.type "dict"; decide)
      have r2 : row1 ≠ j1.dx := news_ne N2 (o' := infoD j1.q) (by k_mem) (by k_mem) (by show Value.type "list" ≠ Value.type "dict"; decide)
      have r3 : row1 ≠ j2.dx := news_ne N2 (o' := infoD j2.q) (by k_mem) (by k_mem) (by show Value.type "list" ≠ Value.type "dict"; decide)
      have q1 : ((pre ++ j1 :: j2 :: post).map Inf.cc)[st.toNat]? = some j1.cc := by rw [hps, List.getElem?_map, getE_pre]; rfl
      have q2 : ((pre ++ j1 :: j2 :: post).map Inf.cc)[a.toNat]? = some j2.cc := by rw [hpa, List.getElem?_map, getE_pre1]; rfl
      have q3 : ((pre ++ j1 :: j2 :: post).map Inf.cc)[(st + 1).toNat]? = some j2.cc := by rw [hps1, List.getElem?_map, getE_pre1]; rfl
      have hxa : ((pre ++ j1 :: j2 :: post).map Inf.ref)[a.toNat]? = some (.ref j2.x) := by rw [hpa, List.getElem?_map, getE_pre1]; rfl
      have hxs : ((pre ++ j1 :: j2 :: post).map Inf.ref)[st.toNat]? = some (.ref j1.x) := by rw [hps, List.getElem?_map, getE_pre]; rfl
      have hs1 : (slicePick (List.toArray ((pre ++ j1 :: j2 :: post).map Inf.ref)) none (some a) none).toList = ((pre ++ [j1]).map Inf.ref) := by
        rw [slice_upto (by (first | lia | omega)) (by rw [List.length_map]; (first | lia | omega)), hpa, List.map_append, List.take_append, List.take_of_length_le (by rw [List.length_map]; (first | lia | omega)), List.length_map, show pre.length + 1 - pre.length = 1 by (first | lia | omega), List.map_append]; rfl
      have hs2 : (slicePick (List.toArray ((pre ++ j1 :: j2 :: post).map Inf.ref)) (some (a + 1)) none none).toList = (post.map Inf.ref) := by
        rw [slice_from (by (first | lia | omega)) (by rw [List.length_map]; (first | lia | omega)), show (a + 1).toNat = pre.length + 2 by (first | lia | omega), List.map_append, List.drop_append, List.drop_of_length_le (by rw [List.length_map]; (first | lia | omega)), List.length_map, show pre.length + 2 - pre.length = 2 by (first | lia | omega)]; rfl
      have hRow : ∀ H : Heap, (∀ b o, g.get? b = some o → H.get? b = some o) → (∀ q ∈ ((wd, wo) :: (db, bufD b1 b2 b3 b4 k1 k2 k3 k4 t3 t4 row1) :: (row1, listOf (List.toArray ((pre ++ j1 :: j2 :: post).map Inf.ref)) n1) :: (j1.x, instObj 52 j1.dx) :: (j1.dx, infoD j1.q) :: (j2.x, instObj 52 j2.dx) :: (j2.dx, infoD j2.q) :: infosL (pre ++ post)), H.get? q.1 = some q.2) → RowAt H row1 ((pre ++ j1 :: j2 :: post).map Inf.cc) := fun H _ b8 =>
        row_led (b8 (_, _) (.tail _ (.tail _ (.head _)))) (fun p hp => b8 p (.tail _ (.tail _ (.tail _ (perm_mid.mem_iff.mp hp)))))
      have hRX : ∀ H : Heap, (∀ q ∈ ((wd, wo) :: (db, bufD b1 b2 b3 b4 k1 k2 k3 k4 t3 t4 row1) :: (row1, listOf (List.toArray ((pre ++ j1 :: j2 :: post).map Inf.ref)) n1) :: (j1.x, instObj 52 j1.dx) :: (j1.dx, infoD j1.q) :: (j2.x, instObj 52 j2.dx) :: (j2.dx, infoD j2.q) :: infosL (pre ++ post)), q.1 ≠ j2.dx → H.get? q.1 = some q.2) → RowX H row1 ((pre ++ j1 :: j2 :: post).map Inf.cc) (st + 1).toNat j2.x j2.dx := fun H b8 => by
        rw [hps1]
        have e : pre ++ j1 :: j2 :: post = (pre ++ [j1]) ++ j2 :: post := by rw [List.append_assoc]; rfl
        rw [e] at b8 ⊢
        rw [show pre.length + 1 = (pre ++ [j1]).length by rw [List.length_append]; rfl]
        refine row_ledX (b8 (_, _) (.tail _ (.tail _ (.head _))) r3) (fun p hp => ?_) (b8 (_, _) (.tail _ (.tail _ (.tail _ (.tail _ (.tail _ (.head _)))))) z5)
        rw [List.append_assoc] at hp
        rcases List.mem_cons.mp (perm_mid1.mem_iff.mp hp) with e2 | hp
        · rw [e2]; exact b8 (_, _) (.tail _ (.tail _ (.tail _ (.head _)))) x5
        rcases List.mem_cons.mp hp with e2 | hp
        · rw [e2]; exact b8 (_, _) (.tail _ (.tail _ (.tail _ (.tail _ (.head _))))) y5
        · exact b8 p (.tail _ (.tail _ (.tail _ (.tail _ (.tail _ (.tail _ (.tail _ hp))))))) (u6' p hp)
      have hPl : ((pre ++ j1 :: j2 :: post).map Inf.cc).length = pre.length + post.length + 2 := by rw [List.length_map, hll]
      rw [hll] at hjl i3 i4 hlt
      have hcc1 := i5.codes _ (List.mem_of_getElem? q1)
      have hcc2 := i5.codes _ (List.mem_of_getElem? q2)
      have hc1 := cdOf_at q1
      have hc2 := cdOf_at q2
      have hc3 := cdOf_at q3
      have hl1 := clOf_at2 q1
      have hl3 := clOf_at2 q3
      rw [hpa] at i5 i6
      rw [List.map_append, List.map_cons, List.map_cons] at i5 i6
      have hlp : (pre.map Inf.cc).length = pre.length := List.length_map ..
      rw [← hlp] at i5 i6
      have hle : 0 < wHere ks j1.cc.1 j2.cc.1 → clOf ((pre ++ j1 :: j2 :: post).map Inf.cc) st ≤ clOf ((pre ++ j1 :: j2 :: post).map Inf.cc) (st + 1) := fun _ => by rw [hl1, hl3]; exact i5.le
      have hpre : 0 < wHere ks j1.cc.1 j2.cc.1 → ∀ j, st + 1 < j → j < ((pre ++ j1 :: j2 :: post).map Inf.cc).length → clOf ((pre ++ j1 :: j2 :: post).map Inf.cc) j = clOf ((pre ++ j1 :: j2 :: post).map Inf.cc) (st + 1) → clOf ((pre ++ j1 :: j2 :: post).map Inf.cc) (st + 1) = clOf ((pre ++ j1 :: j2 :: post).map Inf.cc) st := by
        intro hw j hj1 hj2 hj3
        have hjn : j.toNat < ((pre ++ j1 :: j2 :: post).map Inf.cc).length := by (first | lia | omega)
        obtain ⟨pj, hq⟩ : ∃ pj, ((pre ++ j1 :: j2 :: post).map Inf.cc)[j.toNat]? = some pj := ⟨_, List.getElem?_eq_getElem hjn⟩
        have hjq := clOf_at2 hq
        rw [hl3] at hj3 ⊢
        rw [hl1]
        rw [List.map_append, List.map_cons, List.map_cons] at hq
        exact i5.pre (j := j.toNat) (by (first | lia | omega)) hq (by rw [← hj3, hjq]) (hwhole_vt (wHere_le hw).1)
      have hcz : wHere ks (cdOf ((pre ++ j1 :: j2 :: post).map Inf.cc) st) (cdOf ((pre ++ j1 :: j2 :: post).map Inf.cc) a) = wHere ks j1.cc.1 j2.cc.1 := by rw [hc1, hc2]
      have hj2m : j2 ∈ pre ++ j1 :: j2 :: post := List.mem_append_right _ (.tail _ (.head _))
      generalize hPd : (pre ++ j1 :: j2 :: post).map Inf.cc = P at *
      have ca : j2.q.cluster = clOf P (st + 1) := hl3.symm
      have cb : j2.q.code = cdOf P (st + 1) := hc3.symm
      show wpAny _ _ _ _ _ _
      (try k_fold)
      k_steps
      refine WhlIf.yes (decide_eq_true (by (first | lia | omega))) ?_
      show wpAny _ _ _ _ _ _
      (try k_fold)
      k_steps
      refine wpAny_If ?_
      by_cases hw : 0 < wHere ks j1.cc.1 j2.cc.1
      · have hle := hle hw
        have hpre := hpre hw
        have hw2 : 0 < wHere ks (cdOf P st) (cdOf P a) := by rw [hcz]; exact hw
        show wpAny _ _ _ _ _ _
        k_steps
        rename Fr g L _ _ => Fz
        rename News g L _ _ => Nz
        rename Addr => Dz
        obtain ⟨qz, hqz, hqc, hqk⟩ := info_mem (dx := j1.dx) Nz (by k_mem)
        rw [hcz] at hqc
        have hrz : (pre ++ (⟨j1.x, j1.dx, qz⟩ : Inf) :: post).map Inf.ref = List.map Inf.ref (pre ++ [j1]) ++ List.map Inf.ref post := by rw [List.map_append, List.map_append, List.append_assoc]; rfl
        have hyz : (pre ++ (⟨j1.x, j1.dx, qz⟩ : Inf) :: post).map Inf.cc = pre.map Inf.cc ++ (wHere ks j1.cc.1 j2.cc.1, j1.cc.2) :: post.map Inf.cc := by
          rw [List.map_append, List.map_cons]
          show _ ++ (qz.code, qz.cluster) :: _ = _
          rw [hqc, hqk]; rfl
        have hlz : (pre ++ (⟨j1.x, j1.dx, qz⟩ : Inf) :: post).length = pre.length + post.length + 1 := by rw [List.length_append, List.length_cons]; (first | lia | omega)
        have i5z := i5.join hw
        have i6z := putTo_join i6 hw
        rw [← hyz] at i5z i6z
        exact SEnd.cont ⟨a, st, pre ++ (⟨j1.x, j1.dx, qz⟩ : Inf) :: post, Dz, 0, _, _, _, _, _⟩ Fz Nz (fun p hp => by
            rcases List.mem_cons.mp hp with e | hp
            · rw [e]; k_mem
            rcases List.mem_cons.mp hp with e | hp
            · rw [e]; k_mem
            rcases List.mem_cons.mp hp with e | hp
            · rw [e]; show (Dz, listOf (List.toArray (List.map Inf.ref (pre ++ (⟨j1.x, j1.dx, qz⟩ : Inf) :: post))) 0) ∈ _; rw [hrz]; exact .head _
            rcases List.mem_cons.mp (perm_mid1.mem_iff.mp hp) with e | hp
            · rw [e]; k_mem
            rcases List.mem_cons.mp hp with e | hp
            · rw [e]; exact hqz
            · exact .tail _ (.tail _ (.tail _ (.tail _ (.tail _ (.tail _ (.tail _ (.tail _ (.tail _ (.tail _ hp))))))))))
          (by exact updP_of rfl rfl rfl rfl rfl (fun y h1 h2 h3 h4 h5 => by simp only [updP, if_neg h1, if_neg h2, if_neg h3, if_neg h4, if_neg h5]))
          ⟨i1, i2, by show a ≤ ((pre ++ (⟨j1.x, j1.dx, qz⟩ : Inf) :: post).length : Int); rw [hlz]; (first | lia | omega), by show (pre ++ (⟨j1.x, j1.dx, qz⟩ : Inf) :: post).length ≤ 500; rw [hlz]; (first | lia | omega),
            by show PutOk _ a.toNat; rw [hpa, ← hlp]; exact i5z, by show PutTo ks _ a.toNat _; rw [hpa, ← hlp]; exact i6z,
            ((((perm_mid1 (pre := pre) (post := post) (i1 := (⟨j1.x, j1.dx, qz⟩ : Inf))).map (fun p : Addr × Obj => p.1)).cons db).cons wd).nodup_iff.mpr
              (List.nodup_cons.mpr ⟨by simp only [List.map_cons, List.mem_cons, not_or]; exact ⟨w1, w2, w3, w6⟩, List.nodup_cons.mpr ⟨by simp only [List.map_cons, List.mem_cons, not_or]; exact ⟨d2, d3, d6⟩, List.nodup_cons.mpr ⟨by simp only [List.map_cons, List.mem_cons, not_or]; exact ⟨x3, x6⟩, List.nodup_cons.mpr ⟨y6, hnr⟩⟩⟩⟩),
            fun p hp => by
              rcases List.mem_cons.mp (perm_mid1.mem_iff.mp hp) with e | hp
              · rw [e]; exact i8 (j1.x, instObj 52 j1.dx) (perm_mid.mem_iff.mpr (.head _))
              rcases List.mem_cons.mp hp with e | hp
              · rw [e]; exact i8 (j1.dx, infoD j1.q) (perm_mid.mem_iff.mpr (.tail _ (.head _)))
              · exact i8 p (perm_mid.mem_iff.mpr (.tail _ (.tail _ (.tail _ (.tail _ hp)))))⟩
          (by show 2 * (pre ++ (⟨j1.x, j1.dx, qz⟩ : Inf) :: post).length - a.toNat < 2 * (pre ++ j1 :: j2 :: post).length - a.toNat; rw [hlz, hll]; exact put_meas1 hpa)
      · have hw2 : ¬ 0 < wHere ks (cdOf P st) (cdOf P a) := by rw [hcz]; exact hw
        show wpAny _ _ _ _ _ _
        k_steps
        rename Fr g L _ _ => Fz
        rename News g L _ _ => Nz
        have i5z := i5.keep
        have i6z := putTo_keep i6 hw
        have hyz : (pre ++ j1 :: j2 :: post).map Inf.cc = pre.map Inf.cc ++ j1.cc :: j2.cc :: post.map Inf.cc := by rw [List.map_append, List.map_cons, List.map_cons]
        rw [← hyz] at i5z i6z
        exact SEnd.next ⟨a + 1, a, pre ++ j1 :: j2 :: post, row1, n1, _, _, _, _, _⟩ Fz Nz (fun p hp => by
            rcases List.mem_cons.mp hp with e | hp
            · rw [e]; k_mem
            rcases List.mem_cons.mp hp with e | hp
            · rw [e]; k_mem
            rcases List.mem_cons.mp hp with e | hp
            · rw [e]; k_mem
            · exact .tail _ (.tail _ (.tail _ (perm_mid.mem_iff.mp hp))))
          (by exact updP_of rfl rfl rfl rfl rfl (fun y h1 h2 h3 h4 h5 => by simp only [updP, if_neg h1, if_neg h2, if_neg h3, if_neg h4, if_neg h5]))
          ⟨by show 0 ≤ a + 1; (first | lia | omega), by show a = a + 1 - 1; (first | lia | omega), by show a + 1 ≤ ((pre ++ j1 :: j2 :: post).length : Int); rw [hll]; (first | lia | omega), by show (pre ++ j1 :: j2 :: post).length ≤ 500; rw [hll]; (first | lia | omega),
            by show PutOk _ (a + 1).toNat; rw [show (a + 1).toNat = (pre.map Inf.cc).length + 1 + 1 by rw [hlp]; (first | lia | omega)]; exact i5z, by show PutTo ks _ (a + 1).toNat _; rw [show (a + 1).toNat = (pre.map Inf.cc).length + 1 + 1 by rw [hlp]; (first | lia | omega)]; exact i6z, i7, i8⟩
          (by show 2 * (pre ++ j1 :: j2 :: post).length - (a + 1).toNat < 2 * (pre ++ j1 :: j2 :: post).length - a.toNat; rw [hll]; exact put_meas2 i1 hpa)
    · have ha0 : a = 0 := by (first | lia | omega)
      cases js with
      | nil => exact absurd hlt (by rw [ha0]; decide)
      | cons j2 post =>
        rw [infosL_cons] at N
        have hx0 : (List.map Inf.ref (j2 :: post))[a.toNat]? = some (.ref j2.x) := by rw [ha0]; rfl
        show wpAny _ _ _ _ _ _
        (try k_fold)
        k_steps
        refine WhlIf.yes (decide_eq_true (by (first | lia | omega))) ?_
        show wpAny _ _ _ _ _ _
        (try k_fold)
        k_steps
        refine wpAny_If ?_
        show wpAny _ _ _ _ _ _
        k_steps
        have e1 : (a + 1).toNat = a.toNat + 1 := by (first | lia | omega)
        exact SEnd.next ⟨a + 1, a, j2 :: post, row1, n1, _, _, _, _, _⟩ (by k_asm) (by k_asm) (by intro p hp; exact hp) (by exact updP_of rfl rfl rfl rfl rfl (fun y h1 h2 h3 h4 h5 => by simp only [updP, if_neg h1, if_neg h2, if_neg h3, if_neg h4, if_neg h5])) ⟨by show 0 ≤ a + 1; (first | lia | omega), by show a = a + 1 - 1; (first | lia | omega), by show a + 1 ≤ ((j2 :: post).length : Int); (first | lia | omega), i4, by show PutOk _ (a + 1).toNat; rw [e1]; exact i5.keep,
          by show PutTo ks _ (a + 1).toNat _; rw [ha0] at i6 ⊢; exact putTo_first i6, i7, i8⟩ (by show 2 * (j2 :: post).length - (a + 1).toNat < 2 * (j2 :: post).length - a.toNat; rw [ha0]; exact put_meas3)
  · have hae : a = js.length := by (first | lia | omega)
    show wpAny _ _ _ _ _ _
    (try k_fold)
    k_steps
    refine WhlIf.no (decide_eq_false (by (first | lia | omega))) ?_
    k_steps
    have heq : js.map Inf.cc = putAll ks (is.map Inf.cc) := putTo_end (by rw [List.length_map, show js.length = a.toNat by (first | lia | omega)]; exact i6)
    have hdb1 : ∀ p ∈ (db, bufD b1 b2 b3 b4 k1 k2 k3 k4 t3 t4 row1) :: infosL js, p.1 ∈ ((db, bufD b1 b2 b3 b4 k1 k2 k3 k4 t3 t4 row) :: (row, listOf (List.toArray (is.map Inf.ref)) n) :: infosL is).map (·.1) := fun p hp => by
      rcases List.mem_cons.mp hp with e | hp
      · rw [e]; exact hdb0
      · exact i8 p hp
    by_cases hr : row1 ∈ ((db, bufD b1 b2 b3 b4 k1 k2 k3 k4 t3 t4 row) :: (row, listOf (List.toArray (is.map Inf.ref)) n) :: infosL is).map (·.1)
    · exact hret .none _ _ (fin2 (led' := (row1, listOf (List.toArray (js.map Inf.ref)) n1) :: (db, bufD b1 b2 b3 b4 k1 k2 k3 k4 t3 t4 row1) :: infosL js) (own := []) (by k_asm) (by k_asm)
        (fun p hp => by
          rcases List.mem_cons.mp hp with e | hp
          · rw [e]; exact .tail _ (.tail _ (.head _))
          rcases List.mem_cons.mp hp with e | hp
          · rw [e]; exact .tail _ (.head _)
          exact .tail _ (.tail _ (.tail _ hp))) (List.forall_mem_nil _) (List.forall_mem_nil _)
        (fun p hp => by
          rcases List.mem_cons.mp hp with e | hp
          · rw [e]; exact hr
          · exact hdb1 p hp)
        ⟨rfl, row1, n1, js, .tail _ (.head _), .inl (.head _), fun p hp => .tail _ (.tail _ hp), heq, (List.nodup_cons.mp i7).2⟩)
    · exact hret .none _ _ (fin2 (led' := (db, bufD b1 b2 b3 b4 k1 k2 k3 k4 t3 t4 row1) :: infosL js) (own := [(row1, listOf (List.toArray (js.map Inf.ref)) n1)]) (by k_asm) (by k_asm)
        (fun p hp => by
          rcases List.mem_cons.mp hp with e | hp
          · rw [e]; exact .tail _ (.head _)
          exact .tail _ (.tail _ (.tail _ hp)))
        (fun p hp => by rw [List.mem_singleton.mp hp]; exact .tail _ (.tail _ (.head _)))
        (fun p hp q hq e => by
          rw [List.mem_singleton.mp hp] at e
          have e2 : row1 = q.1 := e
          exact hr (by rw [e2]; exact List.mem_map_of_mem hq))
        hdb1 ⟨rfl, row1, n1, js, .head _, .inr (.head _), fun p hp => .tail _ hp, heq, (List.nodup_cons.mp i7).2⟩)
end PPut
section PComp
theorem compRest_S {prog : Program} {w : World} {A : Around} {h₀ : Heap} {L : Addr} {m : Str → Option Value} {env : Env} {elt : PySem.Expr} {xn : Str} {scope : Scope} {cl : List (Str × Addr)} {s : Shared} {S : Led → Prop} {P : Nat → Value → Prop} {Fin : List Value → Led → Prop} {news : Led} {n : Nat} {σ : Type} {a₀ : σ}
    (led : σ → Led) (I : Nat → List Value → σ → Prop) (e₀ : led a₀ = news) (i₀ : I 0 [] a₀)
    (turn : ∀ i v ys a Ia oI C oC D m₂ h tk (E' : Value → Shared → Prop), i < n → P i v → I i ys a → LCg.NsObj oC m₂ → m₂ xn = some v → Fr h₀ L h m → News h₀ L h ((Ia, oI) :: (C, oC) :: (D, LCg.lst ys) :: led a) → LCg.Off3 Ia C D (led a) → ((@Ne Nat Ia C) ∧ (@Ne Nat Ia D) ∧ (@Ne Nat C D)) →
      wpAny (model prog w) A (eval elt (compEnvC scope cl C env)) (LCg.CompEnd h₀ L m { s with heap := h, toks := tk } Ia oI C oC D (LCg.lst ys) S (fun y news' => ∃ a', news' = led a' ∧ I (i + 1) (ys ++ [y]) a')) E' { s with heap := h, toks := tk })
    (fin : ∀ ys a, I n ys a → Fin ys (led a)) : LCg.CompRest prog w A h₀ L m env elt xn scope cl s S P Fin n 0 [] news := by
  have key : ∀ (j i : Nat) (ys : List Value) (a : σ), i + j = n → I i ys a → LCg.CompRest prog w A h₀ L m env elt xn scope cl s S P Fin j i ys (led a) := by
    intro j
    induction j with
    | zero =>
      intro i ys a hi hI
      have e : i = n := by (first | lia | omega)
      subst e
      exact LCg.CompRest.zero (fin ys a hI)
    | succ j ih =>
      intro i ys a hi hI
      refine LCg.CompRest.succ ?_
      intro v Ia oI C oC D m₂ h tk E' hv hC hx F N off ne
      refine wpAny_mono (turn i v ys a Ia oI C oC D m₂ h tk E' (by (first | lia | omega)) hv hI hC hx F N off ne) (fun y s₂ hq => ?_) fun _ _ e => e
      obtain ⟨h', tk', nw, e, F', N', off', hS, a', rfl, hI'⟩ := hq
      exact ⟨h', tk', _, e, F', N', off', hS, ih (i + 1) _ a' (by (first | lia | omega)) hI'⟩
  rw [← e₀]
  exact key n 0 [] a₀ (by (first | lia | omega)) i₀
theorem ListComp_S {w : World} {A : Around} {E : Value → Shared → Prop} {s : Shared} {h₀ : Heap} {L : Addr} {m : Str → Option Value} {env : Env} {elt iter : PySem.Expr} {x : Str} {px : Pos} {scope : Scope} {cl : List (Str × Addr)} {pos : Pos} {Q : Value → Shared → Prop} (F₀ : Fr h₀ L s.heap m)
    (hclos : closureFor scope env = pure cl) (hcell : ∀ y ∈ scope.names, y.2 ≠ .cell) (hkind : scope.kind = .function)
    (hnames : ∀ y ∈ scope.names, y.2 = .local → scope.names.lookup y.1 = some .local) (hx : scope.names.lookup x = some .local)
    (h : wpAny (model PR w) A (eval iter env) (fun xv s₁ => Stop (LCg.CompSrc PR w A h₀ L m env elt x scope cl (fun s₂ => LCg.FinE h₀ L m s₂ Q) xv s₁)) E s)
    (hs : ∀ x, foldedSetIterable iter env x = pure x := by intro _; rfl) :
    wpAny (model PR w) A (eval (.ListComp elt [⟨.Name x px, iter, [], 0⟩] scope pos) env) Q E s := LCg.ListComp_U F₀ hclos hcell hkind hnames hx h hs
theorem AssignComp_S {w : World} {A : Around} {E : Value → Shared → Prop} {s : Shared} {h₀ : Heap} {L : Addr} {m : Str → Option Value} {env : Env} {elt iter : PySem.Expr} {x y : Str} {px py : Pos} {scope : Scope} {cl : List (Str × Addr)} {pos spos : Pos} {Q : Flow → Shared → Prop} (F₀ : Fr h₀ L s.heap m) (hLe : env.locals = L)
    (hsw : swapsWith (.ListComp elt [⟨.Name x px, iter, [], 0⟩] scope pos) (some (.Name y py)) spos.line env = pure true)
    (hclos : closureFor scope env = pure cl) (hcell : ∀ z ∈ scope.names, z.2 ≠ .cell) (hkind : scope.kind = .function)
    (hnames : ∀ z ∈ scope.names, z.2 = .local → scope.names.lookup z.1 = some .local) (hx : scope.names.lookup x = some .local)
    (hy : env.kindOf y = some .local) (hp : (env.scope.kind == .class || (env.scope.kind == .module && env.locals != env.globals)) = false)
    (h : wpAny (model PR w) A (eval iter env) (fun xv s₁ => Stop (LCg.CompSrc PR w A h₀ L m env elt x scope cl (fun s₂ => LCg.FinA h₀ L m s₂ y Q) xv s₁)) E s)
    (hs : ∀ x, foldedSetIterable iter env x = pure x := by intro _; rfl) :
    wpAny (model PR w) A (exec (.Assign [.Name y py] (.ListComp elt [⟨.Name x px, iter, [], 0⟩] scope pos) spos) env) Q E s := LCg.Assign_ListComp_U F₀ hLe hsw hclos hcell hkind hnames hx hy hp h hs
theorem for_range_N {w : World} {A : Around} {E : Value → Shared → Prop} {s : Shared} {env : Env} {g : Heap} {m₀ : Str → Option Value} {xn : Str} {body : List Stmt} {Q : Flow → Shared → Prop} {σ : Type} {x₀ : σ} {r : Addr} {b : Int} {t u v : Tok} {n : Nat} {news : Led}
    (upd : σ → (Str → Option Value) → Str → Option Value) (led : σ → Led) (I : Nat → σ → Prop)
    (hh : A.handled = none) (hr : IsRange s.heap r 0 b 1 t u v) (hb : b = (n : Int)) (hn : n ≤ 100000) (F : Fr g env.locals s.heap m₀) (N : News g env.locals s.heap news) (hled : ∀ p ∈ led x₀, p ∈ news) (e₀ : upd x₀ m₀ = m₀) (i₀ : I 0 x₀)
    (turn : ∀ i x h tk it oi tv, i < n → I i x → Fr g env.locals h (fun y => if y = xn then some (.int (i : Nat) tv) else upd x m₀ y) → News g env.locals h ((it, oi) :: led x) → (∀ p ∈ led x, p.1 ≠ it) →
      wpAny (model PR w) A (execs body env) (FEnd g env.locals upd led I m₀ s Q xn [(it, oi)] it i) E { s with heap := h, toks := tk })
    (done : ∀ x u h tk, I n x → Fr g env.locals h (fun y => if y = xn then u else upd x m₀ y) → News g env.locals h (led x) → Q .next { s with heap := h, toks := tk }) :
    wpAny (model PR w) A (pyIter (.ref r)) (fun it s₂ => LoopAtV PR w A g env xn body Q E it s₂) E s :=
  for_range_S upd led I hh hr (small_one (by decide) (by decide) (by (first | lia | omega)) (by (first | lia | omega))) (by rw [rangeSize_one, hb]; split <;> (first | lia | omega)) F N hled e₀ i₀ turn done
theorem For_T {w : World} {A : Around} {E : Value → Shared → Prop} {s : Shared} {env : Env} {g : Heap} {m : Str → Option Value} {target iter : PySem.Expr} {pos : Pos} {body : List Stmt} {Q : Flow → Shared → Prop} (F : Fr g env.locals s.heap m)
    (h : wpAny (model PR w) A (eval iter env) (fun xv s₁ => Stop (wpAny (model PR w) A (pyIter xv) (fun it s₂ => TurnsAt PR w A g env target body Q E it s₂) E s₁)) E s)
    (hs : ∀ x, foldedSetIterable iter env x = pure x) (hE : PassesOwn (model PR w) A env E) :
    wpAny (model PR w) A (exec (.For target iter body [] pos) env) Q E s := For_turns F h hs hE
end PComp
section POrder
theorem off_Order : True := by
  w_top off
  exact trivial
def ZeroAt (g : Heap) (c : Addr) (n : Nat) : Prop := ∃ vs, g.IsList c (List.toArray vs) ∧ vs.length = n ∧ ∀ v ∈ vs, ∃ t, v = Value.int 0 t
theorem ZeroAt.keeps {g H : Heap} {c : Addr} {n : Nat} (h : ZeroAt g c n) (b : ∀ b o, g.get? b = some o → H.get? b = some o) : ZeroAt H c n := let ⟨vs, hl, h⟩ := h; ⟨vs, base_list hl b, h⟩
def updM (v : Option Value) (m : Str → Option Value) : Str → Option Value := fun y => if y = Str.ofString "is_one" then v else m y
theorem updM_self {m : Str → Option Value} {v : Option Value} (h : m (Str.ofString "is_one") = v) : updM v m = m := by
  funext y
  unfold updM
  by_cases e : y = Str.ofString "is_one"
  · rw [if_pos e, e, h]
  · rw [if_neg e]
local macro_rules | `(tactic| walk_at "exec For Name Call cons nil") => `(tactic| walk_at "forS")
local macro_rules | `(tactic| walk_at "call builtin:len") => `(tactic| walk_at "lenB")
local macro_rules | `(tactic| walk_at "subscriptTail") => `(tactic| walk_at "itemB")
theorem mark_runs_c {w : World} {mean : ExcName → Option Value} {mg mb : Str → Option Value} {c : Addr} {n : Nat} (hn : n ≤ 500) :
    Ctr w mean mg mb 5 50 (.ref 223) [.ref c] [] (fun g => ZeroAt g c n)
      (fun r led' own => led' = [] ∧ ∃ d k, r = .ref d ∧ own = [(d, listOf #[] k)]) := by
  (k_dflt refine' Ctr.enter ?k6 ?k7 ?k9 ?kB ?c2 ?c3 ?c4 ?c5 ?_)
  case k6 => k_dflt k_is
  case k7 => k_dflt k_is
  case k9 => k_dflt (intro s9 X9; first | exact BindsTo.of_eq rfl | exact binds_K X9 rfl (by k_is) rfl rfl rfl)
  case c5 => decide
  case kB => k_dflt exact locs rfl
  case c2 => exact rfl
  case c3 => exact rfl
  case c4 => exact rfl
  rintro dp un fr gd g L h₁ tk₁ s Q hdp hun F N X T hP9 hret
  (try dsimp only)
  show wpAny _ _ _ _ _ _
  k_fold
  obtain ⟨vs, hl, hlen, hz⟩ := hP9
  (try dsimp only)
  show wpAny _ _ _ _ _ _
  (try k_fold)
  k_steps
  all_goals (try k_data)
  rename IsRange _ _ _ _ _ _ _ _ => hr
  show wpAny _ _ _ _ _ _
  refine for_range_N (σ := Option Value) (x₀ := none) (n := vs.length + 1) updM (fun _ => _) (fun _ _ => True) rfl hr (by (first | lia | omega)) (by (first | lia | omega)) (by k_asm) (by k_asm) (fun p hp => hp) (updM_self rfl) trivial ?_ ?_
  · rintro i x h tk it oi tv hi hI9 F N hne
    show wpAny _ _ _ _ _ _
    (try k_fold)
    clear hI9
    rcases Nat.lt_or_ge i vs.length with hlt | hge
    · obtain ⟨tz, hx⟩ : ∃ t, vs[((i : Nat) : Int).toNat]? = some (Value.int 0 t) := by
        obtain ⟨t, e⟩ := hz _ (List.getElem_mem hlt)
        exact ⟨t, by rw [Int.toNat_natCast, List.getElem?_eq_getElem hlt, e]⟩
      dsimp only at F N
      show wpAny _ _ _ _ _ _
      (try k_fold)
      k_steps
      all_goals (try k_data)
      exact FEnd.next (some _) (by k_asm) (by k_asm) (by lcg_sub) (by lcg_sub) (fun p hp => hne p hp) (fun y hy => by
          unfold updM
          by_cases e : y = Str.ofString "is_one"
          · rw [if_pos e, if_pos e]
          · rw [if_neg e, if_neg e, if_neg hy, if_neg e]) trivial
    · dsimp only at F N
      show wpAny _ _ _ _ _ _
      (try k_fold)
      k_steps
      all_goals (try k_data)
      exact FEnd.next (some _) (by k_asm) (by k_asm) (by lcg_sub) (by lcg_sub) (fun p hp => hne p hp) (fun y hy => by
          unfold updM
          by_cases e : y = Str.ofString "is_one"
          · rw [if_pos e, if_pos e]
          · rw [if_neg e, if_neg e, if_neg hy, if_neg e]) trivial
  · intro x u h tk _ F N
    dsimp only at F N
    (try dsimp only)
    k_steps
    all_goals (try k_data)
    (try dsimp only)
    (try k_unfold)
    (try dsimp only)
    exact hret _ _ _ (fin0 (by k_asm) (by k_asm) (by (repeat (first | exact List.forall_mem_nil _ | refine List.forall_mem_cons.mpr ⟨by k_mem, ?_⟩))) (by (repeat (first | exact List.forall_mem_nil _ | refine List.forall_mem_cons.mpr ⟨by k_mem, ?_⟩))) (by (repeat (first | exact List.forall_mem_nil _ | refine List.forall_mem_cons.mpr ⟨?_, ?_⟩ | (refine neN ?_; (try dsimp only); (first | lia | omega))))) (by exact rfl) (⟨rfl, _, _, rfl, rfl⟩))
local macro_rules | `(tactic| walk_at "call ref") => callL "P" 242 "class_here_c" "uF uX P0" "" "dP zP"
set_option hygiene false in
local macro_rules | `(tactic| walk_at "P223") => `(tactic| (case P => intro H9 b9 b8; exact ⟨_, ⟨_, b8 (_, _) (by k_mem), rfl, _, rfl⟩, by assumption, by assumption⟩))
local macro_rules | `(tactic| walk_at "call ref") => callL "O" 223 "mark_runs_c a0" "aX uF uX P223" "_ d9 k9 e9 w8" "dS zO"
local macro_rules | `(tactic| walk_at "exec Assign cons ListComp") => `(tactic| walk_at "compA")
local macro_rules | `(tactic| walk_at "exec For Tuple Call cons nil") => `(tactic| walk_at "forT")
theorem order_row_c {w : World} {mean : ExcName → Option Value} {mg mb : Str → Option Value} {bf row nm : Addr} {is : List (Int × Int)} (hn : is.length ≤ 500) :
    Ctr w mean mg mb 20 200 (.ref 261) [.ref bf, .ref nm] [] (fun g => BufAt g bf row ∧ RowAt g row is ∧ NormAt w g nm)
      (fun r led' own => led' = [] ∧ own = [] ∧ r = .none) := by
  (k_dflt refine' Ctr.enterC ?k6 ?k7 ?k9 ?kB ?kD ?c2 ?c3 ?c4 ?_)
  case k6 => k_dflt k_is
  case k7 => k_dflt k_is
  case k9 => k_dflt (intro s9 X9; first | exact BindsTo.of_eq rfl | exact binds_K X9 rfl (by k_is) rfl rfl rfl)
  case kB => k_dflt exact rfl
  case kD => decide +kernel
  case c2 => exact rfl
  case c3 => exact rfl
  case c4 => exact rfl
  rintro dp un fr gd g L h₁ tk₁ s Q cells hdp hun F N Y hlL X T hP9 hret
  (try dsimp only)
  show wpAny _ _ _ _ _ _
  k_fold
  obtain ⟨⟨db, c1, c2, c3, c4, e1, e2, e3, e4, t3, t4, hbf, hdb⟩, ⟨vs, hl, hlen, hz⟩, hNm⟩ := hP9
  k_cells Y
  (try simp only [List.cons_append, List.nil_append] at N)
  (try dsimp only)
  show wpAny _ _ _ _ _ _
  (try k_fold)
  k_steps
  all_goals (try k_data)
  show LCg.CompSrc _ _ _ _ _ _ _ _ _ _ _ _ _ _
  refine LCg.CompSrc.base (its := List.toArray vs) (by rfl) (by k_asm) (by k_asm) hl (by rw [List.size_toArray, PySem.sizeLine_eq]; (first | lia | omega)) ?_
  intro g'
  refine compRest_S (σ := Unit) (a₀ := ()) (fun _ => _) (fun i ys _ => ys.length = i ∧ ∀ v ∈ ys, ∃ t, v = Value.int 0 t) rfl ⟨rfl, List.forall_mem_nil _⟩ ?_ ?_
  · rintro i v ys a Ia oI C oC D m₂ h tk E' hi hv hI9 hC hx F N off ne
    show wpAny _ _ _ _ _ _
    (try k_fold)
    obtain ⟨hy1, hy2⟩ := hI9
    obtain ⟨p, hp⟩ : ∃ p, is[i]? = some p := ⟨_, List.getElem?_eq_getElem (by rw [List.size_toArray] at hi; (first | lia | omega))⟩
    obtain ⟨x, hx2, hIx⟩ := hz i p hp
    have hv2 : v = .ref x := by
      have : (List.toArray vs)[i]? = vs[i]? := by simp
      rw [this, hx2] at hv
      exact (Option.some.inj hv).symm
    subst hv2
    show wpAny _ _ _ _ _ _
    (try k_fold)
    k_steps
    all_goals (try k_data)
    refine LCg.CompEnd.intro (by k_asm) (by k_asm) _ (fun p hp => hp) off (.inl hl) ⟨(), rfl, by rw [List.length_append, hy1]; rfl, fun z hz => ?_⟩
    rcases List.mem_append.mp hz with hz | hz
    · exact hy2 z hz
    · exact ⟨_, List.mem_singleton.mp hz⟩
  · intro ys a ⟨hy1, hy2⟩
    have hyl : ys.length = is.length := by rw [List.size_toArray] at hy1; (first | lia | omega)
    unfold LCg.FinA
    intro D h tk F N o1
    (try simp only [LCg.Off1, and_true] at o1)
    (try dsimp only)
    k_steps
    show wpAny _ _ _ _ _ _
    refine iter_listTurns (vs := []) rfl (by k_asm) (by k_asm) (by k_mem) rfl rfl (fun I hI => ItemsRest.zero fun h8 tk8 F8 N8 => ?_)
    (try dsimp only)
    k_steps
    all_goals (try k_data)
    (try dsimp only)
    (try k_unfold)
    (try dsimp only)
    exact hret _ _ _ (fin0 (by k_asm) (by k_asm) (by (repeat (first | exact List.forall_mem_nil _ | refine List.forall_mem_cons.mpr ⟨by k_mem, ?_⟩))) (by (repeat (first | exact List.forall_mem_nil _ | refine List.forall_mem_cons.mpr ⟨by k_mem, ?_⟩))) (by (repeat (first | exact List.forall_mem_nil _ | refine List.forall_mem_cons.mpr ⟨?_, ?_⟩ | (refine neN ?_; (try dsimp only); (first | lia | omega))))) (by exact rfl) (⟨rfl, rfl, rfl⟩))
end POrder
section PTake
theorem off_Take : True := by
  w_top off
  exact trivial
def Pieces (ks : List Int) (c : Int) (ps : List Int) : Prop :=
  (0 ≤ c ∧ c < 100000) ∧ ((((ks.any fun x => x == c) = true) ∧ ps = [c]) ∨
  (((ks.any fun x => x == c) = false) ∧ ∃ a b, ps = [a, b] ∧ 0 ≤ a ∧ a < 100000 ∧ hparts c = some (a, b) ∧ b ≠ 0 ∧ a ≠ c ∧ hparts a = none ∧ ((ks.any fun x => x == a) = true) ∧ ((ks.any fun x => x == b) = true)) ∨
  (((ks.any fun x => x == c) = false) ∧ ∃ a b l v, ps = [l, v, b] ∧ 0 ≤ a ∧ a < 100000 ∧ 0 ≤ l ∧ l < 100000 ∧ hparts c = some (a, b) ∧ b ≠ 0 ∧ a ≠ c ∧ hparts a = some (l, v) ∧ v ≠ 0 ∧ l ≠ c ∧ l ≠ a ∧ hparts l = none ∧ ((ks.any fun x => x == l) = true) ∧ ((ks.any fun x => x == v) = true) ∧ ((ks.any fun x => x == b) = true)))
theorem append_S {prog : Program} {w : World} {A : Around} {E : Value → Shared → Prop} {s : Shared} {h₀ : Heap} {L D : Addr} {m : Str → Option Value} {news news' : Led} {vs : List Value} {n : Nat} {x : Value} {Q : Value → Shared → Prop} (F : Fr h₀ L s.heap m) (N : News h₀ L s.heap news) (U : Upd D (listOf (List.toArray vs) n) (listOf (List.toArray (vs ++ [x])) (n + 1)) news news')
    (h : ∀ h', Fr h₀ L h' m → News h₀ L h' news' → Q .none { s with heap := h' }) (hsz : vs.length ≤ sizeLine) : wpAny (model prog w) A (call (.builtin "list.append") [.ref D, x]) Q E s :=
  append_K F N (by rw [List.push_toArray]; exact U) h (by rw [List.size_toArray]; exact hsz)
def updT (vi vr vc vp : Option Value) (m : Str → Option Value) : Str → Option Value := fun y =>
  if y = Str.ofString "info" then vi else if y = Str.ofString "row" then vr else if y = Str.ofString "code" then vc else if y = Str.ofString "part" then vp else m y
theorem updT_of {m m₀ : Str → Option Value} {vi vr vc vp : Option Value} (h1 : m (Str.ofString "info") = vi) (h2 : m (Str.ofString "row") = vr) (h3 : m (Str.ofString "code") = vc) (h4 : m (Str.ofString "part") = vp)
    (ho : ∀ y, y ≠ Str.ofString "info" → y ≠ Str.ofString "row" → y ≠ Str.ofString "code" → y ≠ Str.ofString "part" → m y = m₀ y) (y : Str) : m y = updT vi vr vc vp m₀ y := by
  unfold updT
  by_cases e1 : y = Str.ofString "info"
  · rw [if_pos e1, e1, h1]
  rw [if_neg e1]
  by_cases e2 : y = Str.ofString "row"
  · rw [if_pos e2, e2, h2]
  rw [if_neg e2]
  by_cases e3 : y = Str.ofString "code"
  · rw [if_pos e3, e3, h3]
  rw [if_neg e3]
  by_cases e4 : y = Str.ofString "part"
  · rw [if_pos e4, e4, h4]
  rw [if_neg e4]
  exact ho y e1 e2 e3 e4
theorem updT_self {m : Str → Option Value} {vi vr vc vp : Option Value} (h1 : m (Str.ofString "info") = vi) (h2 : m (Str.ofString "row") = vr) (h3 : m (Str.ofString "code") = vc) (h4 : m (Str.ofString "part") = vp) : updT vi vr vc vp m = m :=
  funext fun y => (updT_of h1 h2 h3 h4 (fun _ _ _ _ _ => rfl) y).symm
structure TS where
  fin : List Inf
  n : Nat
  vi : Option Value
  vr : Option Value
  vc : Option Value
  vp : Option Value
structure TI where
  fin : List Inf
  n : Nat
  vp : Option Value
theorem ne_mem {l : List (Addr × Obj)} {a : Addr} (h : ∀ p ∈ l, p.1 ≠ a) : a ∉ l.map (·.1) := fun hm => by
  obtain ⟨p, hp, e⟩ := List.mem_map.mp hm
  exact h p hp e
def updI (v : Option Value) (m : Str → Option Value) : Str → Option Value := fun y => if y = Str.ofString "part" then v else m y
theorem updI_self {m : Str → Option Value} {v : Option Value} (h : m (Str.ofString "part") = v) : updI v m = m := by
  funext y
  unfold updI
  by_cases e : y = Str.ofString "part"
  · rw [if_pos e, e, h]
  · rw [if_neg e]
theorem updI_of {m m₀ : Str → Option Value} {v : Option Value} (h : m (Str.ofString "part") = v) (ho : ∀ y, y ≠ Str.ofString "part" → m y = m₀ y) (y : Str) (_hy : y ≠ Str.ofString "code") : m y = updI v m₀ y := by
  unfold updI
  by_cases e : y = Str.ofString "part"
  · rw [if_pos e, e, h]
  · rw [if_neg e]; exact ho y e
local macro_rules | `(tactic| walk_at "exec For Name Call cons nil") => `(tactic| walk_at "forS")
local macro_rules | `(tactic| walk_at "exec For Name Name cons nil") => `(tactic| walk_at "forS")
local macro_rules | `(tactic| walk_at "call builtin:len") => `(tactic| walk_at "lenB")
local macro_rules | `(tactic| walk_at "subscriptTail") => `(tactic| walk_at "itemB")
local macro_rules | `(tactic| walk_at "call builtin:list.append") => `(tactic| walk_at "app")
local macro_rules | `(tactic| k_all) => `(tactic| assumption)
theorem StayP.keeps {w : World} {row nm cm : Addr} {k : Int} {n : Nat} {c : Int} {ks : List Int} {g H : Heap} (h : StayP w row nm cm k n c ks g) (b : ∀ b o, g.get? b = some o → H.get? b = some o) : StayP w row nm cm k n c ks H := by
  obtain ⟨h1, h2, vs, hl, hn, ⟨x, cl, hx, hI⟩, hy⟩ := h
  refine ⟨h1.keeps b, h2.keeps b, vs, base_list hl b, hn, ⟨x, cl, hx, hI.keeps b⟩, ?_⟩
  rcases hy with hy | ⟨y, c', cl', hy, hIy⟩
  · exact .inl hy
  · exact .inr ⟨y, c', cl', hy, hIy.keeps b⟩
local macro_rules | `(tactic| walk_at "call ref") => callL "P" 249 "stays_c n=vs.length c=q.code a0 a1 a2" "aX uF uX P0" "" "sR zP"
set_option hygiene false in
local macro_rules | `(tactic| walk_at "D42") => `(tactic| (obtain ⟨_, x9, dx9, o9, e9, w8, ⟨q9, e8, hc9, hk9⟩, n6⟩ := R9; subst e9; subst w8; subst e8))
local macro_rules | `(tactic| walk_at "call ref") => callL "O" 42 "copied_c" "uF uX P0" "" "D42 zO"
local macro_rules | `(tactic| walk_at "call ref") => callL "O" 216 "had_S_c a0 a1 a2 a3 a4 a5 a6 a7 a8 a9" "a4 aX uF uX P0" "_ lz pvs n5 e9 w8 hI" "dS zO"
local macro_rules | `(tactic| walk_at "call ref") => callL "O" 216 "had_C_c a0 a1 a2 a3 b0 b1 a4 a5 a6 a7 a8 a9 c0 c1 c2 c3 c4" "a4 a7 aX bX uF uX P0" "_ lz pvs n5 e9 w8 hI" "dS zO"
def RowV (g : Heap) (L : Addr) (m : Str → Option Value) (news : Led) (s : Shared) (xs : List Int) (a b c : Addr) (v : Value) (s' : Shared) : Prop :=
  ∃ lz pvs n h' tk', v = .ref lz ∧ s' = { s with heap := h', toks := tk' } ∧ Fr g L h' m ∧ News g L h' ((lz, listOf (List.toArray pvs) n) :: news) ∧ IntsAre pvs xs ∧ a ≠ lz ∧ b ≠ lz ∧ c ≠ lz
theorem RowV.mk {g : Heap} {L : Addr} {m : Str → Option Value} {news : Led} {s : Shared} {xs : List Int} {a b c lz : Addr} {pvs : List Value} {n : Nat} {h' : Heap} {tk' : Nat} (F : Fr g L h' m) (N : News g L h' ((lz, listOf (List.toArray pvs) n) :: news)) (hI : IntsAre pvs xs) (h1 : a ≠ lz) (h2 : b ≠ lz) (h3 : c ≠ lz) : RowV g L m news s xs a b c (.ref lz) { s with heap := h', toks := tk' } :=
  ⟨lz, pvs, n, h', tk', rfl, rfl, F, N, hI, h1, h2, h3⟩
theorem eval_row {M : Model} {A : Around} {e : PySem.Expr} {env : Env} {E : Value → Shared → Prop} {s : Shared} {g : Heap} {L : Addr} {m : Str → Option Value} {news : Led} {Q : Value → Shared → Prop} (_F : Fr g L s.heap m) (_N : News g L s.heap news) (xs : List Int) (a b c : Addr) (h1 : wpAny M A (eval e env) (RowV g L m news s xs a b c) E s)
    (h2 : ∀ lz pvs n h' tk', Fr g L h' m → News g L h' ((lz, listOf (List.toArray pvs) n) :: news) → IntsAre pvs xs → a ≠ lz → b ≠ lz → c ≠ lz → Q (.ref lz) { s with heap := h', toks := tk' }) : wpAny M A (eval e env) Q E s := by
  refine wpAny_mono h1 ?_ fun _ _ x => x
  rintro v s' ⟨lz, pvs, n, h', tk', rfl, rfl, F', N', hI, h1, h2', h3⟩
  exact h2 lz pvs n h' tk' F' N' hI h1 h2' h3
local macro_rules | `(tactic| walk_at "eval IfExp") => `(tactic| walk_at "stop")
theorem take_apart_c {w : World} {mean : ExcName → Option Value} {mg mb : Str → Option Value} {bf db row nm cm : Addr} {b1 b2 b3 b4 : Int} {k1 k2 k3 k4 t3 t4 : Tok} {is : List (Int × Int)} {ks : List Int} {pc : Int → List Int} (hlen : is.length ≤ 100) (hpc : ∀ p ∈ is, Pieces ks p.1 (pc p.1)) :
    Ctr w mean mg mb 30 300 (.ref 256) [.ref bf, .ref nm, .ref cm] [(db, bufD b1 b2 b3 b4 k1 k2 k3 k4 t3 t4 row)] (fun g => g.get? bf = some (instObj 105 db) ∧ RowAt g row is ∧ NormAt w g nm ∧ CharAt w g cm ks)
      (fun r led' own => r = .none ∧ ∃ row' n' fin, led' = [(db, bufD b1 b2 b3 b4 k1 k2 k3 k4 t3 t4 row')] ∧ own = (row', listOf (List.toArray (fin.map Inf.ref)) n') :: infosL fin ∧ fin.map Inf.cc = is.flatMap (fun p => (pc p.1).map fun c => (c, p.2)) ∧ (db :: row' :: (infosL fin).map (·.1)).Nodup) := by
  (k_dflt refine' Ctr.enter ?k6 ?k7 ?k9 ?kB ?c2 ?c3 ?c4 ?c5 ?_)
  case k6 => k_dflt k_is
  case k7 => k_dflt k_is
  case k9 => k_dflt (intro s9 X9; first | exact BindsTo.of_eq rfl | exact binds_K X9 rfl (by k_is) rfl rfl rfl)
  case c5 => decide
  case kB => k_dflt exact locs rfl
  case c2 => exact rfl
  case c3 => exact rfl
  case c4 => exact rfl
  rintro dp un fr gd g L h₁ tk₁ s Q hdp hun F N X T hP9 hret
  (try dsimp only)
  show wpAny _ _ _ _ _ _
  k_fold
  obtain ⟨hbf, ⟨vs, hl, hvl, hz⟩, hNm, hCm⟩ := hP9
  (try dsimp only)
  show wpAny _ _ _ _ _ _
  (try k_fold)
  k_steps
  all_goals (try k_data)
  rename IsRange _ _ _ _ _ _ _ _ => hr
  rename_i fd hA lA hB FA NA hC tA tB tC tD FB NB hK
  have hdf : db ≠ fd := Nat.ne_of_lt lA
  show wpAny _ _ _ _ _ _
  refine for_range_N (σ := TS) (x₀ := ⟨[], 0, none, none, none, none⟩) (n := vs.length) (fun x => updT x.vi x.vr x.vc x.vp) (fun x => (fd, listOf (List.toArray (x.fin.map Inf.ref)) x.n) :: (db, bufD b1 b2 b3 b4 k1 k2 k3 k4 t3 t4 row) :: infosL x.fin)
    (fun i x => x.fin.length ≤ 3 * i ∧ x.fin.map Inf.cc = (is.take i).flatMap (fun p => (pc p.1).map fun c => (c, p.2)) ∧ (db :: fd :: (infosL x.fin).map (·.1)).Nodup) rfl hr rfl (by (first | lia | omega)) (by k_asm) (by k_asm) (fun p hp => hp)
    (updT_self rfl rfl rfl rfl) ⟨Nat.le_refl _, rfl, List.nodup_cons.mpr ⟨fun h => hdf (List.mem_singleton.mp h), List.nodup_cons.mpr ⟨List.not_mem_nil, List.nodup_nil⟩⟩⟩ ?_ ?_
  · rintro i ⟨fin, n, vi, vr, vc, vp⟩ h tk it oi tv hi hI9 F N hne
    show wpAny _ _ _ _ _ _
    (try k_fold)
    obtain ⟨j1, j2, j3⟩ := hI9
    dsimp only at j1 j2 j3 F N hne
    obtain ⟨p, hp⟩ : ∃ p, is[i]? = some p := ⟨_, List.getElem?_eq_getElem (by (first | lia | omega))⟩
    obtain ⟨xi, hxi, dxi, q, hq1, hq2, hq3, hq4⟩ := hz i p hp
    have hx : vs[((i : Nat) : Int).toNat]? = some (.ref xi) := by rw [Int.toNat_natCast]; exact hxi
    have hSt : StayP w row nm cm (i : Nat) vs.length q.code ks g := by
      refine ⟨hNm, hCm, vs, hl, rfl, ⟨xi, q.cluster, hx, dxi, q, hq1, hq2, rfl, rfl⟩, ?_⟩
      by_cases hlast : i + 1 = vs.length
      · exact .inl (by (first | lia | omega))
      · obtain ⟨p2, hp2⟩ : ∃ p, is[i + 1]? = some p := ⟨_, List.getElem?_eq_getElem (by (first | lia | omega))⟩
        obtain ⟨y, hy, hIy⟩ := hz (i + 1) p2 hp2
        exact .inr ⟨y, _, _, by rw [show ((i : Nat) : Int) + 1 = ((i + 1 : Nat) : Int) by (first | lia | omega), Int.toNat_natCast]; exact hy, hIy⟩
    have hnd4 : (it :: db :: fd :: (infosL fin).map (·.1)).Nodup := by
      refine List.nodup_cons.mpr ⟨fun hm => ?_, j3⟩
      rcases List.mem_cons.mp hm with e | hm
      · exact hne (db, _) (.tail _ (.head _)) e.symm
      rcases List.mem_cons.mp hm with e | hm
      · exact hne (fd, _) (.head _) e.symm
      · obtain ⟨z, hz, e⟩ := List.mem_map.mp hm
        exact hne z (.tail _ (.tail _ hz)) e
    have hif : fd ≠ it := hne (fd, _) (.head _)
    have hid : db ≠ it := hne (db, _) (.tail _ (.head _))
    have hii : ∀ z ∈ infosL fin, z.1 ≠ it := fun z hz => hne z (.tail _ (.tail _ hz))
    obtain ⟨hcb, hP⟩ := hpc p (List.mem_of_getElem? hp)
    have hp3 : (pc q.code).length ≤ 3 := by
      rw [hq3]
      obtain ⟨-, e⟩ | ⟨-, a, b, e, -⟩ | ⟨-, a, b, l, v, e, -⟩ := hP <;> rw [e] <;> exact Nat.le_of_ble_eq_true rfl
    show wpAny _ _ _ _ _ _
    (try k_fold)
    k_steps
    all_goals (try k_data)
    rename Fr g _ _ _ => FA
    rename News g _ _ _ => NA
    show wpAny _ _ _ _ _ _
    refine eval_row FA NA (pc q.code) it fd db ?_ ?_
    · rcases hP with ⟨hk, hps⟩ | ⟨hk, a, b, hps, ha0, ha1, hpp, hb, hac, hp2, ka, kb⟩ | ⟨hk, a, b, l, v, hps, ha0, ha1, hl0, hl1, hpp, hb, hac, hp2, hv, hlc, hla, hp3, kl, kv, kb⟩
      · rw [← hq3] at hk hps
        refine wpAny_IfExp ?_
        show wpAny _ _ _ _ _ _
        (try k_fold)
        k_steps
        all_goals (try k_data)
        rename Fr g _ _ _ => Fz
        rename News g _ _ _ => Nz
        have hI := IntsAre.cons q.code q.v0 .nil
        rw [← hps] at hI
        (try k_unfold)
        exact RowV.mk Fz Nz hI (by first | k_ne | (refine neN ?_; (try dsimp only); (first | lia | omega))) (by first | k_ne | (refine neN ?_; (try dsimp only); (first | lia | omega))) (by first | k_ne | (refine neN ?_; (try dsimp only); (first | lia | omega)))
      · rw [← hq3] at hk hps hac hpp
        rw [← hq3] at hcb
        obtain ⟨hcb0, hcb1⟩ := hcb
        refine wpAny_IfExp ?_
        show wpAny _ _ _ _ _ _
        (try k_fold)
        k_steps
        all_goals (try k_data)
        rename Fr g _ _ _ => Fz
        rename News g _ _ _ => Nz
        rw [← hps] at hI
        (try k_unfold)
        exact RowV.mk Fz Nz hI (by first | k_ne | (refine neN ?_; (try dsimp only); (first | lia | omega))) (by first | k_ne | (refine neN ?_; (try dsimp only); (first | lia | omega))) (by first | k_ne | (refine neN ?_; (try dsimp only); (first | lia | omega)))
      · rw [← hq3] at hk hps hac hpp hlc
        rw [← hq3] at hcb
        obtain ⟨hcb0, hcb1⟩ := hcb
        refine wpAny_IfExp ?_
        show wpAny _ _ _ _ _ _
        (try k_fold)
        k_steps
        all_goals (try k_data)
        rename Fr g _ _ _ => Fz
        rename News g _ _ _ => Nz
        rw [← hps] at hI
        (try k_unfold)
        exact RowV.mk Fz Nz hI (by first | k_ne | (refine neN ?_; (try dsimp only); (first | lia | omega))) (by first | k_ne | (refine neN ?_; (try dsimp only); (first | lia | omega))) (by first | k_ne | (refine neN ?_; (try dsimp only); (first | lia | omega)))
    · intro lz pvs n5 h5 tk5 FA1 NA1 hI hz1 hz2 hz3
      clear hP
      (try dsimp only)
      show wpAny _ _ _ _ _ _
      k_steps
      all_goals (try k_data)
      show wpAny _ _ _ _ _ _
      refine for_list_S (σ := TI) (x₀ := ⟨fin, n, _⟩) (its := List.toArray pvs) (fun y => updI y.vp) (fun y => (it, oi) :: (fd, listOf (List.toArray (y.fin.map Inf.ref)) y.n) :: (db, bufD b1 b2 b3 b4 k1 k2 k3 k4 t3 t4 row) :: infosL y.fin) (fun i2 y => y.fin.length = fin.length + i2 ∧ y.fin.map Inf.cc = fin.map Inf.cc ++ ((pc q.code).take i2).map (fun c => (c, q.cluster)) ∧ (it :: db :: fd :: (infosL y.fin).map (·.1)).Nodup) rfl (by k_asm) (by k_asm) (by k_mem) (fun p hp => .tail _ hp) (updI_self rfl) ⟨rfl, by rw [List.take_zero, List.map_nil, List.append_nil], hnd4⟩ ?_ ?_
      · rintro i2 v ⟨fin2, n2, vp2⟩ h2 tk2 it2 oi2 hv hI9 F N hne1 hne2
        show wpAny _ _ _ _ _ _
        (try k_fold)
        obtain ⟨c1, c2, c3⟩ := hI9
        dsimp only at c1 c2 c3 F N hne2
        obtain ⟨c, tc, e5, hc⟩ := IntsAre.at hI i2 v (by simpa using hv)
        subst e5
        have hi2 : i2 < 3 := by have := (List.getElem?_eq_some_iff.mp hc).1; (first | lia | omega)
        have c4 := c3
        simp only [List.nodup_cons, List.mem_cons, not_or] at c4
        obtain ⟨⟨w1, w2, w3⟩, ⟨v1, v2⟩, u1, u2⟩ := c4
        have w3' := mem_ne w3
        have v2' := mem_ne v2
        have u1' := mem_ne u1
        have y1 : it ≠ it2 := hne2 (it, _) (.head _)
        have y2 : fd ≠ it2 := hne2 (fd, _) (.tail _ (.head _))
        have y3 : db ≠ it2 := hne2 (db, _) (.tail _ (.tail _ (.head _)))
        show wpAny _ _ _ _ _ _
        (try k_fold)
        k_steps
        all_goals (try k_data)
        rename Fr g _ _ _ => Fz
        rename News g _ _ _ => Nz
        obtain ⟨qz, hqz, hqc, hqk⟩ := info_mem (dx := dx9) Nz (by k_mem)
        have hqk2 : qz.cluster = q.cluster := hqk.trans hk9
        exact FEnd.next ⟨fin2 ++ [(⟨x9, dx9, qz⟩ : Inf)], n2 + 1, _⟩ Fz Nz (by lcg_sub) (fun z hz => by
            rcases List.mem_cons.mp hz with e | hz
            · rw [e]; k_mem
            rcases List.mem_cons.mp hz with e | hz
            · rw [e]; show (fd, listOf (List.toArray (List.map Inf.ref (fin2 ++ [(⟨x9, dx9, qz⟩ : Inf)]))) (n2 + 1)) ∈ _; rw [List.map_append]; k_mem
            rcases List.mem_cons.mp hz with e | hz
            · rw [e]; k_mem
            have hz : z ∈ infosL (fin2 ++ [(⟨x9, dx9, qz⟩ : Inf)]) := hz
            rw [infosL_append] at hz
            rcases List.mem_append.mp hz with hz | hz
            · exact .tail _ (.tail _ (.tail _ (.tail _ (.tail _ (.tail _ (.tail _ hz))))))
            rcases List.mem_cons.mp hz with e | hz
            · rw [e]; k_mem
            rw [List.mem_singleton.mp hz]; exact hqz)
          (fun z hz => by
            rcases List.mem_cons.mp hz with e | hz
            · rw [e]; exact y1
            rcases List.mem_cons.mp hz with e | hz
            · rw [e]; exact y2
            rcases List.mem_cons.mp hz with e | hz
            · rw [e]; exact y3
            have hz : z ∈ infosL (fin2 ++ [(⟨x9, dx9, qz⟩ : Inf)]) := hz
            rw [infosL_append] at hz
            rcases List.mem_append.mp hz with hz | hz
            · exact hne2 z (.tail _ (.tail _ (.tail _ hz)))
            rcases List.mem_cons.mp hz with e | hz
            · rw [e]; show x9 ≠ it2; k_ne
            · rw [List.mem_singleton.mp hz]; show dx9 ≠ it2; k_ne)
          (fun y hy => by
            unfold updI
            by_cases e : y = Str.ofString "part"
            · rw [if_pos e, if_pos e]
            · simp only [if_neg e, if_neg hy])
          ⟨by show (fin2 ++ [(⟨x9, dx9, qz⟩ : Inf)]).length = _; rw [List.length_append, c1]; rfl,
            by show (fin2 ++ [(⟨x9, dx9, qz⟩ : Inf)]).map Inf.cc = _; rw [List.map_append, c2, List.append_assoc, List.take_add_one, hc, List.map_append]; show _ ++ (_ ++ [(qz.code, qz.cluster)]) = _; rw [hqc, hqk2]; rfl,
            by
              show (it :: db :: fd :: (infosL (fin2 ++ [(⟨x9, dx9, qz⟩ : Inf)])).map (·.1)).Nodup
              have hpm : (it :: db :: fd :: (infosL (fin2 ++ [(⟨x9, dx9, qz⟩ : Inf)])).map (·.1)).Perm (x9 :: dx9 :: it :: db :: fd :: (infosL fin2).map (·.1)) := by
                rw [infosL_append, List.map_append]
                exact (List.perm_append_comm (l₁ := it :: db :: fd :: (infosL fin2).map (·.1)) (l₂ := [x9, dx9]))
              refine hpm.nodup_iff.mpr (List.nodup_cons.mpr ⟨?_, List.nodup_cons.mpr ⟨?_, c3⟩⟩)
              · simp only [List.mem_cons, not_or]
                exact ⟨n6, by k_ne, by k_ne, by k_ne, ne_mem (by assumption)⟩
              · simp only [List.mem_cons, not_or]
                exact ⟨by k_ne, by k_ne, by k_ne, ne_mem (by assumption)⟩⟩
      · rintro ⟨fin2, n2, vp2⟩ u h2 tk2 ⟨c1, c2, c3⟩ F N
        dsimp only at c1 c2 c3 F N
        (try dsimp only)
        k_steps
        all_goals (try k_data)
        rename Fr g _ _ _ => Fz
        rename News g _ _ _ => Nz
        have hsz : (List.toArray pvs).size = (pc q.code).length := by rw [List.size_toArray]; exact IntsAre.length hI
        rw [hsz] at c1 c2
        rw [List.take_of_length_le (Nat.le_refl _)] at c2
        simp only [List.nodup_cons, List.mem_cons, not_or] at c3
        obtain ⟨⟨w1, w2, w3⟩, ⟨v1, v2⟩, u1, u2⟩ := c3
        exact FEnd.next ⟨fin2, n2, some (.ref xi), some _, u, vp2⟩ Fz Nz (by lcg_sub) (fun z hz => .tail _ hz) (fun z hz => by
            rcases List.mem_cons.mp hz with e | hz
            · rw [e]; exact Ne.symm w2
            rcases List.mem_cons.mp hz with e | hz
            · rw [e]; exact Ne.symm w1
            · exact mem_ne w3 z hz)
          (fun y hy => by
            unfold updI updT
            by_cases e1 : y = Str.ofString "info"
            · rw [e1]; rfl
            by_cases e2 : y = Str.ofString "row"
            · rw [e2]; rfl
            by_cases e3 : y = Str.ofString "code"
            · rw [e3]; rfl
            by_cases e4 : y = Str.ofString "part"
            · rw [e4]; rfl
            simp only [if_neg e1, if_neg e2, if_neg e3, if_neg e4, if_neg hy])
          ⟨by show fin2.length ≤ 3 * (i + 1); (first | lia | omega), by show fin2.map Inf.cc = _; rw [c2, j2, List.take_add_one, hp, List.flatMap_append, hq3, hq4]; show _ = _ ++ ((pc p.1).map (fun c => (c, p.2)) ++ []); rw [List.append_nil], List.nodup_cons.mpr ⟨by simp only [List.mem_cons, not_or]; exact ⟨v1, v2⟩, List.nodup_cons.mpr ⟨u1, u2⟩⟩⟩
  · rintro ⟨fin, n, vi, vr, vc, vp⟩ u h tk ⟨j1, j2, j3⟩ F N
    dsimp only at j1 j2 j3 F N
    have j4 := j3
    simp only [List.nodup_cons, List.mem_cons, not_or] at j4
    obtain ⟨⟨v1, v2⟩, u1, u2⟩ := j4
    have v2' := mem_ne v2
    have u1' := mem_ne u1
    (try dsimp only)
    k_steps
    all_goals (try k_data)
    rw [List.take_of_length_le (by (first | lia | omega))] at j2
    exact hret .none _ _ (fin0 (by k_asm) (by k_asm) (led' := [(db, bufD b1 b2 b3 b4 k1 k2 k3 k4 t3 t4 fd)]) (by lcg_sub) (own := (fd, listOf (List.toArray (fin.map Inf.ref)) n) :: infosL fin) (fun p hp => by
        rcases List.mem_cons.mp hp with e | hp
        · rw [e]; k_mem
        · exact .tail _ (.tail _ hp)) (fun p hp q hq => by
        rw [List.mem_singleton.mp hq]
        rcases List.mem_cons.mp hp with e | hp
        · rw [e]; exact Ne.symm v1
        · exact v2' p hp) rfl ⟨rfl, fd, n, fin, rfl, rfl, j2, j3⟩)
end PTake
section PNormD
theorem off_NormD : True := by
  w_top off
  exact trivial
theorem Ctr2.useW {w : World} {mean : ExcName → Option Value} {mg mb : Str → Option Value} {D U : Nat} {f : Value} {args : List Value} {led : Led} {P : Heap → Prop} {Post : Value → Led → Led → Prop}
    (c : Ctr2 w mean mg mb D U f args led P Post) {A : Around} {g : Heap} {L : Addr} {m : Str → Option Value} {news : Led} {s : Shared} {Q E : Value → Shared → Prop}
    (F : Fr g L s.heap m) (N : News g L s.heap news) (X : (hd.heap_1 w.params).In g) (T : Top hd.view_39 (looseW hd.view_39 [Str.ofString "buffer_of"]) mean mg mb g)
    (hA : A.handled = none) (hdp : A.depth + D < recursionLimit) (hun : A.units + U < cLine) (hled : ∀ p ∈ led, p ∈ news) (hP : ∀ H : Heap, (∀ b o, g.get? b = some o → H.get? b = some o) → P H)
    (k : ∀ r h' tk' led' own, Fr g L h' m → News g L h' (led' ++ own) → Post r led' own → Q r { s with heap := h', toks := tk' }) :
    wpAny (model PySem.Challenge.rw_pb0193_01.row.prog w) A (call f args) Q E s :=
  c.use F N X T hA hdp hun hled (fun H b _ => hP H b) fun r h' tk' led' own F' _ _ Nl No _ hp => k r h' tk' led' own F' (fun p hm => (List.mem_append.mp hm).elim (Nl p) (No p)) hp
theorem pieces_len {ks : List Int} {pc : Int → List Int} : ∀ {is : List (Int × Int)}, (∀ p ∈ is, Pieces ks p.1 (pc p.1)) → (is.flatMap (fun p => (pc p.1).map fun c => (c, p.2))).length ≤ 3 * is.length
  | [], _ => Nat.zero_le _
  | p :: r, h => by
    have h1 : (pc p.1).length ≤ 3 := by
      obtain ⟨-, ⟨-, e⟩ | ⟨-, a, b, e, -⟩ | ⟨-, a, b, l, v, e, -⟩⟩ := h p (.head _) <;> rw [e] <;> exact Nat.le_of_ble_eq_true rfl
    have h2 := pieces_len (is := r) fun q hq => h q (.tail _ hq)
    rw [List.flatMap_cons, List.length_append, List.length_map, List.length_cons]
    (first | lia | omega)
set_option hygiene false in
local macro_rules | `(tactic| walk_at "P256") => `(tactic| (case P => intro H9 b9 b8; exact ⟨b9 _ _ (by assumption), RowAt.keeps (by assumption) b9, NormAt.keeps (by assumption) b9, CharAt.keeps (by assumption) b9⟩))
local macro_rules | `(tactic| walk_at "call ref") => callL "1" 256 "take_apart_c is=is ks=ks pc=pc a0 a1" "uF P256 uU aX uX" "w8 rw9 n8 fin9 l9 e9 hf9 hn9" "sW sE dI zO"
theorem normalise_c {w : World} {mean : ExcName → Option Value} {mg mb : Str → Option Value} {bf db row nm cm : Addr} {b1 b2 b3 b4 : Int} {k1 k2 k3 k4 t3 t4 : Tok} {is : List (Int × Int)} {ks : List Int} {pc : Int → List Int} (hlen : is.length ≤ 100) (hpc : ∀ p ∈ is, Pieces ks p.1 (pc p.1))
    (hok : PutOk (is.flatMap (fun p => (pc p.1).map fun c => (c, p.2))) 0) :
    Ctr w mean mg mb 60 600 (.ref 282) [.ref bf, .ref nm, .ref cm] [(db, bufD b1 b2 b3 b4 k1 k2 k3 k4 t3 t4 row)] (fun g => g.get? bf = some (instObj 105 db) ∧ RowAt g row is ∧ NormAt w g nm ∧ CharAt w g cm ks)
      (fun r led' own => r = .none ∧ ∃ row' n' fin, led' = [(db, bufD b1 b2 b3 b4 k1 k2 k3 k4 t3 t4 row')] ∧ own = (row', listOf (List.toArray (fin.map Inf.ref)) n') :: infosL fin ∧ fin.map Inf.cc = putAll ks (is.flatMap (fun p => (pc p.1).map fun c => (c, p.2)))) := by
  (k_dflt refine' Ctr.enter ?k6 ?k7 ?k9 ?kB ?c2 ?c3 ?c4 ?c5 ?_)
  case k6 => k_dflt k_is
  case k7 => k_dflt k_is
  case k9 => k_dflt (intro s9 X9; first | exact BindsTo.of_eq rfl | exact binds_K X9 rfl (by k_is) rfl rfl rfl)
  case c5 => decide
  case kB => k_dflt exact locs rfl
  case c2 => exact rfl
  case c3 => exact rfl
  case c4 => exact rfl
  rintro dp un fr gd g L h₁ tk₁ s Q hdp hun F N X T hP9 hret
  (try dsimp only)
  show wpAny _ _ _ _ _ _
  k_fold
  obtain ⟨hbf, hRow, hNm, hCm⟩ := hP9
  (try dsimp only)
  show wpAny _ _ _ _ _ _
  (try k_fold)
  k_steps
  all_goals (try k_data)
  rename News g L _ _ => N9
  rename Fr g L _ _ => F9
  have hfl : (fin9.map Inf.cc).length ≤ 300 := by rw [hf9]; exact Nat.le_trans (pieces_len hpc) (by (first | lia | omega))
  refine Ctr.useP (order_row_c (row := rw9) (is := fin9.map Inf.cc) (by (first | lia | omega))) F9 (news := (db, bufD b1 b2 b3 b4 k1 k2 k3 k4 t3 t4 rw9) :: (rw9, listOf (List.toArray (fin9.map Inf.ref)) _) :: infosL fin9) (fun p hp => N9 p (by
      rcases List.mem_cons.mp hp with e | hp
      · rw [e]; exact .tail _ (List.mem_append_right _ (.head _))
      rcases List.mem_cons.mp hp with e | hp
      · rw [e]; exact .head _
      · exact .tail _ (List.mem_append_left _ hp))) X T rfl (by walk_at "c_room") (by walk_at "c_room") (fun H b9 b8 => ⟨⟨db, b1, b2, b3, b4, k1, k2, k3, k4, t3, t4, b9 _ _ hbf, b8 (_, _) (.head _)⟩, row_led (b8 (_, _) (.tail _ (.head _))) (fun p hp => b8 p (.tail _ (.tail _ hp))), hNm.keeps b9⟩) ?_
  rintro r h2 tk2 hr F2 N2
  clear N9 F9
  subst hr
  (try dsimp only)
  k_steps
  have hnd2 : (db :: (infosL fin9).map (·.1)).Nodup := by
    obtain ⟨a1, a2⟩ := List.nodup_cons.mp hn9
    exact List.nodup_cons.mpr ⟨fun h => a1 (.tail _ h), (List.nodup_cons.mp a2).2⟩
  refine Ctr2.useW (put_c (is := fin9) (ks := ks) (by rw [List.length_map] at hfl; (first | lia | omega)) (by rw [hf9]; exact hok) hnd2) F2 N2 X T rfl (by walk_at "c_room") (by walk_at "c_room") (fun p hp => hp) (fun H b9 => ⟨b9 _ _ hbf, hNm.keeps b9, hCm.keeps b9⟩) ?_
  rintro r h3 tk3 led' own F3 N3 ⟨rfl, row', n', fin, m1, m2, m3, hcc, hnd3⟩
  (try dsimp only)
  k_steps
  all_goals (try k_data)
  have hdm : (db, bufD b1 b2 b3 b4 k1 k2 k3 k4 t3 t4 row') ∈ led' ++ own := List.mem_append_left _ m1
  have hrm : (row', listOf (List.toArray (fin.map Inf.ref)) n') ∈ led' ++ own := m2.elim (List.mem_append_left _) (List.mem_append_right _)
  rw [hf9] at hcc
  exact hret .none _ _ (fin0 (led' := [(db, bufD b1 b2 b3 b4 k1 k2 k3 k4 t3 t4 row')]) (own := (row', listOf (List.toArray (fin.map Inf.ref)) n') :: infosL fin) F3 N3 (fun p hp => by rw [List.mem_singleton.mp hp]; exact hdm) (fun p hp => by
      rcases List.mem_cons.mp hp with e | hp
      · rw [e]; exact hrm
      · exact List.mem_append_left _ (m3 p hp))
    (fun p hp q hq => by
      rw [List.mem_singleton.mp hq]
      rcases List.mem_cons.mp hp with e | hp
      · rw [e]; exact news_ne N3 hrm hdm (by show Value.type "list" ≠ Value.type "dict"; decide)
      · intro e
        exact (List.nodup_cons.mp hnd3).1 (by have e2 : p.1 = db := e; rw [← e2]; exact List.mem_map_of_mem hp)) rfl ⟨rfl, row', n', fin, rfl, rfl, hcc⟩)
end PNormD
section PBufOf
theorem off_BufOf : True := by
  w_top off
  exact trivial
def cc0 (cs : List Int) : List (Int × Int) := cs.zipIdx.map fun p => (p.1, (p.2 : Int))
theorem buf_init_c {w : World} {mean : ExcName → Option Value} {mg mb : Str → Option Value} {x dx row : Addr} (hx : @LT.lt Nat _ dx x) :
    Ctr w mean mg mb 5 50 (.ref 71) [.ref x, .ref row, .bool false] [(x, instObj 105 dx), (dx, dictOf [] 0)] (fun _ => True)
      (fun r led' own => own = [] ∧ r = .none ∧ ∃ b1 b2 b3 b4 k1 k2 k3 k4 t3 t4, led' = [(x, instObj 105 dx), (dx, bufD b1 b2 b3 b4 k1 k2 k3 k4 t3 t4 row)]) := by
  (k_dflt refine' Ctr.enter ?k6 ?k7 ?k9 ?kB ?c2 ?c3 ?c4 ?c5 ?_)
  case k6 => k_dflt k_is
  case k7 => k_dflt k_is
  case k9 => k_dflt (intro s9 X9; first | exact BindsTo.of_eq rfl | exact binds_K X9 rfl (by k_is) rfl rfl rfl)
  case c5 => decide
  case kB => k_dflt exact locs rfl
  case c2 => exact rfl
  case c3 => exact rfl
  case c4 => exact rfl
  rintro dp un fr gd g L h₁ tk₁ s Q hdp hun F N X T _ hret
  (try dsimp only)
  (try k_fold)
  k_steps
  all_goals (try k_data)
  all_goals (
    (try dsimp only)
    (try k_unfold)
    (try dsimp only)
    exact hret _ _ _ (fin0 (by k_asm) (by k_asm) (by (repeat (first | exact List.forall_mem_nil _ | refine List.forall_mem_cons.mpr ⟨by k_mem, ?_⟩))) (by (repeat (first | exact List.forall_mem_nil _ | refine List.forall_mem_cons.mpr ⟨by k_mem, ?_⟩))) (by (repeat (first | exact List.forall_mem_nil _ | refine List.forall_mem_cons.mpr ⟨?_, ?_⟩ | (refine neN ?_; (try dsimp only); (first | lia | omega))))) (by exact rfl) (⟨rfl, rfl, _, _, _, _, _, _, _, _, _, _, rfl⟩)))
theorem buf_new {w : World} {mean : ExcName → Option Value} {mg mb : Str → Option Value} {A : Around} {g : Heap} {L : Addr} {m : Str → Option Value} {news : Led} {s : Shared} {Q E : Value → Shared → Prop} {row : Addr}
    (F : Fr g L s.heap m) (N : News g L s.heap news) (X : (hd.heap_1 w.params).In g) (T : Top hd.view_39 (looseW hd.view_39 [Str.ofString "buffer_of"]) mean mg mb g)
    (hA : A.handled = none) (hdp : A.depth + 10 < recursionLimit) (hun : A.units + 80 < cLine)
    (h : ∀ x dx h' tk' b1 b2 b3 b4 k1 k2 k3 k4 t3 t4, Fr g L h' m → News g L h' ((x, instObj 105 dx) :: (dx, bufD b1 b2 b3 b4 k1 k2 k3 k4 t3 t4 row) :: news) → (∀ p ∈ news, p.1 < dx) → @LT.lt Nat _ dx x → Q (.ref x) { s with heap := h', toks := tk' }) :
    wpAny (model PySem.Challenge.rw_pb0193_01.row.prog w) A (call (.ref 105) [.ref row, .bool false] []) Q E s := by
  k_dflt (refine' call_cls F X N ?k4 ?k5 ?k6 ?_; (case k4 => k_is); (case k5 => k_is); (case k6 => k_is))
  intro x dx h' F' N' l1 l2
  refine (buf_init_c (row := row) l2).useC F' N' X T hA (by show A.depth + 1 + 5 < _; (first | lia | omega)) (by show A.units + 1 + 50 < _; (first | lia | omega)) (by simp) (fun _ _ _ => trivial) ?_
  rintro r h2 tk' led' own F2 hl hk Nl No hne ⟨rfl, rfl, b1, b2, b3, b4, k1, k2, k3, k4, t3, t4, rfl⟩
  refine ⟨rfl, h x dx h2 tk' b1 b2 b3 b4 k1 k2 k3 k4 t3 t4 F2 (fun p hp => ?_) l1 l2⟩
  rcases List.mem_cons.mp hp with rfl | hp
  · exact Nl _ (.head _)
  · rcases List.mem_cons.mp hp with rfl | hp
    · exact Nl _ (.tail _ (.head _))
    · have q1 := l1 p hp
      refine hk p (.tail _ (.tail _ hp)) (fun z => ?_)
      rcases List.mem_cons.mp z with z | z
      · exact absurd z (Nat.ne_of_lt (Nat.lt_trans q1 l2))
      · exact absurd (List.mem_singleton.mp z) (Nat.ne_of_lt q1)
local macro_rules | `(tactic| walk_at "call ref") => refL "105" "buf_new" "kasm kasm kasm kasm rfl c_room c_room ?" "x9 d9 h9 tk9 b1 b2 b3 b4 k1 k2 k3 k4 t3 t4 F9 N9 l9 m9"
local macro_rules | `(tactic| walk_at "call ref") => `(tactic| walk_at "infoN")
local macro_rules | `(tactic| walk_at "eval ListComp") => `(tactic| walk_at "compL")
local macro_rules | `(tactic| walk_at "call builtin:len") => `(tactic| walk_at "lenB")
local macro_rules | `(tactic| walk_at "subscriptTail") => `(tactic| walk_at "itemB")
theorem buffer_of_c {w : World} {mean : ExcName → Option Value} {mg mb : Str → Option Value} {c : Addr} {cs : List Int} (hlen : cs.length ≤ 100) :
    Ctr w mean mg mb 30 300 (.ref 115) [.ref c] [] (fun g => ∃ vs, g.IsList c (List.toArray vs) ∧ IntsAre vs cs)
      (fun r led' own => led' = [] ∧ ∃ bf db row b1 b2 b3 b4 k1 k2 k3 k4 t3 t4 n is, r = .ref bf ∧ own = (bf, instObj 105 db) :: (db, bufD b1 b2 b3 b4 k1 k2 k3 k4 t3 t4 row) :: (row, listOf (List.toArray (is.map Inf.ref)) n) :: infosL is ∧ is.map Inf.cc = cc0 cs ∧ @Ne Nat bf db ∧ ∀ p ∈ (row, listOf (List.toArray (is.map Inf.ref)) n) :: infosL is, p.1 ≠ db) := by
  (k_dflt refine' Ctr.enterC ?k6 ?k7 ?k9 ?kB ?kD ?c2 ?c3 ?c4 ?_)
  case k6 => k_dflt k_is
  case k7 => k_dflt k_is
  case k9 => k_dflt (intro s9 X9; first | exact BindsTo.of_eq rfl | exact binds_K X9 rfl (by k_is) rfl rfl rfl)
  case kB => k_dflt exact rfl
  case kD => decide +kernel
  case c2 => exact rfl
  case c3 => exact rfl
  case c4 => exact rfl
  rintro dp un fr gd g L h₁ tk₁ s Q cells hdp hun F N Y hlL X T hP9 hret
  (try dsimp only)
  show wpAny _ _ _ _ _ _
  k_fold
  obtain ⟨vs, hl, hI⟩ := hP9
  have hvl : vs.length = cs.length := IntsAre.length hI
  k_cells Y
  (try simp only [List.cons_append, List.nil_append] at N)
  (try dsimp only)
  show wpAny _ _ _ _ _ _
  (try k_fold)
  k_steps
  all_goals (try k_data)
  rename IsRange _ _ _ _ _ _ _ _ => hr
  show LCg.CompSrc _ _ _ _ _ _ _ _ _ _ _ _ _ _
  refine LCg.CompSrc.range (n := cs.length) (by rfl) (by k_asm) (by k_asm) hr (small_one (by decide) (by decide) (by (first | lia | omega)) (by (first | lia | omega))) (by rw [rangeSize_one]; split <;> (first | lia | omega)) (by rw [PySem.sizeLine_eq]; (first | lia | omega)) ?_
  intro g'
  refine compRest_S (σ := List Inf) (a₀ := []) (fun fin => (L + 1, _) :: infosL fin) (fun i ys fin => ys = fin.map Inf.ref ∧ fin.map Inf.cc = (cc0 cs).take i) rfl ⟨rfl, rfl⟩ ?_ ?_
  · rintro i v ys fin Ia oI C oC D m₂ h tk E' hi ⟨tv, rfl⟩ hI9 hC hx F N off ne
    show wpAny _ _ _ _ _ _
    (try k_fold)
    obtain ⟨rfl, hy2⟩ := hI9
    obtain ⟨ci, hci⟩ : ∃ c, cs[i]? = some c := ⟨_, List.getElem?_eq_getElem hi⟩
    rename IntsAre _ _ => hI
    obtain ⟨tc, hx2⟩ : ∃ t, vs[i]? = some (Value.int ci t) := by
      have h1 : vs[i]? = some (vs[i]'(by rw [IntsAre.length hI]; exact hi)) := List.getElem?_eq_getElem _
      obtain ⟨n2, t, e5, hc5⟩ := IntsAre.at hI i _ h1
      rw [hci] at hc5
      cases hc5
      exact ⟨t, by rw [h1, e5]⟩
    have hx3 : vs[(0 + ((i : Nat) : Int)).toNat]? = some (Value.int ci tc) := by rw [Int.zero_add, Int.toNat_natCast]; exact hx2
    show wpAny _ _ _ _ _ _
    (try k_fold)
    k_steps
    all_goals (try k_data)
    have ec : (⟨x9, d9, q9⟩ : Inf).cc = (ci, (i : Int)) := by
      show (q9.code, q9.cluster) = _
      rw [c9, e9, Int.zero_add, Int.toNat_natCast, List.getD_eq_getElem?_getD, hci]; rfl
    refine LCg.CompEnd.intro F9 N9 ((L + 1, _) :: infosL (fin ++ [(⟨x9, d9, q9⟩ : Inf)])) (fun p hp => ?_) (LCg.Off3.of fun p hp => ?_) trivial ⟨fin ++ [(⟨x9, d9, q9⟩ : Inf)], rfl, by rw [List.map_append]; rfl, ?_⟩
    · rcases List.mem_cons.mp hp with e | hp
      · rw [e]; k_mem
      rcases List.mem_cons.mp hp with e | hp
      · rw [e]; k_mem
      rcases List.mem_cons.mp hp with e | hp
      · rw [e]; k_mem
      rcases List.mem_cons.mp hp with e | hp
      · rw [e]; k_mem
      rw [infosL_append] at hp
      rcases List.mem_append.mp hp with hp | hp
      · exact .tail _ (.tail _ (.tail _ (.tail _ (.tail _ (.tail _ hp)))))
      rcases List.mem_cons.mp hp with e | hp
      · rw [e]; k_mem
      · rw [List.mem_singleton.mp hp]; k_mem
    · rcases List.mem_cons.mp hp with e | hp
      · rw [e]; exact LCg.Off3.mem off _ (.head _)
      rw [infosL_append] at hp
      rcases List.mem_append.mp hp with hp | hp
      · exact LCg.Off3.mem off _ (.tail _ hp)
      obtain ⟨l1, l2, l3, l4⟩ := l9
      rcases List.mem_cons.mp hp with e | hp
      · rw [e]; exact ⟨Ne.symm (Nat.ne_of_lt (Nat.lt_trans l1 m9)), Ne.symm (Nat.ne_of_lt (Nat.lt_trans l2 m9)), Ne.symm (Nat.ne_of_lt (Nat.lt_trans l3 m9))⟩
      · rw [List.mem_singleton.mp hp]; exact ⟨Ne.symm (Nat.ne_of_lt l1), Ne.symm (Nat.ne_of_lt l2), Ne.symm (Nat.ne_of_lt l3)⟩
    · rw [List.map_append, hy2, List.take_add_one]
      show _ ++ [(⟨x9, d9, q9⟩ : Inf).cc] = _
      rw [ec]
      unfold cc0
      rw [List.getElem?_map, List.getElem?_zipIdx, hci]
      simp
  · rintro ys fin ⟨rfl, hy2⟩
    unfold LCg.FinE
    intro D h tk F N o1
    (try simp only [LCg.Off1, and_true] at o1)
    (try dsimp only)
    k_steps
    all_goals (try k_data)
    rw [List.take_of_length_le (by unfold cc0; rw [List.length_map, List.length_zipIdx]; exact Nat.le_refl _)] at hy2
    exact hret _ _ _ (fin0 (led' := []) (own := (x9, instObj 105 d9) :: (d9, bufD b1 b2 b3 b4 k1 k2 k3 k4 t3 t4 D) :: (D, listOf (List.toArray (fin.map Inf.ref)) _) :: infosL fin) F9 N9 (List.forall_mem_nil _) (fun p hp => by
        rcases List.mem_cons.mp hp with e | hp
        · rw [e]; k_mem
        rcases List.mem_cons.mp hp with e | hp
        · rw [e]; k_mem
        rcases List.mem_cons.mp hp with e | hp
        · rw [e]; exact .tail _ (.tail _ (.head _))
        · exact .tail _ (.tail _ (.tail _ (.tail _ hp)))) (fun p hp q hq => nomatch hq) rfl ⟨rfl, _, _, _, _, _, _, _, _, _, _, _, _, _, _, _, rfl, rfl, hy2, Nat.ne_of_gt m9, fun p hp => Nat.ne_of_lt (l9 p (by
        rcases List.mem_cons.mp hp with e | hp
        · rw [e]; exact .head _
        · exact .tail _ (.tail _ hp)))⟩)
end PBufOf
section PNews
theorem off_News : True := by
  w_top off
  exact trivial
theorem norm_init_c {w : World} {mean : ExcName → Option Value} {mg mb : Str → Option Value} {x dx e1 e2 : Addr} (hx : @LT.lt Nat _ dx x) :
    Ctr w mean mg mb 5 50 (.ref 148) [.ref x, .ref e1, .ref e2] [(x, instObj 165 dx), (dx, dictOf [] 0)] (fun _ => True)
      (fun r led' own => own = [] ∧ r = .none ∧ ∃ h1 t1 h2 t2, led' = [(x, instObj 165 dx), (dx, dictOf [⟨h1, .str (Str.ofString "parts") t1, .ref e1⟩, ⟨h2, .str (Str.ofString "classes") t2, .ref e2⟩] 2)]) := by
  (k_dflt refine' Ctr.enter ?k6 ?k7 ?k9 ?kB ?c2 ?c3 ?c4 ?c5 ?_)
  case k6 => k_dflt k_is
  case k7 => k_dflt k_is
  case k9 => k_dflt (intro s9 X9; first | exact BindsTo.of_eq rfl | exact binds_K X9 rfl (by k_is) rfl rfl rfl)
  case c5 => decide
  case kB => k_dflt exact locs rfl
  case c2 => exact rfl
  case c3 => exact rfl
  case c4 => exact rfl
  rintro dp un fr gd g L h₁ tk₁ s Q hdp hun F N X T _ hret
  (try dsimp only)
  (try k_fold)
  k_steps
  all_goals (try k_data)
  all_goals (
    (try dsimp only)
    (try k_unfold)
    (try dsimp only)
    exact hret _ _ _ (fin0 (by k_asm) (by k_asm) (by (repeat (first | exact List.forall_mem_nil _ | refine List.forall_mem_cons.mpr ⟨by k_mem, ?_⟩))) (by (repeat (first | exact List.forall_mem_nil _ | refine List.forall_mem_cons.mpr ⟨by k_mem, ?_⟩))) (by (repeat (first | exact List.forall_mem_nil _ | refine List.forall_mem_cons.mpr ⟨?_, ?_⟩ | (refine neN ?_; (try dsimp only); (first | lia | omega))))) (by exact rfl) (⟨rfl, rfl, _, _, _, _, rfl⟩)))
theorem norm_new {w : World} {mean : ExcName → Option Value} {mg mb : Str → Option Value} {A : Around} {g : Heap} {L : Addr} {m : Str → Option Value} {news : Led} {s : Shared} {Q E : Value → Shared → Prop} {e1 e2 : Addr}
    (F : Fr g L s.heap m) (N : News g L s.heap news) (X : (hd.heap_1 w.params).In g) (T : Top hd.view_39 (looseW hd.view_39 [Str.ofString "buffer_of"]) mean mg mb g)
    (hA : A.handled = none) (hdp : A.depth + 10 < recursionLimit) (hun : A.units + 80 < cLine)
    (h : ∀ x dx h' tk' h1 t1 h2 t2, Fr g L h' m → News g L h' ((x, instObj 165 dx) :: (dx, dictOf [⟨h1, .str (Str.ofString "parts") t1, .ref e1⟩, ⟨h2, .str (Str.ofString "classes") t2, .ref e2⟩] 2) :: news) → (∀ p ∈ news, p.1 < dx) → @LT.lt Nat _ dx x → Q (.ref x) { s with heap := h', toks := tk' }) :
    wpAny (model PySem.Challenge.rw_pb0193_01.row.prog w) A (call (.ref 165) [.ref e1, .ref e2] []) Q E s := by
  k_dflt (refine' call_cls F X N ?k4 ?k5 ?k6 ?_; (case k4 => k_is); (case k5 => k_is); (case k6 => k_is))
  intro x dx h' F' N' l1 l2
  refine (norm_init_c (e1 := e1) (e2 := e2) l2).useC F' N' X T hA (by show A.depth + 1 + 5 < _; (first | lia | omega)) (by show A.units + 1 + 50 < _; (first | lia | omega)) (by simp) (fun _ _ _ => trivial) ?_
  rintro r h2 tk' led' own F2 hl hk Nl No hne ⟨rfl, rfl, b1, b2, b3, b4, rfl⟩
  refine ⟨rfl, h x dx h2 tk' b1 b2 b3 b4 F2 (fun p hp => ?_) l1 l2⟩
  rcases List.mem_cons.mp hp with rfl | hp
  · exact Nl _ (.head _)
  · rcases List.mem_cons.mp hp with rfl | hp
    · exact Nl _ (.tail _ (.head _))
    · have q1 := l1 p hp
      refine hk p (.tail _ (.tail _ hp)) (fun z => ?_)
      rcases List.mem_cons.mp z with z | z
      · exact absurd z (Nat.ne_of_lt (Nat.lt_trans q1 l2))
      · exact absurd (List.mem_singleton.mp z) (Nat.ne_of_lt q1)
def KnownAt (w : World) (ks : List Int) (cd : Addr) (g : Heap) : Prop := ∃ D, D.length ≤ 1000 ∧ TabAt (intKind PR w) PyData.int g cd D ∧ ∀ c, PySem.Spec.lookup (PyData.int c) D = if (ks.any fun x => x == c) = true then some (.int 1) else none
theorem flatPairs_length {kvs : List (Int × Value)} {D : List (PyData × PyData)} (h : PyProof.V.FlatPairs PyData.int kvs D) : kvs.length = D.length := by
  induction h with
  | nil => rfl
  | cons _ _ ih => rw [List.length_cons, List.length_cons, ih]
theorem flatPairs_keys {kvs : List (Int × Value)} {D : List (PyData × PyData)} (h : PyProof.V.FlatPairs PyData.int kvs D) (c : Int) : (∃ x, (c, x) ∈ kvs) ↔ (PySem.Spec.lookup (PyData.int c) D).isSome = true := by
  induction h with
  | nil => exact ⟨fun ⟨_, h⟩ => (nomatch h), fun h => (nomatch h)⟩
  | @cons k v d kvs D _ _ ih =>
    show _ ↔ (if PySem.Spec.same (PyData.int k) (PyData.int c) then some d else PySem.Spec.lookup (PyData.int c) D).isSome = true
    by_cases hkc : k = c
    · subst hkc
      rw [if_pos (by rw [PyProof.V.same_int]; exact decide_eq_true rfl)]
      exact ⟨fun _ => rfl, fun _ => ⟨v, .head _⟩⟩
    · rw [if_neg (by rw [PyProof.V.same_int]; simpa using hkc), ← ih]
      refine ⟨fun ⟨x, hx⟩ => ?_, fun ⟨x, hx⟩ => ⟨x, .tail _ hx⟩⟩
      rcases List.mem_cons.mp hx with e | hx
      · cases e; exact absurd rfl hkc
      · exact ⟨x, hx⟩
theorem known_one {kvs : List (Int × Value)} {D : List (PyData × PyData)} {ks : List Int} {k : Int} {x : Value} (h : PyProof.V.FlatPairs PyData.int kvs D) (hD : ∀ c, PySem.Spec.lookup (PyData.int c) D = if (ks.any fun x => x == c) = true then some (.int 1) else none) (hk : (k, x) ∈ kvs) : PySem.Spec.lookup (PyData.int k) D = some (.int 1) := by
  have := (flatPairs_keys h k).mp ⟨x, hk⟩
  rw [hD] at this ⊢
  split at this
  · rename_i h1; rw [if_pos h1]
  · exact absurd this (by decide)
def Ones (kvs : List (Int × Value)) (S : Int → Prop) : Prop := (∀ p ∈ kvs, ∃ t, p.2 = Value.int 1 t) ∧ ∀ c, (∃ x, (c, x) ∈ kvs) ↔ S c
theorem Ones.nil : Ones [] (fun _ => False) := ⟨List.forall_mem_nil _, fun _ => ⟨fun ⟨_, h⟩ => (nomatch h), fun h => h.elim⟩⟩
theorem Ones.stored {kvs : List (Int × Value)} {S : Int → Prop} (h : Ones kvs S) (k : Int) (t : Tok) : Ones (stored kvs k (.int 1 t)) (fun c => S c ∨ c = k) := by
  unfold PySem.stored
  by_cases hk : (kvs.any fun kv => decide (kv.1 = k)) = true
  · rw [if_pos hk]
    refine ⟨fun p hp => ?_, fun c => ⟨fun ⟨x, hx⟩ => ?_, fun hc => ?_⟩⟩
    · obtain ⟨q, hq, rfl⟩ := List.mem_map.mp hp
      by_cases e : q.1 = k
      · rw [if_pos e]; exact ⟨t, rfl⟩
      · rw [if_neg e]; exact h.1 q hq
    · obtain ⟨q, hq, e2⟩ := List.mem_map.mp hx
      by_cases e : q.1 = k
      · rw [if_pos e] at e2; cases e2; exact .inr e
      · rw [if_neg e] at e2; subst e2; exact .inl ((h.2 c).mp ⟨x, hq⟩)
    · have key : ∀ c, (∃ x, (c, x) ∈ kvs) → ∃ x, (c, x) ∈ kvs.map fun kv => if kv.1 = k then (kv.1, Value.int 1 t) else kv := by
        rintro c ⟨x, hx⟩
        by_cases e : c = k
        · exact ⟨_, List.mem_map.mpr ⟨(c, x), hx, if_pos e⟩⟩
        · exact ⟨x, List.mem_map.mpr ⟨(c, x), hx, if_neg e⟩⟩
      rcases hc with hc | rfl
      · exact key c ((h.2 c).mpr hc)
      · obtain ⟨q, hq, e⟩ := List.any_eq_true.mp hk
        have e := of_decide_eq_true e
        exact key c ⟨q.2, e ▸ hq⟩
  · rw [if_neg hk]
    refine ⟨fun p hp => ?_, fun c => ⟨fun ⟨x, hx⟩ => ?_, fun hc => ?_⟩⟩
    · rcases List.mem_append.mp hp with hp | hp
      · exact h.1 p hp
      · rw [List.mem_singleton.mp hp]; exact ⟨t, rfl⟩
    · rcases List.mem_append.mp hx with hx | hx
      · exact .inl ((h.2 c).mp ⟨x, hx⟩)
      · have := List.mem_singleton.mp hx; cases this; exact .inr rfl
    · rcases hc with hc | rfl
      · obtain ⟨x, hx⟩ := (h.2 c).mpr hc
        exact ⟨x, List.mem_append_left _ hx⟩
      · exact ⟨_, List.mem_append_right _ (.head _)⟩
theorem Ones.of {kvs : List (Int × Value)} {S S' : Int → Prop} (h : Ones kvs S) (e : ∀ c, S c ↔ S' c) : Ones kvs S' := ⟨h.1, fun c => (h.2 c).trans (e c)⟩
theorem Ones.flat {kvs : List (Int × Value)} {S : Int → Prop} (h : Ones kvs S) : PyProof.V.FlatPairs PyData.int kvs (kvs.map fun p => (PyData.int p.1, PyData.int 1)) := by
  have h1 := h.1
  clear h
  induction kvs with
  | nil => exact .nil
  | cons p r ih =>
    obtain ⟨t, e⟩ := h1 p (.head _)
    obtain ⟨k, v⟩ := p
    have e : v = .int 1 t := e
    subst e
    exact .cons (PyProof.V.Flat.int 1 t) (ih fun q hq => h1 q (.tail _ hq))
theorem ones_look (kvs : List (Int × Value)) (c : Int) : PySem.Spec.lookup (PyData.int c) (kvs.map fun p => (PyData.int p.1, PyData.int 1)) = none ∨ PySem.Spec.lookup (PyData.int c) (kvs.map fun p => (PyData.int p.1, PyData.int 1)) = some (.int 1) := by
  induction kvs with
  | nil => exact .inl rfl
  | cons p r ih =>
    show (if PySem.Spec.same (PyData.int p.1) (PyData.int c) then some (PyData.int 1) else PySem.Spec.lookup (PyData.int c) (r.map fun p => (PyData.int p.1, PyData.int 1))) = none ∨ (if PySem.Spec.same (PyData.int p.1) (PyData.int c) then some (PyData.int 1) else PySem.Spec.lookup (PyData.int c) (r.map fun p => (PyData.int p.1, PyData.int 1))) = some (.int 1)
    split
    · exact .inr rfl
    · exact ih
theorem Ones.look {kvs : List (Int × Value)} {ks : List Int} (h : Ones kvs (fun c => (ks.any fun x => x == c) = true)) (c : Int) : PySem.Spec.lookup (PyData.int c) (kvs.map fun p => (PyData.int p.1, PyData.int 1)) = if (ks.any fun x => x == c) = true then some (.int 1) else none := by
  have h1 := (h.2 c).symm.trans (flatPairs_keys h.flat c)
  by_cases hc : (ks.any fun x => x == c) = true
  · rw [if_pos hc]
    have h2 := h1.mp hc
    rcases ones_look kvs c with e | e
    · rw [e] at h2; exact absurd h2 (by decide)
    · exact e
  · rw [if_neg hc]
    cases e : PySem.Spec.lookup (PyData.int c) (kvs.map fun p => (PyData.int p.1, PyData.int 1)) with
    | none => rfl
    | some d => exact absurd (h1.mpr (by rw [e]; rfl)) hc
theorem stored_ones {FK : Value → Int → Prop} {FV : Value → Value → Prop} (hK : ∀ v k, FK v k → ∃ t, v = .int k t) (hV : ∀ v y, FV v y → ∃ t, y = .int 1 t) {l : List Value} {kvs : List (Int × Value)} (h : StoredAll FK FV l kvs) : Ones kvs (fun c => ∃ t, Value.int c t ∈ l) := by
  induction h with
  | nil => exact Ones.nil.of fun c => ⟨fun h => h.elim, fun ⟨_, h⟩ => (nomatch h)⟩
  | @snoc l kvs v k y _ hk hy ih =>
    obtain ⟨tk, rfl⟩ := hK _ _ hk
    obtain ⟨t, rfl⟩ := hV _ _ hy
    refine (ih.stored k t).of fun c => ⟨?_, ?_⟩
    · rintro (⟨t', h⟩ | rfl)
      · exact ⟨t', List.mem_append_left _ h⟩
      · exact ⟨tk, List.mem_append_right _ (.head _)⟩
    · rintro ⟨t', h⟩
      rcases List.mem_append.mp h with h | h
      · exact .inl ⟨t', h⟩
      · have := List.mem_singleton.mp h; cases this; exact .inr rfl
end PNews
section PMap
theorem off_Map : True := by
  w_top off
  exact trivial
theorem dict_block {w : World} {A : Around} {E : Value → Shared → Prop} {env : Env} {kx vx iter : PySem.Expr} {x : Str} {px : Pos} {ifs : List PySem.Expr} {scope : Scope} {cl : List (Str × Addr)} {pos : Pos} {s₂ : Shared} {I : Addr} {fp wr : List Addr} {n : Nat}
    {P : Nat → Value → Prop} {St : Nat → Heap → Prop} (W : Walks PR w A I fp wr n P St) (hsz : n ≤ sizeLine) (FK : Value → Int → Prop) (FV : Value → Value → Prop) {RR : Value → Addr → Result → Shared → Prop}
    (hcell : ∀ y ∈ scope.names, y.2 ≠ .cell) (hkind : scope.kind = .function) (hx : scope.names.lookup x = some .local) (hst : St 0 s₂.heap) (hfp : ∀ b ∈ fp, b < s₂.heap.objs.size)
    (hq : QuietOnCD (intKind PR w) A env scope cl x ifs kx vx wr P (fun _ => true) FK FV s₂)
    (hRR : ∀ D C h' tk m' kvs (vs : List Value), s₂.heap.objs.size ≤ D → s₂.heap.objs.size ≤ C → D ≠ C → h'.Ns C m' → h'.DictOf (intKind PR w) D kvs → vs.length = n → (∀ j v, vs[j]? = some v → P j v) → StoredAll FK FV (vs.filter fun _ => true) kvs →
      (∀ b o, b ∉ wr → s₂.heap.get? b = some o → h'.get? b = some o) → RR (.ref D) C (.ok .next) { s₂ with heap := h', toks := tk }) :
    wpAny (model PR w) A newDict (fun acc s₃ => wpAny (model PR w) A (newFunctionEnv scope env.globals cl [] env.qual none .none (some env)) (fun cenv s₄ =>
      codeAny (model PR w) A (.compStart (.DictComp kx vx [⟨.Name x px, iter, ifs, 0⟩] scope pos) 0 (.ref I) acc { cenv with scope := relabel scope env }) (RR acc cenv.locals) s₄) E s₃) E s₂ := by
  refine wpAny_newObj_type (wpAny_newFunctionEnv hcell (fun y hy => nomatch hy) (fun h₁ hn₁ hb₁ => ?_) hkind)
  dsimp only at hn₁ hb₁ ⊢
  have hnew : (s₂.heap.push { cls := .type "dict", dict := none, data := .dict #[] }).DictOf (intKind PR w) s₂.heap.objs.size [] := Heap.DictOf.new s₂.heap
  have hC : (s₂.heap.push { cls := .type "dict", dict := none, data := .dict #[] }).objs.size = s₂.heap.objs.size + 1 := Heap.size_push _ _
  have hg : ∀ b o, s₂.heap.get? b = some o → (s₂.heap.push { cls := .type "dict", dict := none, data := .dict #[] }).get? b = some o := fun b o e => Heap.get?_push_of_some _ e
  generalize s₂.heap.push { cls := .type "dict", dict := none, data := .dict #[] } = H at hn₁ hb₁ hnew hC hg ⊢
  have lt1 : ∀ b, b < s₂.heap.objs.size → b ≠ H.objs.size := fun b hb => Nat.ne_of_lt (by rw [hC]; exact Nat.lt_succ_of_lt hb)
  have hDC : s₂.heap.objs.size ≠ H.objs.size := Nat.ne_of_lt (by rw [hC]; exact Nat.lt_succ_self _)
  have old : ∀ b o, s₂.heap.get? b = some o → h₁.get? b = some o := fun b o e => hb₁.extBut b o (lt1 b (Heap.lt_size e)) (Heap.get?_push_of_some _ (hg b o e))
  have hacc : h₁.DictOf (intKind PR w) s₂.heap.objs.size [] := hnew.at fun o e => hb₁.extBut _ _ hDC (Heap.get?_push_of_some _ e)
  have hst₁ : St 0 h₁ := W.frame _ _ _ hst fun b _ o e => old b o e
  have loop : ∀ s₃ : Shared, s₃ = { s₂ with heap := h₁, toks := s₂.toks + ([] : List (Str × Value)).length } →
      codeAny (model PR w) A (.compLoop (.DictComp kx vx [⟨.Name x px, iter, ifs, 0⟩] scope pos) 0 (.ref I) (.ref s₂.heap.objs.size) (compEnvC scope cl H.objs.size env)) (RR (.ref s₂.heap.objs.size) H.objs.size) s₃ := by
    rintro s₃ rfl
    have up : ∀ {h2 : Heap}, (∀ b o, b ≠ H.objs.size → b ∉ wr → b ≠ s₂.heap.objs.size → h₁.get? b = some o → h2.get? b = some o) → ∀ b o, b ∉ wr → s₂.heap.get? b = some o → h2.get? b = some o :=
      fun hk b o hw e => hk b o (lt1 b (Heap.lt_size e)) hw (Nat.ne_of_lt (Heap.lt_size e)) (old b o e)
    refine codeAny_compLoop_walkD (hsz := hsz) (knd := intKind PR w) (cenv := compEnvC scope cl H.objs.size env) W (fun _ => true) FK FV (lookup_relabel_local hx) (by simp [compEnvC, relabel, hkind]) hDC (fun hm => Nat.lt_irrefl _ (hfp _ hm)) (fun hm => lt1 _ (hfp _ hm) rfl) hst₁ hacc hn₁
      (fun i v s₃ m₃ hv hn hm hk => hq.tests _ i v s₃ m₃ _ hv hn hm (up hk)) (fun i v s₃ m₃ hv hpv hn hm hk => hq.key _ i v s₃ m₃ _ hv hpv hn hm (up hk)) (fun i v s₃ m₃ hv hpv hn hm hk => hq.val _ i v s₃ m₃ _ hv hpv hn hm (up hk)) fun h' tk m' kvs vs hn ha hlen hP hF hk => ?_
    exact hRR _ _ h' tk m' kvs vs (Nat.le_refl _) (Nat.le_trans (Nat.le_succ _) (Nat.le_of_eq hC.symm)) hDC hn ha hlen hP hF (up hk)
  exact codeAny_compStart_dict (loop _ rfl) (W.self 0 _ _ _ hst₁ (loop _ rfl))
theorem DictComp_S {w : World} {A : Around} {E : Value → Shared → Prop} {s : Shared} {env : Env} {kx vx iter : PySem.Expr} {x : Str} {px : Pos} {ifs : List PySem.Expr} {scope : Scope} {cl : List (Str × Addr)} {pos : Pos} {Q : Value → Shared → Prop}
    (hclos : closureFor scope env = pure cl) (hcell : ∀ y ∈ scope.names, y.2 ≠ .cell) (hkind : scope.kind = .function)
    (hnames : ∀ y ∈ scope.names, y.2 = .local → scope.names.lookup y.1 = some .local) (hx : scope.names.lookup x = some .local)
    (h : wpAny (model PR w) A (eval iter env) (fun xv s₁ => Stop (wpAny (model PR w) A (pyIter xv) (fun it s₂ => ∃ I fp wr n P St, it = .ref I ∧ Walks PR w A I fp wr n P St ∧ n ≤ sizeLine ∧ St 0 s₂.heap ∧ (∀ b ∈ fp, b < s₂.heap.objs.size) ∧
      QuietOnCD (intKind PR w) A env scope cl x ifs kx vx wr P (fun _ => true) (fun v k => ∃ t, v = .int k t) (fun _ y => ∃ t, y = .int 1 t) s₂ ∧
      (∀ D h' tk kvs (vs : List Value), s₂.heap.objs.size ≤ D → h'.DictOf (intKind PR w) D kvs → vs.length = n → (∀ j v, vs[j]? = some v → P j v) → StoredAll (fun v k => ∃ t, v = .int k t) (fun _ y => ∃ t, y = .int 1 t) (vs.filter fun _ => true) kvs →
        (∀ b o, b ∉ wr → s₂.heap.get? b = some o → h'.get? b = some o) → Q (.ref D) { s₂ with heap := h', toks := tk })) E s₁)) E s)
    (hs : ∀ x, foldedSetIterable iter env x = pure x := by intro _; rfl) :
    wpAny (model PR w) A (eval (.DictComp kx vx [⟨.Name x px, iter, ifs, 0⟩] scope pos) env) Q E s := by
  rw [arm_eval_DictComp]
  refine wpAny_comprehension_free (use := none) rfl hs hclos hkind hnames (wpAny_mono h (fun xv s₁ h₁ => wpAny_mono h₁.out (fun it s₂ h₂ => ?_) fun _ _ e => e) fun _ _ e => e)
  obtain ⟨I, fp, wr, n, P, St, rfl, W, hsz, hst, hfp, hq, hQ⟩ := h₂
  refine dict_block (RR := fun acc C => compPost (model PR w) A E none Q acc C) W hsz _ _ hcell hkind hx hst hfp hq ?_
  intro D C h' tk m' kvs vs hD hC hDC hn hl hlen hP hF hk
  exact ⟨m', hn, fun h'' hs'' => hQ D h'' tk kvs vs hD (hl.extBut hs''.extBut hDC) hlen hP hF fun b o hbf e => hs''.extBut b o (fun q => absurd (Heap.lt_size e) (Nat.not_lt.mpr (q ▸ hC))) (hk b o hbf e)⟩
local macro_rules | `(tactic| walk_at "eval DictComp") => refL "" "DictComp_S" "wur dec rfl dec rfl ?" ""
theorem forIn_one {M : Model} {A : Around} {E : Value → Shared → Prop} {s : Shared} {c : PySem.Expr} {env : Env} {Q : Bool → Shared → Prop} (h : wpAny M A (isTrue c env (eval c env)) Q E s) :
    wpAny M A (forIn [c] true fun c r => if r = true then do let ok ← isTrue c env (eval c env); pure (ForInStep.yield ok) else pure (ForInStep.yield r)) Q E s := by
  rw [List.forIn_cons]
  refine wpAny_bind ?_
  rw [if_pos rfl]
  refine wpAny_bind (wpAny_mono h (fun ok s₂ hq => wpAny_pure ?_) fun _ _ e => e)
  show wpAny M A (forIn [] ok _) Q E s₂
  rw [List.forIn_nil]
  exact wpAny_pure hq
local macro_rules | `(tactic| walk_at "eval Name") => `(tactic| (k_here; (with_reducible show wpAny _ _ (eval (Expr.Name _ _) (compEnvC _ _ _ _)) _ _ _); k_dflt (first
  | refine ldVarK (by assumption) (by assumption) ?_
  | refine ldFreeK (by rfl) (by assumption) ?_)))
theorem map_init_c {w : World} {mean : ExcName → Option Value} {mg mb : Str → Option Value} {x dx cd : Addr} {ks : List Int} (hx : @LT.lt Nat _ dx x) :
    Ctr w mean mg mb 5 50 (.ref 295) [.ref x, .ref cd] [(x, instObj 319 dx), (dx, dictOf [] 0)] (KnownAt w ks cd)
      (fun r led' own => r = .none ∧ ∃ h1 t1 h2 t2 D' o', led' = [(x, instObj 319 dx), (dx, dictOf [⟨h1, .str (Str.ofString "codes") t1, .ref D'⟩, ⟨h2, .str (Str.ofString "variations") t2, .none⟩] 2)] ∧ own = [(D', o')] ∧ (D' == sysModules) = false ∧ ∃ kvs, o'.IsDictOf (intKind PR w) kvs ∧ Ones kvs (fun c => (ks.any fun x => x == c) = true)) := by
  (k_dflt refine' Ctr.enterC ?k6 ?k7 ?k9 ?kB ?kD ?c2 ?c3 ?c4 ?_)
  case k6 => k_dflt k_is
  case k7 => k_dflt k_is
  case k9 => k_dflt (intro s9 X9; first | exact BindsTo.of_eq rfl | exact binds_K X9 rfl (by k_is) rfl rfl rfl)
  case kB => k_dflt exact rfl
  case kD => decide +kernel
  case c2 => exact rfl
  case c3 => exact rfl
  case c4 => exact rfl
  rintro dp un fr gd g L h₁ tk₁ s Q cells hdp hun F N Y hlL X T hP9 hret
  (try dsimp only)
  show wpAny _ _ _ _ _ _
  k_fold
  obtain ⟨D, hDl, hT, hD⟩ := hP9
  k_cells Y
  (try simp only [List.cons_append, List.nil_append] at N)
  (try dsimp only)
  show wpAny _ _ _ _ _ _
  (try k_fold)
  k_steps
  all_goals (try k_data)
  obtain ⟨lo, kvs, hdict, hfl⟩ := id hT
  have hdict2 := Heap.DictOf.keep hdict F.keep
  obtain ⟨oD, es, ep, e1, e2, e3, e4, e5, e6⟩ := id hdict2
  have hkl := flatPairs_length hfl
  have hlt : cd < h₁.objs.size := Heap.lt_size e1
  show wpAny _ _ _ _ _ _
  refine wpAny_pyIter_dict (knd := intKind PR w) (kvs := kvs) (ep := ep) lo ⟨oD, es, e1, e2, e3, e4, e5, e6⟩ ?_
  refine ⟨_, _, _, _, _, _, rfl, Walks.dictKeys rfl _ cd (Nat.ne_of_lt hlt) kvs ep, ?_, ⟨⟨_, Heap.get?_push_size _ rfl, rfl, rfl⟩, Heap.DictAt.at' ⟨oD, es, e1, e2, e3, e4, e5, e6⟩ (fun o e => Heap.get?_push_of_some _ e)⟩, ?_, ⟨?_, ?_, ?_⟩, ?_⟩
  · rw [hkl, PySem.sizeLine_eq]; (first | lia | omega)
  · intro b hb
    show b < (Heap.push _ _).objs.size
    rw [Heap.size_push]
    rcases List.mem_cons.mp hb with e | hb
    · rw [e]; exact Nat.lt_succ_self _
    · rw [List.mem_singleton.mp hb]; exact Nat.lt_succ_of_lt hlt
  · rintro C i v s₃ m₃ E' ⟨k, xv, hkx, hkv⟩ hns hm3 hk3
    obtain ⟨t, rfl⟩ := Value.isInt_shape hkv
    have hkeep : ∀ b o, h₁.get? b = some o → s₃.heap.get? b = some o := fun b o e => hk3 b o (fun hm => by rw [List.mem_singleton.mp hm] at e; exact absurd (Heap.lt_size e) (Nat.lt_irrefl _)) (Heap.get?_push_of_some _ e)
    have hT3 : TabAt (intKind PR w) PyData.int s₃.heap cd D := ⟨lo, kvs, hdict2.keep hkeep, hfl⟩
    have hlk : PySem.Spec.lookup (PyData.int k) D = some (.int 1) := known_one hfl hD (List.mem_of_getElem? hkx)
    have hce : s₃.heap.IsCell (L + 1) (some (.ref cd)) := ⟨_, hkeep _ _ (N (L + 1, _) (.head _)).1, by assumption⟩
    clear hk3
    refine forIn_one ?_
    (try k_fold)
    k_steps
    all_goals exact ⟨s₃.heap, _, rfl, fun _ _ e => e⟩
  · rintro C i v s₃ m₃ E' ⟨k, xv, hkx, hkv⟩ _ hns hm3 hk3
    obtain ⟨t, rfl⟩ := Value.isInt_shape hkv
    refine ldVarK hns hm3 ?_
    exact ⟨⟨k, hkv, t, rfl⟩, s₃.heap, s₃.toks, rfl, fun _ _ e => e⟩
  · rintro C i v s₃ m₃ E' ⟨k, xv, hkx, hkv⟩ _ hns hm3 hk3
    obtain ⟨t, rfl⟩ := Value.isInt_shape hkv
    have hkeep : ∀ b o, h₁.get? b = some o → s₃.heap.get? b = some o := fun b o e => hk3 b o (fun hm => by rw [List.mem_singleton.mp hm] at e; exact absurd (Heap.lt_size e) (Nat.lt_irrefl _)) (Heap.get?_push_of_some _ e)
    have hT3 : TabAt (intKind PR w) PyData.int s₃.heap cd D := ⟨lo, kvs, hdict2.keep hkeep, hfl⟩
    have hlk : PySem.Spec.lookup (PyData.int k) D = some (.int 1) := known_one hfl hD (List.mem_of_getElem? hkx)
    have hce : s₃.heap.IsCell (L + 1) (some (.ref cd)) := ⟨_, hkeep _ _ (N (L + 1, _) (.head _)).1, by assumption⟩
    clear hk3
    show wpAny _ _ _ _ _ _
    (try k_fold)
    k_steps
    all_goals exact ⟨s₃.heap, _, rfl, fun _ _ e => e⟩
  · intro D' h' tk kvs' vs hD' hd' hvl hP hSt hk3
    have hkeep : ∀ b o, h₁.get? b = some o → h'.get? b = some o := fun b o e => hk3 b o (fun hm => by rw [List.mem_singleton.mp hm] at e; exact absurd (Heap.lt_size e) (Nat.lt_irrefl _)) (Heap.get?_push_of_some _ e)
    have hlt1 : h₁.objs.size < D' := Nat.lt_of_lt_of_le (Nat.lt_succ_self _) (Nat.le_trans (Nat.le_of_eq (Heap.size_push _ _).symm) hD')
    have hlo : (D' == sysModules) = false := beq_eq_false_iff_ne.mpr (Nat.ne_of_gt (Nat.lt_trans (modules_low T.nolimit) (Nat.lt_of_le_of_lt F.above (Nat.lt_trans F.ns.lt hlt1))))
    obtain ⟨oD', ho', hdo'⟩ := Heap.dictOf_iff.mp hd'
    have hOn : Ones kvs' (fun c => (ks.any fun x => x == c) = true) := by
      refine (stored_ones (fun _ _ h => h) (fun _ _ h => h) hSt).of fun c => ?_
      rw [List.filter_eq_self.mpr (fun _ _ => rfl)]
      have h1 : (∃ t, Value.int c t ∈ vs) ↔ ∃ x, (c, x) ∈ kvs := by
        refine ⟨fun ⟨t, ht⟩ => ?_, fun ⟨x, hx⟩ => ?_⟩
        · obtain ⟨j, hj⟩ := List.getElem?_of_mem ht
          obtain ⟨k, xv, hk, hv⟩ := hP j _ hj
          obtain ⟨t', e⟩ := Value.isInt_shape (k := k) (v := .int c t) hv
          cases e
          exact ⟨xv, List.mem_of_getElem? hk⟩
        · obtain ⟨j, hj⟩ := List.getElem?_of_mem hx
          have hjl : j < vs.length := by rw [hvl]; exact (List.getElem?_eq_some_iff.mp hj).1
          obtain ⟨k, xv, hk, hv⟩ := hP j _ (List.getElem?_eq_getElem hjl)
          rw [hj] at hk
          cases hk
          obtain ⟨t', e⟩ := Value.isInt_shape hv
          exact ⟨t', e ▸ List.getElem_mem hjl⟩
      refine h1.trans ((flatPairs_keys hfl c).trans ?_)
      rw [hD]
      by_cases hc : (ks.any fun x => x == c) = true
      · rw [if_pos hc]; exact ⟨fun _ => hc, fun _ => rfl⟩
      · rw [if_neg hc]; exact ⟨fun h => absurd h (by decide), fun h => absurd h hc⟩
    have F2 := F.keeps hkeep
    have N2 : News g L h' [(D', oD'), (L + 1, _), (x, instObj 319 dx), (dx, dictOf [] 0)] := fun p hp => by
      rcases List.mem_cons.mp hp with rfl | hp
      · refine ⟨ho', Ne.symm (Nat.ne_of_lt (Nat.lt_trans F.ns.lt hlt1)), ?_⟩
        cases q : g.get? D' with
        | none => rfl
        | some o => exact absurd (Nat.lt_trans (Heap.lt_size (F.keep _ _ q)) hlt1) (Nat.lt_irrefl _)
      · exact N.grown hkeep p hp
    have hnx : ∀ p ∈ [(x, instObj 319 dx), (dx, dictOf [] 0)], D' ≠ p.1 := fun p hp => Ne.symm (Nat.ne_of_lt (Nat.lt_trans (Heap.lt_size (N p (.tail _ hp)).1) hlt1))
    have hn1 : D' ≠ x := hnx (x, _) (.head _)
    have hn2 : D' ≠ dx := hnx (dx, _) (.tail _ (.head _))
    have hn3 : D' ≠ L + 1 := Ne.symm (Nat.ne_of_lt (Nat.lt_trans (Heap.lt_size (N _ (.head _)).1) hlt1))
    have hn4 : @Ne Nat (L + 1) x := Nat.ne_of_gt (Nat.lt_succ_of_lt (hlL (x, _) (.head _)))
    have hn5 : @Ne Nat (L + 1) dx := Nat.ne_of_gt (Nat.lt_succ_of_lt (hlL (dx, _) (.tail _ (.head _))))
    have hn6 : @Ne Nat x dx := Nat.ne_of_gt hx
    clear hk3 hP hSt hkeep hnx N F hdict2 hlt hkl e6 e5 e4 e3 e2 e1 hlt1
    clear hD' hvl hd'
    show wpAny _ _ _ _ _ _
    (try k_fold)
    k_steps
    all_goals (try k_data)
    (try dsimp only)
    (try k_unfold)
    (try dsimp only)
    exact hret _ _ _ (fin0 (by k_asm) (by k_asm) (by (repeat (first | exact List.forall_mem_nil _ | refine List.forall_mem_cons.mpr ⟨by k_mem, ?_⟩))) (by (repeat (first | exact List.forall_mem_nil _ | refine List.forall_mem_cons.mpr ⟨by k_mem, ?_⟩))) (by (repeat (first | exact List.forall_mem_nil _ | refine List.forall_mem_cons.mpr ⟨?_, ?_⟩ | (refine neN ?_; (try dsimp only); (first | lia | omega))))) (by exact rfl) (⟨rfl, _, _, _, _, D', oD', rfl, rfl, hlo, kvs', hdo', hOn⟩))
theorem map_new {w : World} {mean : ExcName → Option Value} {mg mb : Str → Option Value} {A : Around} {g : Heap} {L : Addr} {m : Str → Option Value} {news : Led} {s : Shared} {Q E : Value → Shared → Prop} {cd : Addr} {ks : List Int}
    (F : Fr g L s.heap m) (N : News g L s.heap news) (X : (hd.heap_1 w.params).In g) (T : Top hd.view_39 (looseW hd.view_39 [Str.ofString "buffer_of"]) mean mg mb g)
    (hA : A.handled = none) (hdp : A.depth + 10 < recursionLimit) (hun : A.units + 80 < cLine) (hcd : ∃ o kvs, (cd, o) ∈ news ∧ o.IsDictOf (intKind PR w) kvs ∧ (cd == sysModules) = false ∧ kvs.length ≤ 1000 ∧ Ones kvs (fun c => (ks.any fun x => x == c) = true))
    (h : ∀ x dx h' tk' h1 t1 h2 t2 D' o' kvs', Fr g L h' m → News g L h' ((x, instObj 319 dx) :: (dx, dictOf [⟨h1, .str (Str.ofString "codes") t1, .ref D'⟩, ⟨h2, .str (Str.ofString "variations") t2, .none⟩] 2) :: (D', o') :: news) → (∀ p ∈ news, p.1 < dx) → @LT.lt Nat _ dx x → (∀ p ∈ news, p.1 ≠ D') → dx ≠ D' → x ≠ D' →
      (D' == sysModules) = false → o'.IsDictOf (intKind PR w) kvs' → Ones kvs' (fun c => (ks.any fun x => x == c) = true) → Q (.ref x) { s with heap := h', toks := tk' }) :
    wpAny (model PySem.Challenge.rw_pb0193_01.row.prog w) A (call (.ref 319) [.ref cd] []) Q E s := by
  k_dflt (refine' call_cls F X N ?k4 ?k5 ?k6 ?_; (case k4 => k_is); (case k5 => k_is); (case k6 => k_is))
  intro x dx h' F' N' l1 l2
  obtain ⟨o, kvs, hm, hdo, hlo, hkl, hOn⟩ := hcd
  refine (map_init_c (cd := cd) (ks := ks) l2).useC F' N' X T hA (by show A.depth + 1 + 5 < _; (first | lia | omega)) (by show A.units + 1 + 50 < _; (first | lia | omega)) (by simp) (fun H b8 b9 => ?_) ?_
  · have hl1 := l1 _ hm
    have hne : (cd, o).1 ∉ [(x, instObj 319 dx), (dx, dictOf [] 0)].map (·.1) := fun z => by
      rcases List.mem_cons.mp z with z | z
      · exact absurd z (Nat.ne_of_lt (Nat.lt_trans hl1 l2))
      · exact absurd (List.mem_singleton.mp z) (Nat.ne_of_lt hl1)
    exact ⟨_, by rw [List.length_map]; exact hkl, ⟨hlo, kvs, Heap.dictOf_iff.mpr ⟨o, b9 (cd, o) (.tail _ (.tail _ hm)) hne, hdo⟩, hOn.flat⟩, hOn.look⟩
  rintro r h2 tk' led' own F2 hl hk Nl No hne ⟨rfl, b1, b2, b3, b4, D', o', rfl, rfl, hlo', kvs', hdo', hOn'⟩
  refine ⟨rfl, h x dx h2 tk' b1 b2 b3 b4 D' o' kvs' F2 (fun p hp => ?_) l1 l2 (fun p hp => hne (D', o') (.head _) p (.tail _ (.tail _ hp))) (hne (D', o') (.head _) (dx, dictOf [] 0) (.tail _ (.head _))) (hne (D', o') (.head _) (x, instObj 319 dx) (.head _)) hlo' hdo' hOn'⟩
  rcases List.mem_cons.mp hp with rfl | hp
  · exact Nl _ (.head _)
  rcases List.mem_cons.mp hp with rfl | hp
  · exact Nl _ (.tail _ (.head _))
  rcases List.mem_cons.mp hp with rfl | hp
  · exact No _ (.head _)
  have q1 := l1 p hp
  refine hk p (.tail _ (.tail _ hp)) (fun z => ?_)
  rcases List.mem_cons.mp z with z | z
  · exact absurd z (Nat.ne_of_lt (Nat.lt_trans q1 l2))
  · exact absurd (List.mem_singleton.mp z) (Nat.ne_of_lt q1)
end PMap
section PDictP
theorem list_no_keys : typeLookup (.type "list") (Str.ofString "keys") = pure none := am_miss_of_fast (by kernel_rfl)
theorem keys_miss {w : World} {A : Around} {E : Value → Shared → Prop} {s : Shared} {a : Addr} {xs : Array Value} {k : Nat} {Q : Option Value → Shared → Prop} (hx : s.heap.get? a = some (listOf xs k)) (hA : A.handled = none)
    (h : ∀ h' tk, (∀ b o, s.heap.get? b = some o → h'.get? b = some o) → Q none { s with heap := h', toks := tk }) :
    wpAny (model PR w) A (getAttr? (.ref a) (Str.ofString "keys")) Q E s := by
  obtain ⟨hp, g, d, tk, os⟩ := s
  have hT : ∀ tk', (⟨hp, g, d, tk', os⟩ : Shared).TypeIs (.ref a) "list" := fun _ => ⟨_, hx, rfl⟩
  have f1 := sub_AttributeError
  have f3 := F.slot_list_getattribute.lookup
  have f4 := F.slot_list_getattribute.bind (.ref a)
  have f5 := am_list_getattr_none
  unfold getAttr? getAttrBy?
  refine wpAny_bind (wpAny_mkText ?_)
  refine wpAny_bind (wpAny_attempt ?_)
  unfold getAttrBy
  repeat (any_goals (first | assumption | exact hT _ | ((with_reducible show wpAny _ _ (call (Value.builtin "list.__getattribute__") _ _) _ _ _); refine call_meets F.slot_list_getattribute (hT _) am_entry_list_getattribute (F.args_list_getattribute_2 _ _) (meets_getattribute_miss_list a xs k #[] (Str.ofString "keys") _ list_no_keys (by decide +kernel) (by decide +kernel)) ⟨hx, hA, fun h' tk' e hx' => ?_⟩) | wp_step))
  obtain ⟨t', u', he⟩ := hx'.there
  show wpAny _ _ (getattributeRaised _ _ _ _ _ _ _) _ _ _
  unfold getattributeRaised
  repeat (any_goals (first | assumption | wp_step))
  exact h _ _ hx'.keeps
theorem plain_update_loop : plainId "dict.update.loop" = true := by decide +kernel
theorem entry_update_loop : entryFor table "dict.update.loop" = some Builtin.«dict.update.loop» := entryFor_of_fast (by kernel_rfl)
theorem codeAny_dict_loop {w : World} {A : Around} {R : Result → Shared → Prop} {I D : Addr} {fp wr : List Addr} {n : Nat} {P : Nat → Value → Prop} {St : Nat → Heap → Prop} (W : Walks PR w A.in1 I fp wr n P St) (hDf : D ∉ fp) (hn : n ≤ 1000) (kf : Nat → Int) :
    ∀ (k i : Nat) (s : Shared) (kvs : List (Int × Value)) (S : Int → Prop) (ii : Int) (ti : Tok), n - i = k → i ≤ n → St i s.heap → s.heap.DictOf (intKind PR w) D kvs → kvs.length ≤ i → Ones kvs S →
    (∀ j v, j < n → P j v → ∃ a tk t1, v = .ref a ∧ a ≠ D ∧ a ∉ wr ∧ s.heap.get? a = some (tup2 (kf j) tk 1 t1)) →
    (∀ h' tk kvs', h'.DictOf (intKind PR w) D kvs' → kvs'.length ≤ n → Ones kvs' (fun c => S c ∨ ∃ j, i ≤ j ∧ j < n ∧ c = kf j) → (∀ b o, b ∉ wr → b ≠ D → s.heap.get? b = some o → h'.get? b = some o) → R (.ok (.ret .none)) { s with heap := h', toks := tk }) →
    codeAny (model PR w) A (.builtin "dict.update.loop" ⟨[.ref D, .ref I, .int ii ti, .none], []⟩) R s := by
  intro k
  have hDw : D ∉ wr := fun h => hDf (W.sub _ h)
  induction k with
  | zero =>
    intro i s kvs S ii ti hk hi hst hd hl hO hP hR
    have hin : i = n := by (first | lia | omega)
    subst hin
    refine codeAny_builtin entry_update_loop ?_
    rw [Around.under_plainId plain_update_loop _]
    show wpAny _ A.in1 (pyNext (.ref I) >>= _) _ _ s
    refine wpAny_bind (W.done s _ _ hst fun h' tk hk' => ?_)
    refine wpAny_bind (m := Builtin.Dict.addKeywords D []) (wpAny_pure (wpAny_pure (hR h' tk kvs (hd.at fun o e => hk' _ _ hDw e) hl (hO.of fun c => ⟨.inl, fun h => h.elim id fun ⟨j, h1, h2, _⟩ => absurd h2 (Nat.not_lt.mpr h1)⟩) fun b o hw _ e => hk' b o hw e)))
  | succ k ih =>
    intro i s kvs S ii ti hk hi hst hd hl hO hP hR
    have hlt : i < n := by (first | lia | omega)
    refine codeAny_builtin entry_update_loop ?_
    rw [Around.under_plainId plain_update_loop _]
    show wpAny _ A.in1 (pyNext (.ref I) >>= _) _ _ s
    refine wpAny_bind (W.item i s _ _ hlt hst fun v h' tk hPv hst' hk' => ?_)
    obtain ⟨a, ta, t1, rfl, haD, haw, hta⟩ := hP i v hlt hPv
    have hta' := hk' _ _ haw hta
    have hT : ({ s with heap := h', toks := tk } : Shared).TypeIs (.ref a) "tuple" := ⟨_, hta', rfl⟩
    refine wpAny_bind (wpAny_holding ?_)
    refine wpAny_bind (wpAny_tryCatch ?_)
    unfold Builtin.Dict.pairItems
    refine wpAny_bind (wpAny_typeOf hT ?_)
    have e1 : (Value.type "tuple" == Value.type "list") = false := by decide
    have e2 : (Value.type "tuple" == Value.type "tuple") = true := by decide
    simp only [e1, e2, Bool.false_or, if_true]
    unfold seqItems?
    refine wpAny_bind (wpAny_bind (wpAny_load hta' (wpAny_pure (wpAny_pure ?_))))
    show wpAny _ A.in1 (holding [Value.int (kf i) ta, Value.int 1 t1] (dictSet D (Value.int (kf i) ta) (Value.int 1 t1))) _ _ _
    refine wpAny_holding ?_
    have hd' : h'.DictOf (intKind PR w) D kvs := hd.at fun o e => hk' _ _ hDw e
    refine wpAny_dictSet_pairs (knd := intKind PR w) (k := kf i) (by simp [PySem.intKind, Value.isInt]) hd' (fun h2 hd2 hs2 => ?_) (by rw [PySem.sizeLine_eq]; (first | lia | omega))
    refine wpAny_pure ⟨plainId_quiet plain_update_loop _, ih (i + 1) _ _ _ _ _ (by (first | lia | omega)) hlt (W.frame _ _ _ hst' fun b hb o e => (hs2.2 b (fun q => hDf (q ▸ hb))).trans e) hd2 (Nat.le_trans (stored_length_le _ _ _) (by (first | lia | omega))) (hO.stored (kf i) t1) (fun j v hj hPj => ?_) fun h3 tk3 kvs3 hd3 hl3 hO3 hk3 => ?_⟩
    · obtain ⟨a, ta, t1, rfl, haD, haw, hta⟩ := hP j v hj hPj
      exact ⟨a, ta, t1, rfl, haD, haw, (hs2.2 a haD).trans (hk' _ _ haw hta)⟩
    · refine hR h3 tk3 kvs3 hd3 hl3 (hO3.of fun c => ?_) fun b o hw hb e => hk3 b o hw hb ((hs2.2 b hb).trans (hk' b o hw e))
      constructor
      · rintro ((h | rfl) | ⟨j, h1, h2, h3⟩)
        · exact .inl h
        · exact .inr ⟨i, Nat.le_refl _, hlt, rfl⟩
        · exact .inr ⟨j, by (first | lia | omega), h2, h3⟩
      · rintro (h | ⟨j, h1, h2, h3⟩)
        · exact .inl (.inl h)
        · rcases Nat.lt_or_ge i j with h4 | h4
          · exact .inr ⟨j, h4, h2, h3⟩
          · have : j = i := by (first | lia | omega)
            subst this
            exact .inl (.inr h3)
theorem dict_pairs {w : World} {A : Around} {E : Value → Shared → Prop} {s : Shared} {l : Addr} {vs : List Value} {cap : Nat} {Q : Value → Shared → Prop} (kf : Nat → Int) (hA : A.handled = none) (hl : s.heap.get? l = some (listOf (List.toArray vs) cap)) (hn : vs.length ≤ 1000)
    (hv : ∀ j v, vs[j]? = some v → ∃ a tk t1, v = .ref a ∧ s.heap.get? a = some (tup2 (kf j) tk 1 t1))
    (h : ∀ h' tk kvs, h'.DictOf (intKind PR w) s.heap.objs.size kvs → kvs.length ≤ vs.length → Ones kvs (fun c => ∃ j, j < vs.length ∧ c = kf j) → (∀ b o, s.heap.get? b = some o → h'.get? b = some o) → Q (.ref s.heap.objs.size) { s with heap := h', toks := tk }) :
    wpAny (model PR w) A (call (.type "dict") [.ref l]) Q E s := by
  refine callType_codes (Q₁ := fun obj s₁ => obj = .ref s.heap.objs.size ∧ s₁ = { s with heap := s.heap.push { cls := .type "dict", data := .dict #[] } }) F.kt_called_dict (F.kt_typeCall_dict_1 _) F.entry_dict_init (kt_code_dict_new _ ⟨rfl, rfl⟩) ?_
  rintro obj s₁ ⟨rfl, rfl⟩
  have hnew : (s.heap.push { cls := .type "dict", data := .dict #[] }).DictOf (intKind PR w) s.heap.objs.size [] := Heap.DictOf.new s.heap
  have hup : ∀ b o, s.heap.get? b = some o → (s.heap.push { cls := .type "dict", data := .dict #[] }).get? b = some o := fun b o e => Heap.get?_push_of_some _ e
  have hsz : s.heap.objs.size < (s.heap.push { cls := .type "dict", data := .dict #[] }).objs.size := by rw [Heap.size_push]; exact Nat.lt_succ_self _
  generalize s.heap.push { cls := .type "dict", data := .dict #[] } = H at hnew hup hsz ⊢
  refine ⟨hnew.typeIs, F.args_dict_init_2 _ _, ?_⟩
  unfold Builtin.«dict.__init__»
  refine wpAny_bind ?_
  unfold Builtin.Dict.selfAndRest
  refine wpAny_bind (wpAny_notOrdered_dict hnew.typeIs ?_)
  show wpAny _ _ (pure (s.heap.objs.size, [Value.ref l])) _ _ _
  refine wpAny_pure ?_
  show wpAny _ _ (Builtin.Dict.updateFrom "dict.__init__" s.heap.objs.size (.ref l) [] .none) _ _ _
  unfold Builtin.Dict.updateFrom
  have hl1 := hup _ _ hl
  refine wpAny_bind (wpAny_typeOf (T := "list") ⟨_, hl1, rfl⟩ ?_)
  rw [if_pos (by decide)]
  refine wpAny_bind (keys_miss (xs := List.toArray vs) (k := cap) hl1 hA fun h2 tk2 hk2 => ?_)
  simp only [Option.isNone_none, if_true]
  refine wpAny_bind (wpAny_rule ?_)
  have hl2 := hk2 _ _ hl1
  have hlt2 : l < h2.objs.size := Heap.lt_size hl2
  refine wpAny_bind (wpAny_pyIter_list (items := List.toArray vs) ⟨_, hl2, rfl, cap, rfl⟩ ?_)
  refine wpAny_pure ⟨plainId_quiet plain_update_loop _, ?_⟩
  have hd2 : h2.DictOf (intKind PR w) s.heap.objs.size [] := hnew.at fun o e => hk2 _ _ e
  have hDl : s.heap.objs.size < h2.objs.size := by
    obtain ⟨_, _, _, e, _⟩ := hd2
    exact Heap.lt_size e
  have hls : l < s.heap.objs.size := Heap.lt_size hl
  refine codeAny_dict_loop (n := (List.toArray vs).size) (fp := [h2.objs.size, l]) (wr := [h2.objs.size]) (P := fun i v => (List.toArray vs)[i]? = some v) (St := fun i h => h.IsListIter h2.objs.size l i ∧ h.IsList l (List.toArray vs)) (Walks.list (prog := PR) (w := w) (A := A.in1.in1) hA h2.objs.size l (Nat.ne_of_lt hlt2) (List.toArray vs)) (fun hm => ?_) (by rw [List.size_toArray]; exact hn) kf _ 0 _ [] (fun _ => False) 0 0 rfl (Nat.zero_le _)
    ⟨⟨_, Heap.get?_push_size _ rfl, rfl, rfl⟩, ⟨_, Heap.get?_push_of_some _ hl2, rfl, cap, rfl⟩⟩ (hd2.at fun o e => Heap.get?_push_of_some _ e) (Nat.le_refl _) Ones.nil (fun j v hj hjv => ?_) (fun h3 tk3 kvs hd3 hl3 hO3 hk3 => ?_)
  · rcases List.mem_cons.mp hm with e | hm
    · exact absurd e (Nat.ne_of_lt hDl)
    · exact absurd (List.mem_singleton.mp hm) (Nat.ne_of_gt hls)
  · obtain ⟨a, tk, t1, rfl, ha⟩ := hv j v (by simpa using hjv)
    have hla := Heap.lt_size ha
    exact ⟨a, tk, t1, rfl, Nat.ne_of_lt hla, fun hm => absurd (List.mem_singleton.mp hm) (Nat.ne_of_lt (Nat.lt_trans hla hDl)), Heap.get?_push_of_some _ (hk2 _ _ (hup _ _ ha))⟩
  · refine ⟨rfl, h h3 tk3 kvs hd3 (by rw [List.size_toArray] at hl3; exact hl3) (hO3.of fun c => ⟨fun h => ?_, fun ⟨j, h1, h2⟩ => .inr ⟨j, Nat.zero_le _, by rw [List.size_toArray]; exact h1, h2⟩⟩) fun b o e => ?_⟩
    · rcases h with h | ⟨j, _, h1, h2⟩
      · exact h.elim
      · exact ⟨j, by rw [List.size_toArray] at h1; exact h1, h2⟩
    · have hb := Heap.lt_size e
      exact hk3 b o (fun hm => absurd (List.mem_singleton.mp hm) (Nat.ne_of_lt (Nat.lt_trans hb hDl))) (Nat.ne_of_lt hb) (Heap.get?_push_of_some _ (hk2 _ _ (hup _ _ e)))
theorem dict_pairs_led {w : World} {A : Around} {E : Value → Shared → Prop} {s : Shared} {g : Heap} {L l : Addr} {m : Str → Option Value} {news : Led} {vs : List Value} {cap : Nat} {Q : Value → Shared → Prop} (kf : Nat → Int) (hA : A.handled = none) (F : Fr g L s.heap m) (N : News g L s.heap news) (hlow : sysModules < g.objs.size) (hl : (l, listOf (List.toArray vs) cap) ∈ news) (hn : vs.length ≤ 1000)
    (hv : ∀ j v, vs[j]? = some v → ∃ a tk t1, v = .ref a ∧ (a, tup2 (kf j) tk 1 t1) ∈ news)
    (h : ∀ D h' tk o kvs, Fr g L h' m → News g L h' ((D, o) :: news) → (∀ p ∈ news, p.1 < D) → (D == sysModules) = false → o.IsDictOf (intKind PR w) kvs → kvs.length ≤ vs.length → Ones kvs (fun c => ∃ j, j < vs.length ∧ c = kf j) → Q (.ref D) { s with heap := h', toks := tk }) :
    wpAny (model PR w) A (call (.type "dict") [.ref l]) Q E s := by
  refine dict_pairs kf hA (N _ hl).1 hn (fun j v hj => ?_) fun h' tk kvs hd hkl hO hk => ?_
  · obtain ⟨a, ta, t1, e, hm⟩ := hv j v hj
    exact ⟨a, ta, t1, e, (N _ hm).1⟩
  · obtain ⟨o, ho, hdo⟩ := Heap.dictOf_iff.mp hd
    have hL : L < s.heap.objs.size := F.ns.lt
    refine h _ h' tk o kvs (F.keeps hk) (fun p hp => ?_) (fun p hp => Heap.lt_size (N p hp).1) (F.notModules hlow) hdo hkl hO
    rcases List.mem_cons.mp hp with rfl | hp
    · refine ⟨ho, Nat.ne_of_gt hL, ?_⟩
      cases q : g.get? s.heap.objs.size with
      | none => rfl
      | some x => exact absurd (Heap.lt_size (F.keep _ _ q)) (Nat.lt_irrefl _)
    · exact N.grown hk p hp
end PDictP
section PLawS
noncomputable def lawFd (w : World) : FuncData := match (hd.heap_1 w.params).lookup 363 with | some ⟨_, _, .func fd, _⟩ => fd | _ => default
noncomputable def lawBody (w : World) : List Stmt := match (lawFd w).body with | .stmts b => b | _ => []
noncomputable def lawSt (w : World) (i : Nat) : Stmt := (lawBody w).getD i (.Pass ⟨0, 0, 0, 0⟩)
noncomputable def lawScope (w : World) : Scope := (lawFd w).scope
noncomputable def lawEnv (w : World) (qual : Str) (L f : Addr) (cdv : Value) : Env := envOfC qual (lawScope w) L f cdv
structure Amb2 (w : World) (mean : ExcName → Option Value) (mg mb : Str → Option Value) (dp un : Nat) (g : Heap) : Prop where
  X : (hd.heap_1 w.params).In g
  T : Top hd.view_39 (looseW hd.view_39 [Str.ofString "buffer_of"]) mean mg mb g
  hdp : dp + 150 < recursionLimit
  hun : un + 1500 < cLine
theorem lawBody_is (w : World) : lawBody w = [lawSt w 0, lawSt w 1, lawSt w 2, lawSt w 3, lawSt w 4, lawSt w 5, lawSt w 6, lawSt w 7, lawSt w 8, lawSt w 9, lawSt w 10, lawSt w 11] := rfl
theorem allLt_mem {d : Nat} : ∀ {l : Led}, AllLt d l → ∀ p ∈ l, p.1 < d
  | [], _, _, h => nomatch h
  | _ :: _, x, p, h => by
    rcases List.mem_cons.mp h with rfl | h
    · exact x.1
    · exact allLt_mem x.2 p h
end PLawS
section PSt0
local macro_rules | `(tactic| walk_at "no such key") => `(tactic| skip)
theorem off_St0 : True := by
  w_top off
  exact trivial
set_option hygiene false in
local macro_rules | `(tactic| walk_at "eval Name") => `(tactic| (k_here; (with_reducible refine nmIs "script" ?_); k_dflt (refine' ld ?k1 ?k2 ?_; (case k1 => k_asm); (case k2 => exact hm1); k_whole)))
local macro_rules | `(tactic| walk_at "exec Assign cons ListComp") => `(tactic| walk_at "compA")
theorem intsAre_snoc {vs : List Value} {is : List Int} {i : Int} {t : Tok} (h : IntsAre vs is) : IntsAre (vs ++ [.int i t]) (is ++ [i]) := by
  induction h with
  | nil => exact .cons _ _ .nil
  | cons i' t' _ ih => exact .cons _ _ ih
theorem st0 {w : World} {mean : ExcName → Option Value} {mg mb : Str → Option Value} {dp un : Nat} {fr : Option (List Env)} {gd : Option (List Code)} {g : Heap} {L fa sc : Addr} {qual : Str} {cdv : Value} {m : Str → Option Value} {news : Led} {s : Shared} {Q : Flow → Shared → Prop} {vs : List Value} {ns : List Int}
    (B : Amb2 w mean mg mb dp un g) (F : Fr g L s.heap m) (N : News g L s.heap news) (hm1 : m (Str.ofString "script") = some (.ref sc)) (hl : g.IsList sc vs.toArray) (hI : IntsAre vs ns) (hn : ns.length ≤ 63)
    (k : ∀ h' tk' cl vs' cap m', Fr g L h' m' → News g L h' ((cl, listOf (List.toArray vs') cap) :: news) → m' (Str.ofString "cells") = some (.ref cl) → (∃ ns', IntsAre vs' ns' ∧ ns'.length ≤ 60) → Q .next { s with heap := h', toks := tk' }) :
    wpAny (model PySem.Challenge.rw_pb0193_01.row.prog w) (mkA dp un fr gd) (exec (lawSt w 0) (lawEnv w qual L fa cdv)) Q (fun _ _ => False) s := by
  obtain ⟨X, T, hdp, hun⟩ := B
  show wpAny _ _ (exec (Stmt.Assign _ _ _) (envOfC _ (Scope.mk _ _ _ _ _) _ _ _)) _ _ _
  k_steps
  all_goals (try k_data)
  rename_i D0 ws0 h0 F0 N0 l0 hI0 hC0 hL0
  have hlen0 : ws0.length = (ns.take 60).length := IntsAre.length hI0
  show LCg.CompSrc _ _ _ _ _ _ _ _ _ _ _ _ _ _
  refine LCg.CompSrc.ledger (its := List.toArray ws0) rfl F0 N0 (.head _) (by rw [List.size_toArray, PySem.sizeLine_eq]; (first | lia | omega)) ?_
  intro g'
  refine compRest_S (σ := Unit) (a₀ := ()) (fun _ => _) (fun i ys _ => ∃ is, IntsAre ys is ∧ is.length = i) rfl ⟨[], .nil, rfl⟩ ?_ ?_
  · rintro i v ys a Ia oI C oC D m₂ h tk E' hi hv hI9 hC hx F N off ne
    show wpAny _ _ _ _ _ _
    (try k_fold)
    obtain ⟨is, hy1, hy2⟩ := hI9
    obtain ⟨c, tc, e5, hc⟩ := IntsAre.at hI0 i v (by simpa using hv)
    subst e5
    show wpAny _ _ _ _ _ _
    (try k_fold)
    k_steps
    all_goals (try k_data)
    refine LCg.CompEnd.intro (by k_asm) (by k_asm) _ (fun p hp => hp) off (.inr ⟨_, .head _, rfl, _, rfl⟩) ⟨(), rfl, _, intsAre_snoc hy1, by rw [List.length_append, hy2]; rfl⟩
  · intro ys a ⟨is, hy1, hy2⟩
    unfold LCg.FinA
    intro D h tk F N o1
    exact k _ _ D ys _ _ F (fun p hp => N p (by
      rcases List.mem_cons.mp hp with e | hp
      · rw [e]; exact .head _
      · exact .tail _ (.tail _ hp))) rfl ⟨is, hy1, by rw [hy2, List.size_toArray, hlen0, hC0]; (first | lia | omega)⟩
end PSt0
section PSt1
theorem off_St1 : True := by
  w_top off
  exact trivial
set_option hygiene false in
local macro_rules | `(tactic| walk_at "eval Name") => `(tactic| (k_here; (with_reducible refine nmIs "cells" ?_); k_dflt (refine' ld ?k1 ?k2 ?_; (case k1 => k_asm); (case k2 => exact hm1); k_whole)))
theorem st1 {w : World} {mean : ExcName → Option Value} {mg mb : Str → Option Value} {dp un : Nat} {fr : Option (List Env)} {gd : Option (List Code)} {g : Heap} {L fa cl : Addr} {qual : Str} {cdv : Value} {m : Str → Option Value} {s : Shared} {Q : Flow → Shared → Prop} {vs : List Value} {ns : List Int} {cap : Nat} {oP oL : Obj}
    (B : Amb2 w mean mg mb dp un g) (F : Fr g L s.heap m) (N : News g L s.heap [(cl, listOf (List.toArray vs) cap), (L + 1 + 1, oL), (L + 1, oP)]) (hm1 : m (Str.ofString "cells") = some (.ref cl)) (hI : IntsAre vs ns) (hn : ns.length ≤ 60) (hP : oP.data = .cell none)
    (k : ∀ h' tk' pn oP' tk0 t tt, Fr g L h' m → News g L h' [(pn, listOf #[.ref cl, .int 0 tk0, .int t tt] 0), (cl, listOf (List.toArray vs) cap), (L + 1 + 1, oL), (L + 1, oP')] → oP'.data = .cell (some (.ref pn)) → 0 ≤ t → t < 997 → @Ne Nat cl pn → @Ne Nat (L + 1 + 1) pn → @Ne Nat (L + 1) pn → Q .next { s with heap := h', toks := tk' }) :
    wpAny (model PySem.Challenge.rw_pb0193_01.row.prog w) (mkA dp un fr gd) (exec (lawSt w 1) (lawEnv w qual L fa cdv)) Q (fun _ _ => False) s := by
  obtain ⟨X, T, hdp, hun⟩ := B
  show wpAny _ _ (exec (Stmt.Assign _ _ _) (envOfC _ (Scope.mk _ _ _ _ _) _ _ _)) _ _ _
  k_steps
  all_goals (try k_data)
  rename_i t7 l7 h7 F7 N7 l8 h8 o8 F8 N8 e8
  exact k _ _ _ _ _ _ _ F8 N8 e8 (Int.fmod_nonneg_of_pos _ (by decide)) (Int.fmod_lt_of_pos _ (by decide)) (Nat.ne_of_lt l8.1) (Nat.ne_of_lt l8.2.1) (Nat.ne_of_lt l8.2.2)
end PSt1
section PSt2
theorem off_St2 : True := by
  w_top off
  exact trivial
local macro_rules | `(tactic| walk_at "exec Assign cons ListComp") => `(tactic| walk_at "compA")
set_option hygiene false in
local macro_rules | `(tactic| walk_at "P330") => `(tactic| (case P => intro H9 b9 b8; exact ⟨_, _, ⟨_, b8 (_, _) (by k_mem) (by k_ne), rfl, _, rfl⟩, by assumption, by assumption⟩))
local macro_rules | `(tactic| walk_at "call ref") => callL "1" 330 "draw_c a0 a1 a2 a3 a4 a5" "uF uU aX P330 uX" "v9 t9 tk9 e9 l9 u9 eo9 ew9" "sE sX dJ zO"
set_option hygiene false in
local macro_rules | `(tactic| walk_at "P337") => `(tactic| (case P => intro H9 b9 b8; exact ⟨_, _, ⟨_, b8 (_, _) (by k_mem) (by k_ne), rfl, _, rfl⟩, by assumption, by assumption⟩))
set_option hygiene false in
local macro_rules | `(tactic| walk_at "D337") => `(tactic| (obtain ⟨w8, ⟨v9, t9, e9, g9⟩, k9, tk9, eo9, ek9⟩ := R9; subst e9; subst w8; subst ek9; walk_at "dJ"))
local macro_rules | `(tactic| walk_at "call ref") => callL "1" 337 "code_c a0 a1 a2 a3" "uF uU aX P337 uX" "" "D337 zO"
theorem st2 {w : World} {mean : ExcName → Option Value} {mg mb : Str → Option Value} {dp un : Nat} {fr : Option (List Env)} {gd : Option (List Code)} {g : Heap} {L fa cl pn : Addr} {qual : Str} {cdv : Value} {m : Str → Option Value} {s : Shared} {Q : Flow → Shared → Prop} {vs : List Value} {ns : List Int} {cap : Nat} {oP oL : Obj} {tk0 tt : Tok} {t : Int}
    (B : Amb2 w mean mg mb dp un g) (F : Fr g L s.heap m) (N : News g L s.heap [(pn, listOf #[.ref cl, .int 0 tk0, .int t tt] 0), (cl, listOf (List.toArray vs) cap), (L + 1 + 1, oL), (L + 1, oP)]) (hI : IntsAre vs ns) (hn : ns.length ≤ 60) (hP : oP.data = .cell (some (.ref pn))) (ht0 : 0 ≤ t) (ht1 : t < 997) (n1 : @Ne Nat cl pn) (n2 : @Ne Nat (L + 1 + 1) pn) (n3 : @Ne Nat (L + 1) pn)
    (k : ∀ h' tk' cd ws c2 i tk1 m', Fr g L h' m' → m' (Str.ofString "codes") = some (.ref cd) → News g L h' [(cd, listOf (List.toArray ws) c2), (pn, listOf #[.ref cl, .int i tk1, .int t tt] 0), (cl, listOf (List.toArray vs) cap), (L + 1 + 1, oL), (L + 1, oP)] → @Ne Nat cd pn → 0 ≤ i → i ≤ 40 → (∃ cs, IntsAre ws cs ∧ cs.length ≤ 7 ∧ ∀ c ∈ cs, Good c) → Q .next { s with heap := h', toks := tk' }) :
    wpAny (model PySem.Challenge.rw_pb0193_01.row.prog w) (mkA dp un fr gd) (exec (lawSt w 2) (lawEnv w qual L fa cdv)) Q (fun _ _ => False) s := by
  obtain ⟨X, T, hdp, hun⟩ := B
  show wpAny _ _ (exec (Stmt.Assign _ _ _) (envOfC _ (Scope.mk _ _ _ _ _) _ _ _)) _ _ _
  k_steps
  all_goals (try k_data)
  rename IsRange _ _ _ _ _ _ _ _ => hr
  show LCg.CompSrc _ _ _ _ _ _ _ _ _ _ _ _ _ _
  obtain ⟨n, rfl⟩ : ∃ n : Nat, v9 = (n : Int) := ⟨v9.toNat, by (first | lia | omega)⟩
  refine LCg.CompSrc.range (n := n) (by rfl) (by k_asm) (by k_asm) hr (small_one (by decide) (by decide) (by (first | lia | omega)) (by (first | lia | omega))) (by rw [rangeSize_one]; split <;> (first | lia | omega)) (by rw [PySem.sizeLine_eq]; (first | lia | omega)) ?_
  intro g'
  refine compRest_S (σ := Int × Tok) (a₀ := (1, tk9)) (fun a => [(pn, listOf #[.ref cl, .int a.1 a.2, .int t tt] 0), (cl, listOf (List.toArray vs) cap), (L + 1 + 1, oL), (L + 1, oP)]) (fun i ys a => a.1 = 1 + 4 * (i : Int) ∧ ∃ cs, IntsAre ys cs ∧ cs.length = i ∧ ∀ c ∈ cs, Good c) rfl ⟨rfl, [], .nil, rfl, List.forall_mem_nil _⟩ ?_ ?_
  · rintro i v ys ⟨ai, at'⟩ Ia oI C oC D m₂ h tk E' hi ⟨tv, rfl⟩ hI9 hC hx F N off ne
    show wpAny _ _ _ _ _ _
    (try k_fold)
    obtain ⟨ha, cs, hy1, hy2, hy3⟩ := hI9
    dsimp only at ha F N off
    subst ha
    obtain ⟨o1, o2, o3⟩ := LCg.Off3.mem off _ (.head _)
    show wpAny _ _ _ _ _ _
    (try k_fold)
    k_steps
    all_goals (try k_data)
    refine LCg.CompEnd.intro (by k_asm) (by k_asm) [(pn, listOf #[.ref cl, .int (1 + 4 * (i : Int) + 4) tk9, .int t tt] 0), (cl, listOf (List.toArray vs) cap), (L + 1 + 1, oL), (L + 1, oP)] (fun p hp => ?_) (LCg.Off3.of fun p hp => ?_) trivial ⟨(_, _), rfl, by show 1 + 4 * (i : Int) + 4 = 1 + 4 * ((i + 1 : Nat) : Int); (first | lia | omega), _, intsAre_snoc hy1, by rw [List.length_append, hy2]; rfl, fun c hc => ?_⟩
    · exact hp
    · rcases List.mem_cons.mp hp with e | hp
      · rw [e]; exact ⟨o1, o2, o3⟩
      · exact LCg.Off3.mem off _ (.tail _ hp)
    · rcases List.mem_append.mp hc with hc | hc
      · exact hy3 c hc
      · rw [List.mem_singleton.mp hc]; exact g9
  · rintro ys ⟨ai, at'⟩ ⟨ha, cs, hy1, hy2, hy3⟩
    unfold LCg.FinA
    intro D h tk F N o1
    exact k _ _ D ys _ _ _ _ F rfl N (Ne.symm o1.1) (by (first | lia | omega)) (by dsimp only at ha; (first | lia | omega)) ⟨cs, hy1, by (first | lia | omega), hy3⟩
end PSt2
section PSt3
theorem off_St3 : True := by
  w_top off
  exact trivial
local macro_rules | `(tactic| walk_at "binaryOp Add ref ref") => `(tactic| walk_at "addI")
theorem st3 {w : World} {mean : ExcName → Option Value} {mg mb : Str → Option Value} {dp un : Nat} {fr : Option (List Env)} {gd : Option (List Code)} {g : Heap} {L fa : Addr} {qual : Str} {cdv : Value} {m : Str → Option Value} {s : Shared} {Q : Flow → Shared → Prop} {news : Led}
    (B : Amb2 w mean mg mb dp un g) (F : Fr g L s.heap m) (N : News g L s.heap news)
    (k : ∀ h' tk' kn ws cap m', Fr g L h' m' → m' (Str.ofString "known") = some (.ref kn) → (∀ y, y ≠ Str.ofString "known" → m' y = m y) → News g L h' ((kn, listOf (List.toArray ws) cap) :: news) → (∀ p ∈ news, p.1 < kn) → (∃ ks, IntsAre ws ks ∧ ks.length = 68 ∧ ∀ c, (c = 65 ∨ (4352 ≤ c ∧ c < 4371) ∨ (4449 ≤ c ∧ c < 4470) ∨ (4520 ≤ c ∧ c < 4547)) → c ∈ ks) → Q .next { s with heap := h', toks := tk' }) :
    wpAny (model PySem.Challenge.rw_pb0193_01.row.prog w) (mkA dp un fr gd) (exec (lawSt w 3) (lawEnv w qual L fa cdv)) Q (fun _ _ => False) s := by
  obtain ⟨X, T, hdp, hun⟩ := B
  show wpAny _ _ (exec (Stmt.Assign _ _ _) (envOfC _ (Scope.mk _ _ _ _ _) _ _ _)) _ _ _
  k_steps
  all_goals (try k_data)
  rename_i D7 ws7 h6 hI7 l7 h7 F7 N7
  refine k _ _ D7 ws7 _ _ F7 rfl (fun y hy => if_neg hy) (fun p hp => N7 p (by
    rcases List.mem_cons.mp hp with e | hp
    · rw [e]; exact .head _
    · exact .tail _ (.tail _ (.tail _ (.tail _ hp))))) (allLt_mem l7.2.2.2) ⟨_, hI7, rfl, fun c hc => ?_⟩
  have hr : ∀ (a b : Int), a ≤ c → c < b → c ∈ rangeInts a 1 (b - a).toNat := fun a b h1 h2 => List.mem_map.mpr ⟨(c - a).toNat, List.mem_range.mpr (by (first | lia | omega)), by rw [Int.mul_one]; (first | lia | omega)⟩
  rcases hc with rfl | h | h | h
  · exact List.mem_append_left _ (List.mem_append_left _ (List.mem_append_left _ (.head _)))
  · exact List.mem_append_left _ (List.mem_append_left _ (List.mem_append_right _ (hr _ _ h.1 h.2)))
  · exact List.mem_append_left _ (List.mem_append_right _ (hr _ _ h.1 h.2))
  · exact List.mem_append_right _ (hr _ _ h.1 h.2)
end PSt3
section PComp2
open PyProof.Rows in
theorem ListComp_TT {w : World} {A : Around} {E : Value → Shared → Prop} {s : Shared} {h₀ : Heap} {L : Addr} {m : Str → Option Value} {env : Env} {ct elt iter : PySem.Expr} {x : Str} {px : Pos} {scope : Scope} {cl : List (Str × Addr)} {pos : Pos} {Q : Value → Shared → Prop} (F₀ : Fr h₀ L s.heap m)
    (hclos : closureFor scope env = pure cl) (hcell : ∀ y ∈ scope.names, y.2 ≠ .cell) (hkind : scope.kind = .function)
    (hnames : ∀ y ∈ scope.names, y.2 = .local → scope.names.lookup y.1 = some .local) (hx : scope.names.lookup x = some .local)
    (h : wpAny (model PR w) A (eval iter env) (fun xv s₁ => Stop (∃ ax its nt news, xv = .ref ax ∧ A.handled = none ∧ Fr h₀ L s₁.heap m ∧ News h₀ L s₁.heap news ∧ (ax, ({ cls := .type "tuple", data := .seq its nt } : Obj)) ∈ news ∧ its.size ≤ sizeLine ∧
      ∀ g, LCt.CompRestT PR w A h₀ L m env ct elt x scope cl { s₁ with heap := g } (fun nw => (ax, ({ cls := .type "tuple", data := .seq its nt } : Obj)) ∈ nw) (fun i v => its[i]? = some v) (LCg.FinE h₀ L m { s₁ with heap := g } Q) its.size 0 [] news)) E s)
    (hs : ∀ x, foldedSetIterable iter env x = pure x := by intro _; rfl) :
    wpAny (model PR w) A (eval (.ListComp elt [⟨.Name x px, iter, [ct], 0⟩] scope pos) env) Q E s := by
  rw [eval_ListComp]
  refine wpAny_comprehension_free (use := none) rfl hs hclos hkind hnames (wpAny_mono h (fun xv s₁ h₁ => ?_) fun _ _ e => e)
  obtain ⟨ax, its, nt, news, rfl, hh, F, N, hm, hsz, R⟩ := h₁.out
  have hl : s₁.heap.IsTuple ax its := ⟨_, (N _ hm).1, rfl, nt, rfl⟩
  have hlt : ax < s₁.heap.objs.size := Heap.lt_size (N _ hm).1
  refine wpAny_pyIter_tuple hl ?_
  have up : ∀ b o, s₁.heap.get? b = some o → (s₁.heap.push { cls := .type "tuple_iterator", data := .fields #[.ref ax, .int 0 0] }).get? b = some o := fun b o e => Heap.get?_push_of_some _ e
  refine LCt.block_T (Walks.tuple hh s₁.heap.objs.size ax (Nat.ne_of_lt hlt) its) hsz (fun i h st => by obtain ⟨o, e, _⟩ := st.1; exact ⟨o, e⟩)
    (fun i h h' o nw st e e' k N' S => ⟨by obtain ⟨o', q, r⟩ := st.1; rw [e] at q; cases q; exact ⟨o, e', r⟩, ⟨_, (N' _ S).1, rfl, nt, rfl⟩⟩) hcell hkind hx ⟨⟨_, Heap.get?_push_size _ rfl, rfl, rfl⟩, hl.push _⟩ (fun b hb => ?_)
    (F.keeps up) (N.grown up) (Nat.ne_of_lt F.ns.lt) (next_is_new F) (fun p hp => Nat.ne_of_lt (Heap.lt_size (N p hp).1)) hm (R _) ?_
  · show b < (s₁.heap.push _).objs.size
    rw [Heap.size_push]
    rcases List.mem_cons.mp hb with rfl | hb
    · exact Nat.lt_succ_self _
    · rw [List.mem_singleton.mp hb]; exact Nat.lt_succ_of_lt hlt
  · intro D C h tk m' ys news' F' N' o1 hn hC₀ hD₀ hCL hDL hCD offC fin
    refine ⟨m', hn, fun h'' hs'' => fin D h'' tk (F'.change hs'' hCL hC₀) (fun p hp => ?_) o1⟩
    refine ⟨hs''.extBut _ _ ?_ (N' p hp).1, (N' p hp).2⟩
    rcases List.mem_cons.mp hp with rfl | hp
    · exact Ne.symm hCD
    · exact offC p hp
theorem compRestT_S {prog : Program} {w : World} {A : Around} {h₀ : Heap} {L : Addr} {m : Str → Option Value} {env : Env} {ct elt : PySem.Expr} {xn : Str} {scope : Scope} {cl : List (Str × Addr)} {s : Shared} {S : Led → Prop} {P : Nat → Value → Prop} {Fin : List Value → Led → Prop} {news : Led} {n : Nat} {σ : Type} {a₀ : σ}
    (led : σ → Led) (I : Nat → List Value → σ → Prop) (e₀ : led a₀ = news) (i₀ : I 0 [] a₀)
    (turn : ∀ i v ys a Ia oI C oC D m₂ h tk (E' : Value → Shared → Prop), i < n → P i v → I i ys a → LCg.NsObj oC m₂ → m₂ xn = some v → Fr h₀ L h m → News h₀ L h ((Ia, oI) :: (C, oC) :: (D, LCg.lst ys) :: led a) → LCg.Off3 Ia C D (led a) → ((@Ne Nat Ia C) ∧ (@Ne Nat Ia D) ∧ (@Ne Nat C D)) →
      wpAny (model prog w) A (isTrue ct (compEnvC scope cl C env) (eval ct (compEnvC scope cl C env))) (fun ok s' => if ok = true then
        wpAny (model prog w) A (eval elt (compEnvC scope cl C env)) (LCg.CompEnd h₀ L m { s with heap := h, toks := tk } Ia oI C oC D (LCg.lst ys) S (fun y news' => ∃ a', news' = led a' ∧ I (i + 1) (ys ++ [y]) a')) E' s'
        else LCg.CompEnd h₀ L m { s with heap := h, toks := tk } Ia oI C oC D (LCg.lst ys) S (fun _ news' => ∃ a', news' = led a' ∧ I (i + 1) ys a') Value.none s') E' { s with heap := h, toks := tk })
    (fin : ∀ ys a, I n ys a → Fin ys (led a)) : LCt.CompRestT prog w A h₀ L m env ct elt xn scope cl s S P Fin n 0 [] news := by
  have key : ∀ (j i : Nat) (ys : List Value) (a : σ), i + j = n → I i ys a → LCt.CompRestT prog w A h₀ L m env ct elt xn scope cl s S P Fin j i ys (led a) := by
    intro j
    induction j with
    | zero =>
      intro i ys a hi hI
      have e : i = n := by (first | lia | omega)
      subst e
      exact LCt.CompRestT.zero (fin ys a hI)
    | succ j ih =>
      intro i ys a hi hI
      refine LCt.CompRestT.succ ?_
      intro v Ia oI C oC D m₂ h tk E' hv hC hx F N off ne
      refine wpAny_mono (turn i v ys a Ia oI C oC D m₂ h tk E' (by (first | lia | omega)) hv hI hC hx F N off ne) (fun ok s₂ hq => ?_) fun _ _ e => e
      cases ok with
      | true =>
        simp only [if_true] at hq ⊢
        refine wpAny_mono hq (fun y s₃ hq3 => ?_) fun _ _ e => e
        obtain ⟨h', tk', nw, e, F', N', off', hS, a', rfl, hI'⟩ := hq3
        exact ⟨h', tk', _, e, F', N', off', hS, ih (i + 1) _ a' (by (first | lia | omega)) hI'⟩
      | false =>
        simp only [Bool.false_eq_true, if_false] at hq ⊢
        obtain ⟨h', tk', nw, e, F', N', off', hS, a', rfl, hI'⟩ := hq
        exact ⟨h', tk', _, e, F', N', off', hS, ih (i + 1) _ a' (by (first | lia | omega)) hI'⟩
  rw [← e₀]
  exact key n 0 [] a₀ (by (first | lia | omega)) i₀
theorem compRestP_S {prog : Program} {w : World} {A : Around} {h₀ : Heap} {L : Addr} {m : Str → Option Value} {env : Env} {elt : PySem.Expr} {xn xn2 : Str} {scope : Scope} {cl : List (Str × Addr)} {s : Shared} {S : Led → Prop} {P : Nat → Value → Prop} {Fin : List Value → Led → Prop} {news : Led} {n : Nat} {σ : Type} {a₀ : σ}
    (led : σ → Led) (I : Nat → List Value → σ → Prop) (e₀ : led a₀ = news) (i₀ : I 0 [] a₀)
    (turn : ∀ i v ys a, i < n → P i v → I i ys a → ∃ (t : Addr) (ot : Obj) (v₁ v₂ : Value) (nt : Nat), v = .ref t ∧ (t, ot) ∈ led a ∧ ot.cls = .type "tuple" ∧ ot.data = .seq #[v₁, v₂] nt ∧
      ∀ Ia oI C oC D m₂ h tk (E' : Value → Shared → Prop), LCg.NsObj oC m₂ → m₂ xn = some v₁ → m₂ xn2 = some v₂ → Fr h₀ L h m → News h₀ L h ((Ia, oI) :: (C, oC) :: (D, LCg.lst ys) :: led a) → LCg.Off3 Ia C D (led a) → ((@Ne Nat Ia C) ∧ (@Ne Nat Ia D) ∧ (@Ne Nat C D)) →
      wpAny (model prog w) A (eval elt (compEnvC scope cl C env)) (LCg.CompEnd h₀ L m { s with heap := h, toks := tk } Ia oI C oC D (LCg.lst ys) S (fun y news' => ∃ a', news' = led a' ∧ I (i + 1) (ys ++ [y]) a')) E' { s with heap := h, toks := tk })
    (fin : ∀ ys a, I n ys a → Fin ys (led a)) : LCp.CompRestP prog w A h₀ L m env elt xn xn2 scope cl s S P Fin n 0 [] news := by
  have key : ∀ (j i : Nat) (ys : List Value) (a : σ), i + j = n → I i ys a → LCp.CompRestP prog w A h₀ L m env elt xn xn2 scope cl s S P Fin j i ys (led a) := by
    intro j
    induction j with
    | zero =>
      intro i ys a hi hI
      have e : i = n := by (first | lia | omega)
      subst e
      exact LCp.CompRestP.zero (fin ys a hI)
    | succ j ih =>
      intro i ys a hi hI
      refine LCp.CompRestP.succ ?_
      intro v hv
      obtain ⟨t, ot, v₁, v₂, nt, e1, e2, e3, e4, H⟩ := turn i v ys a (by (first | lia | omega)) hv hI
      refine ⟨t, ot, v₁, v₂, nt, e1, e2, e3, e4, ?_⟩
      intro Ia oI C oC D m₂ h tk E' hC hx hx2 F N off ne
      refine wpAny_mono (H Ia oI C oC D m₂ h tk E' hC hx hx2 F N off ne) (fun y s₂ hq => ?_) fun _ _ e => e
      obtain ⟨h', tk', nw, e, F', N', off', hS, a', rfl, hI'⟩ := hq
      exact ⟨h', tk', _, e, F', N', off', hS, ih (i + 1) _ a' (by (first | lia | omega)) hI'⟩
  rw [← e₀]
  exact key n 0 [] a₀ (by (first | lia | omega)) i₀
theorem ListComp_PS {w : World} {A : Around} {E : Value → Shared → Prop} {s : Shared} {h₀ : Heap} {L : Addr} {m : Str → Option Value} {env : Env} {elt iter : PySem.Expr} {x x₂ : Str} {px px₂ tp : Pos} {tk} {scope : Scope} {cl : List (Str × Addr)} {pos : Pos} {Q : Value → Shared → Prop} (F₀ : Fr h₀ L s.heap m)
    (hclos : closureFor scope env = pure cl) (hcell : ∀ y ∈ scope.names, y.2 ≠ .cell) (hkind : scope.kind = .function)
    (hnames : ∀ y ∈ scope.names, y.2 = .local → scope.names.lookup y.1 = some .local) (hx : scope.names.lookup x = some .local) (hx₂ : scope.names.lookup x₂ = some .local) (hxx : x ≠ x₂)
    (h : wpAny (model PR w) A (eval iter env) (fun xv s₁ => Stop (LCp.SrcLP PR w A h₀ L m env elt x x₂ scope cl (fun s₂ => LCg.FinE h₀ L m s₂ Q) xv s₁)) E s)
    (hs : ∀ x, foldedSetIterable iter env x = pure x := by intro _; rfl) :
    wpAny (model PR w) A (eval (.ListComp elt [⟨.Tuple [.Name x px, .Name x₂ px₂] tk tp, iter, [], 0⟩] scope pos) env) Q E s := LCp.ListComp_P F₀ hclos hcell hkind hnames hx hx₂ hxx h hs
end PComp2
section PLoops2
abbrev tupOf (its : Array Value) (n : Nat) : Obj := { cls := .type "tuple", data := .seq its n }
theorem for_tuple_S {w : World} {A : Around} {E : Value → Shared → Prop} {s : Shared} {env : Env} {g : Heap} {m₀ : Str → Option Value} {xn : Str} {body : List Stmt} {Q : Flow → Shared → Prop} {σ : Type} {x₀ : σ} {its : Array Value} {n : Nat} {l : Addr} {news : Led}
    (upd : σ → (Str → Option Value) → Str → Option Value) (led : σ → Led) (I : Nat → σ → Prop)
    (hh : A.handled = none) (F : Fr g env.locals s.heap m₀) (N : News g env.locals s.heap news) (hl : (l, tupOf its n) ∈ news) (hled : ∀ p ∈ led x₀, p ∈ news) (e₀ : upd x₀ m₀ = m₀) (i₀ : I 0 x₀)
    (turn : ∀ i v x h tk it oi, its[i]? = some v → I i x → Fr g env.locals h (fun y => if y = xn then some v else upd x m₀ y) → News g env.locals h ((it, oi) :: (l, tupOf its n) :: led x) → l ≠ it → (∀ p ∈ led x, p.1 ≠ it) →
      wpAny (model PR w) A (execs body env) (FEnd g env.locals upd led I m₀ s Q xn [(it, oi), (l, tupOf its n)] it i) E { s with heap := h, toks := tk })
    (done : ∀ x u h tk, I its.size x → Fr g env.locals h (fun y => if y = xn then u else upd x m₀ y) → News g env.locals h (led x) → Q .next { s with heap := h, toks := tk }) :
    wpAny (model PR w) A (pyIter (.ref l)) (fun it s₂ => LoopAtV PR w A g env xn body Q E it s₂) E s := by
  have hls : s.heap.IsTuple l its := ⟨_, (N _ hl).1, rfl, n, rfl⟩
  have hlt : l < s.heap.objs.size := Heap.lt_size (N _ hl).1
  have hne : l ≠ s.heap.objs.size := Nat.ne_of_lt hlt
  have hLl : l ≠ env.locals := (N _ hl).2.1
  have hsub : ∀ p ∈ (l, tupOf its n) :: led x₀, p ∈ news := fun p hp => by
    rcases List.mem_cons.mp hp with rfl | hp
    · exact hl
    · exact hled p hp
  refine wpAny_pyIter_tuple hls ?_
  have W := Walks.tuple (prog := PR) (w := w) hh s.heap.objs.size l hne its
  refine ⟨_, _, _, its.size, _, _, m₀, (l, tupOf its n) :: led x₀, fun i m₁ news₁ => ∃ x, news₁ = (l, tupOf its n) :: led x ∧ I i x ∧ ∀ y, y ≠ xn → m₁ y = upd x m₀ y, rfl, W, ?_, ?_, ?_, ⟨⟨_, Heap.get?_push_size _ rfl, rfl, rfl⟩, hls.at fun o e => Heap.get?_push_of_some _ e⟩, F.push _,
    (fun p hp => ⟨Heap.get?_push_of_some _ (N p (hsub p hp)).1, (N p (hsub p hp)).2⟩), ⟨x₀, rfl, i₀, fun y _ => by rw [e₀]⟩, ?_, ?_⟩
  · intro hm
    rcases List.mem_cons.mp hm with e | hm
    · exact absurd F.ns.lt (e ▸ Nat.lt_irrefl _)
    · exact hLl (List.mem_singleton.mp hm).symm
  · intro b hb
    rw [List.mem_singleton.mp hb]
    exact next_is_new F
  · intro p hp hI
    exact absurd (Heap.lt_size (N p (hsub p hp)).1) ((List.mem_singleton.mp hI) ▸ Nat.lt_irrefl _)
  · rintro i v m₁ news₁ s₁ own hZ1 hin hP hZ2 hoff hown hown2 hown3 hst' F₁ N₁
    show wpAny _ _ _ _ _ _
    k_fold
    obtain ⟨hh', tk', rfl⟩ := hZ1
    obtain ⟨x, rfl, hJ, hm⟩ := hZ2
    obtain ⟨⟨oi, hoi, hoir⟩, ⟨ol, hol, holr⟩⟩ := hst'
    have h1 : (s.heap.objs.size, oi) ∈ own := hown3 _ (.head _) (next_is_new F) oi hoi
    have q2 := (N₁ (l, tupOf its n) (List.mem_append_right _ (.head _))).1
    have hownE : ∀ p ∈ own, p = (s.heap.objs.size, oi) ∨ p = (l, tupOf its n) := fun p hp => by
      have e := hown2 p hp
      rcases List.mem_cons.mp (hown p hp) with e1 | e1
      · left
        rw [e1] at e
        have := hoi.symm.trans e
        exact Prod.ext e1 (Option.some.inj this).symm
      · right
        have e1 := List.mem_singleton.mp e1
        rw [e1] at e
        have := q2.symm.trans e
        exact Prod.ext e1 (Option.some.inj this).symm
    rw [off_it hm] at F₁
    refine wpAny_mono (turn i v x hh' tk' s.heap.objs.size oi hP hJ F₁ (fun p hp => ?_) hne (fun p hp => ?_)) (fun f s₂ hf => ?_) fun _ _ e => e
    · rcases List.mem_cons.mp hp with rfl | hp
      · exact N₁ _ (List.mem_append_left _ h1)
      · exact N₁ _ (List.mem_append_right _ hp)
    · exact fun e => hoff p (.tail _ hp) (e ▸ List.mem_singleton.mpr rfl)
    · have fin : (∃ x h' tk'' m' news', s₂ = { s with heap := h', toks := tk'' } ∧ I (i + 1) x ∧ Fr g env.locals h' m' ∧ (∀ y, y ≠ xn → m' y = upd x m₀ y) ∧ News g env.locals h' news' ∧ (∀ p ∈ [(s.heap.objs.size, oi), (l, tupOf its n)], p ∈ news') ∧ (∀ p ∈ led x, p ∈ news') ∧ ∀ p ∈ led x, p.1 ≠ s.heap.objs.size) →
          LoopStepU g env.locals [s.heap.objs.size] own (fun m₁ news₁ => ∃ x, news₁ = (l, tupOf its n) :: led x ∧ I (i + 1) x ∧ ∀ y, y ≠ xn → m₁ y = upd x m₀ y) { s with heap := hh', toks := tk' } .next s₂ := by
        rintro ⟨x', h', tk'', m', news', rfl, hI, F', hm', N', ho, hn, hne'⟩
        refine LoopStepU.intro F' (fun p hp => ?_) (fun p hp => ?_) ⟨x', rfl, hI, hm'⟩
        · rcases List.mem_append.mp hp with hp | hp
          · rcases hownE p hp with rfl | rfl
            · exact N' _ (ho _ (.head _))
            · exact N' _ (ho _ (.tail _ (.head _)))
          · rcases List.mem_cons.mp hp with rfl | hp
            · exact N' _ (ho _ (.tail _ (.head _)))
            · exact N' _ (hn _ hp)
        · rcases List.mem_cons.mp hp with rfl | hp
          · exact fun z => hne (List.mem_singleton.mp z)
          · exact fun z => hne' p hp (List.mem_singleton.mp z)
      cases f with
      | ret v => exact .ret hf
      | brk => exact .brk hf
      | next => exact .next (fin hf)
      | cont => exact .cont (fin hf)
  · rintro h' tk m' news' F' N' _ ⟨x, rfl, hJ, hm⟩
    rw [off_out hm] at F'
    exact done x _ h' tk hJ F' fun p hp => N' p (.tail _ hp)
end PLoops2
section PSt4b
theorem off_St4b : True := by
  w_top off
  exact trivial
noncomputable def st4In (w : World) : Stmt := match lawSt w 4 with | .For _ _ [.For _ _ [_, s] _ _] _ _ => s | s => s
set_option hygiene false in
local macro_rules | `(tactic| walk_at "eval Name") => `(tactic| (k_here; (with_reducible refine nmIs "known" ?_); k_dflt (refine' ld ?k1 ?k2 ?_; (case k1 => k_asm); (case k2 => exact hm1); k_whole)))
set_option hygiene false in
local macro_rules | `(tactic| walk_at "eval Name") => `(tactic| (k_here; (with_reducible refine nmIs "whole" ?_); k_dflt (refine' ld ?k1 ?k2 ?_; (case k1 => k_asm); (case k2 => exact hm2); k_whole)))
local macro_rules | `(tactic| walk_at "binaryOp Add ref ref") => `(tactic| walk_at "addI")
set_option hygiene false in
local macro_rules | `(tactic| walk_at "P330") => `(tactic| (case P => intro H9 b9 b8; exact ⟨_, _, ⟨_, b8 (_, _) (by k_mem) (by k_ne), rfl, _, rfl⟩, by assumption, by assumption⟩))
local macro_rules | `(tactic| walk_at "call ref") => callL "1" 330 "draw_c a0 a1 a2 a3 a4 a5" "uF uU aX P330 uX" "v9 t9 tk9 e9 l9 u9 eo9 ew9" "sE sX dJ zO"
local macro_rules | `(tactic| walk_at "eval ListComp") => refL "" "ListComp_TT" "F₀ wur dec rfl dec rfl ?" ""
theorem three_int {a b c : Int} {ta tb tc : Tok} {j : Nat} {v : Value} (h : (#[Value.int a ta, .int b tb, .int c tc] : Array Value)[j]? = some v) : ∃ x t, v = .int x t := by
  match j, h with
  | 0, h => exact ⟨_, _, (Option.some.inj h).symm⟩
  | 1, h => exact ⟨_, _, (Option.some.inj h).symm⟩
  | 2, h => exact ⟨_, _, (Option.some.inj h).symm⟩
  | j + 3, h => simp at h
local macro_rules | `(tactic| k_all) => `(tactic| assumption)
theorem st4b {w : World} {mean : ExcName → Option Value} {mg mb : Str → Option Value} {dp un : Nat} {fr : Option (List Env)} {gd : Option (List Code)} {g : Heap} {L fa cl pn cd kn : Addr} {qual : Str} {cdv : Value} {m : Str → Option Value} {s : Shared} {Q : Flow → Shared → Prop} {vs ws us : List Value} {ns ks : List Int} {cap c2 c3 : Nat} {rest : Led} {oP oL : Obj} {tk0 tt tw : Tok} {t i wh : Int}
    (B : Amb2 w mean mg mb dp un g) (F : Fr g L s.heap m) (N : News g L s.heap ((kn, listOf (List.toArray us) c3) :: (cd, listOf (List.toArray ws) c2) :: (pn, listOf #[.ref cl, .int i tk0, .int t tt] 0) :: (cl, listOf (List.toArray vs) cap) :: (L + 1 + 1, oL) :: (L + 1, oP) :: rest)) (hI : IntsAre vs ns) (hn : ns.length ≤ 60) (hP : oP.data = .cell (some (.ref pn))) (ht0 : 0 ≤ t) (ht1 : t < 997) (n1 : @Ne Nat cl pn) (n2 : @Ne Nat (L + 1 + 1) pn) (n3 : @Ne Nat (L + 1) pn) (n4 : @Ne Nat cd pn) (n5 : @Ne Nat kn pn) (hr : ∀ p ∈ rest, p.1 ≠ pn)
    (hm1 : m (Str.ofString "known") = some (.ref kn)) (hm2 : m (Str.ofString "whole") = some (.int wh tw)) (hw0 : 0 ≤ wh) (hw1 : wh < 100000) (hi0 : 0 ≤ i) (hi1 : i ≤ 80) (hks : IntsAre us ks) (hkl : ks.length ≤ 100)
    (k : ∀ h' tk' kn' us' c3' i' tk1 m', Fr g L h' m' → m' (Str.ofString "known") = some (.ref kn') → (∀ y, y ≠ Str.ofString "known" → m' y = m y) → News g L h' ((kn', listOf (List.toArray us') c3') :: (cd, listOf (List.toArray ws) c2) :: (pn, listOf #[.ref cl, .int i' tk1, .int t tt] 0) :: (cl, listOf (List.toArray vs) cap) :: (L + 1 + 1, oL) :: (L + 1, oP) :: rest) → (∀ p ∈ rest, p.1 < kn') → @Ne Nat kn' pn → 0 ≤ i' → i' ≤ i + 3 → (∃ ks', IntsAre us' ks' ∧ ks'.length ≤ ks.length + 3 ∧ ∀ c ∈ ks, c ∈ ks') → Q .next { s with heap := h', toks := tk' }) :
    wpAny (model PySem.Challenge.rw_pb0193_01.row.prog w) (mkA dp un fr gd) (exec (st4In w) (lawEnv w qual L fa cdv)) Q (fun _ _ => False) s := by
  obtain ⟨X, T, hdp, hun⟩ := B
  show wpAny _ _ (exec (Stmt.Assign _ _ _) (envOfC _ (Scope.mk _ _ _ _ _) _ _ _)) _ _ _
  k_steps
  all_goals (try k_data)
  rename_i D0 h0 F0 N0 l0
  have d1 : @Ne Nat D0 pn := Nat.ne_of_gt l0.2.2.1
  refine ⟨D0, _, _, _, rfl, trivial, F0, N0, .head _, Nat.le_of_ble_eq_true rfl, ?_⟩
  intro g'
  clear N0 F0
  refine compRestT_S (σ := Int × Tok) (a₀ := (i, tk0)) (fun a => (D0, { cls := .type "tuple", data := .seq #[.int wh _, .int (wh + 1) _, .int (wh + 27) _] _ }) :: (kn, listOf (List.toArray us) c3) :: (cd, listOf (List.toArray ws) c2) :: (pn, listOf #[.ref cl, .int a.1 a.2, .int t tt] 0) :: (cl, listOf (List.toArray vs) cap) :: (L + 1 + 1, oL) :: (L + 1, oP) :: rest) (fun j ys a => 0 ≤ a.1 ∧ a.1 ≤ i + j ∧ ∃ cs, IntsAre ys cs ∧ cs.length ≤ j) rfl ⟨hi0, by show i ≤ i + ((0 : Nat) : Int); (first | lia | omega), [], .nil, Nat.le_refl _⟩ ?_ ?_
  · rintro j v ys ⟨ai, ta⟩ Ia oI C oC D m₂ h tk E' hj hv hI9 hC hx F N off ne
    show wpAny _ _ _ _ _ _
    (try k_fold)
    obtain ⟨ha, hb, cs, hy1, hy2⟩ := hI9
    obtain ⟨x, tx, rfl⟩ := three_int hv
    dsimp only at ha hb F N off
    have hj3 : j < 3 := hj
    obtain ⟨o1, o2, o3⟩ := LCg.Off3.mem off (pn, _) (.tail _ (.tail _ (.tail _ (.head _))))
    dsimp only at o1 o2 o3
    show wpAny _ _ _ _ _ _
    (try k_fold)
    k_steps
    all_goals (try k_data)
    · exact LCg.CompEnd.intro F9 N9 _ (fun p hp => hp) off (.head _) ⟨(ai + 1, tk9), rfl, by show 0 ≤ ai + 1; (first | lia | omega), by show ai + 1 ≤ i + ((j + 1 : Nat) : Int); (first | lia | omega), cs ++ [x], intsAre_snoc hy1, by rw [List.length_append]; exact Nat.succ_le_succ hy2⟩
    · exact LCg.CompEnd.intro F9 N9 _ (fun p hp => hp) off (.head _) ⟨(ai + 1, tk9), rfl, by show 0 ≤ ai + 1; (first | lia | omega), by show ai + 1 ≤ i + ((j + 1 : Nat) : Int); (first | lia | omega), cs, hy1, Nat.le_succ_of_le hy2⟩
  · rintro ys ⟨ai, ta⟩ ⟨ha, hb, cs, hy1, hy2⟩
    dsimp only at ha hb
    unfold LCg.FinE
    intro D h tk F N o1
    (try dsimp only at N)
    (try dsimp only)
    k_steps
    all_goals (try k_data)
    rename_i D7 ws7 h6 hI7 l7 h7 F7 N7
    have hb : ai ≤ i + 3 := hb
    have hy2 : cs.length ≤ 3 := hy2
    exact k _ _ D7 ws7 _ _ _ _ F7 rfl (fun y hy => if_neg hy) (fun p hp => N7 p (by
      rcases List.mem_cons.mp hp with e | hp
      · rw [e]; exact .head _
      · exact .tail _ (.tail _ (.tail _ (.tail _ hp))))) (allLt_mem l7.2.2.2.2.2.2.2.2) (Nat.ne_of_gt l7.2.2.2.2.1) ha hb ⟨_, hI7, by rw [List.length_append]; (first | lia | omega), fun c hc => List.mem_append_left _ hc⟩
end PSt4b
section PSt4
theorem off_St4 : True := by
  w_top off
  exact trivial
local macro_rules | `(tactic| walk_at "exec For Name Tuple cons nil") => `(tactic| walk_at "forS")
structure KS where
  kn : Addr
  us : List Value
  c3 : Nat
  i : Int
  tk : Tok
  vw : Option Value
  vv : Option Value
def updK3 (vk vw vv : Option Value) (m : Str → Option Value) : Str → Option Value := fun y => if y = Str.ofString "known" then vk else if y = Str.ofString "whole" then vw else if y = Str.ofString "vowel" then vv else m y
def updK2 (vk vw : Option Value) (m : Str → Option Value) : Str → Option Value := fun y => if y = Str.ofString "known" then vk else if y = Str.ofString "whole" then vw else m y
theorem updK3_of {m m₀ : Str → Option Value} {vk vw vv : Option Value} (h1 : m (Str.ofString "known") = vk) (h2 : m (Str.ofString "whole") = vw) (h3 : m (Str.ofString "vowel") = vv) {y : Str} (ho : y ≠ Str.ofString "known" → y ≠ Str.ofString "whole" → y ≠ Str.ofString "vowel" → m y = m₀ y) : m y = updK3 vk vw vv m₀ y := by
  unfold updK3
  by_cases e1 : y = Str.ofString "known"
  · rw [if_pos e1, e1, h1]
  rw [if_neg e1]
  by_cases e2 : y = Str.ofString "whole"
  · rw [if_pos e2, e2, h2]
  rw [if_neg e2]
  by_cases e3 : y = Str.ofString "vowel"
  · rw [if_pos e3, e3, h3]
  rw [if_neg e3]
  exact ho e1 e2 e3
theorem updK2_of {m m₀ : Str → Option Value} {vk vw : Option Value} (h1 : m (Str.ofString "known") = vk) (h2 : m (Str.ofString "whole") = vw) {y : Str} (ho : y ≠ Str.ofString "known" → y ≠ Str.ofString "whole" → m y = m₀ y) : m y = updK2 vk vw m₀ y := by
  unfold updK2
  by_cases e1 : y = Str.ofString "known"
  · rw [if_pos e1, e1, h1]
  rw [if_neg e1]
  by_cases e2 : y = Str.ofString "whole"
  · rw [if_pos e2, e2, h2]
  rw [if_neg e2]
  exact ho e1 e2
theorem updK2_self {m : Str → Option Value} {vk vw : Option Value} (h1 : m (Str.ofString "known") = vk) (h2 : m (Str.ofString "whole") = vw) : updK2 vk vw m = m := funext fun _ => (updK2_of h1 h2 (fun _ _ => rfl)).symm
theorem two_int {a b : Int} {ta tb : Tok} {j : Nat} {v : Value} (ha0 : 0 ≤ a) (ha1 : a ≤ 20) (hb0 : 0 ≤ b) (hb1 : b ≤ 20) (h : (#[Value.int a ta, .int b tb] : Array Value)[j]? = some v) : ∃ x t, v = .int x t ∧ 0 ≤ x ∧ x ≤ 20 := by
  match j, h with
  | 0, h => exact ⟨_, _, (Option.some.inj h).symm, ha0, ha1⟩
  | 1, h => exact ⟨_, _, (Option.some.inj h).symm, hb0, hb1⟩
  | j + 2, h => simp at h
set_option hygiene false in
local macro_rules | `(tactic| walk_at "exec Assign cons BinOp") => `(tactic| (k_here; (with_reducible refine asNm "known" ?_); refine Stop.out ?_))
theorem st4 {w : World} {mean : ExcName → Option Value} {mg mb : Str → Option Value} {dp un : Nat} {fr : Option (List Env)} {gd : Option (List Code)} {g : Heap} {L fa cl pn cd kn : Addr} {qual : Str} {cdv : Value} {m : Str → Option Value} {s : Shared} {Q : Flow → Shared → Prop} {vs ws us : List Value} {ns ks : List Int} {cap c2 c3 : Nat} {oP oL : Obj} {tk0 tt : Tok} {t i : Int}
    (B : Amb2 w mean mg mb dp un g) (F : Fr g L s.heap m) (N : News g L s.heap [(kn, listOf (List.toArray us) c3), (cd, listOf (List.toArray ws) c2), (pn, listOf #[.ref cl, .int i tk0, .int t tt] 0), (cl, listOf (List.toArray vs) cap), (L + 1 + 1, oL), (L + 1, oP)]) (hI : IntsAre vs ns) (hn : ns.length ≤ 60) (hP : oP.data = .cell (some (.ref pn))) (ht0 : 0 ≤ t) (ht1 : t < 997) (n1 : @Ne Nat cl pn) (n2 : @Ne Nat (L + 1 + 1) pn) (n3 : @Ne Nat (L + 1) pn) (n4 : @Ne Nat cd pn) (n5 : @Ne Nat kn pn)
    (hm1 : m (Str.ofString "known") = some (.ref kn)) (hi0 : 0 ≤ i) (hi1 : i ≤ 40) (hks : IntsAre us ks) (hkl : ks.length ≤ 68)
    (k : ∀ h' tk' kn' us' c3' i' tk1 m', Fr g L h' m' → m' (Str.ofString "known") = some (.ref kn') → m' (Str.ofString "codes") = m (Str.ofString "codes") → News g L h' [(kn', listOf (List.toArray us') c3'), (cd, listOf (List.toArray ws) c2), (pn, listOf #[.ref cl, .int i' tk1, .int t tt] 0), (cl, listOf (List.toArray vs) cap), (L + 1 + 1, oL), (L + 1, oP)] → (∃ ks', IntsAre us' ks' ∧ ks'.length ≤ 80 ∧ ∀ c ∈ ks, c ∈ ks') → Q .next { s with heap := h', toks := tk' }) :
    wpAny (model PySem.Challenge.rw_pb0193_01.row.prog w) (mkA dp un fr gd) (exec (lawSt w 4) (lawEnv w qual L fa cdv)) Q (fun _ _ => False) s := by
  obtain ⟨X, T, hdp, hun⟩ := id B
  show wpAny _ _ (exec (Stmt.For _ _ _ _ _) (envOfC _ (Scope.mk _ _ _ _ _) _ _ _)) _ _ _
  k_steps
  all_goals (try k_data)
  rename_i D0 h0 F0 N0 l0
  show wpAny _ _ _ _ _ _
  refine for_tuple_S (σ := KS) (x₀ := ⟨kn, us, c3, i, tk0, _, _⟩) (fun x => updK3 (some (.ref x.kn)) x.vw x.vv) (fun x => [(x.kn, listOf (List.toArray x.us) x.c3), (cd, listOf (List.toArray ws) c2), (pn, listOf #[.ref cl, .int x.i x.tk, .int t tt] 0), (cl, listOf (List.toArray vs) cap), (L + 1 + 1, oL), (L + 1, oP)])
    (fun j x => @Ne Nat x.kn pn ∧ 0 ≤ x.i ∧ x.i ≤ i + 6 * j ∧ ∃ ks', IntsAre x.us ks' ∧ ks'.length ≤ ks.length + 6 * j ∧ ∀ c ∈ ks, c ∈ ks') rfl F0 N0 (.head _) (fun p hp => .tail _ hp) (funext fun y => (updK3_of hm1 rfl rfl (fun _ _ _ => rfl)).symm) ⟨n5, hi0, by show i ≤ i + 6 * ((0 : Nat) : Int); (first | lia | omega), ks, hks, Nat.le_refl _, fun c hc => hc⟩ ?_ ?_
  · rintro j v ⟨kn1, us1, c31, i1, tk1, vw1, vv1⟩ h tk it oi hv hI9 F N hlt hne
    show wpAny _ _ _ _ _ _
    (try k_fold)
    obtain ⟨j1, j2, j3, ks1, j4, j5, j6⟩ := hI9
    obtain ⟨x, tx, rfl, hx0, hx1⟩ := two_int (by decide) (by decide) (by decide) (by decide) hv
    have hj : j < 2 := (Array.getElem?_eq_some_iff.mp hv).1
    dsimp only at j1 j2 j3 j4 j5 F N hne
    show wpAny _ _ _ _ _ _
    (try k_fold)
    k_steps
    all_goals (try k_data)
    rename_i D1 h1 F1 N1 l1
    have p0 : @Ne Nat it pn := Ne.symm (hne (pn, _) (.tail _ (.tail _ (.head _))))
    have p1 : @Ne Nat D1 pn := Nat.ne_of_gt l1.2.2.2.2.1
    have p2 : @Ne Nat D0 pn := Nat.ne_of_gt l0.2.2.1
    have p3 : @Ne Nat kn1 it := hne (kn1, _) (.head _)
    have p4 : ∀ p ∈ [(cd, listOf (List.toArray ws) c2), (cl, listOf (List.toArray vs) cap), (L + 1 + 1, oL), (L + 1, oP)], p.1 ≠ it := fun p hp => by
      rcases List.mem_cons.mp hp with e | hp
      · rw [e]; exact hne (cd, _) (.tail _ (.head _))
      · exact hne p (.tail _ (.tail _ (.tail _ hp)))
    clear hne
    show wpAny _ _ _ _ _ _
    refine for_tuple_S (σ := KS) (x₀ := ⟨kn1, us1, c31, i1, tk1, vw1, none⟩) (fun x => updK2 (some (.ref x.kn)) x.vw) (fun x => [(x.kn, listOf (List.toArray x.us) x.c3), (cd, listOf (List.toArray ws) c2), (pn, listOf #[.ref cl, .int x.i x.tk, .int t tt] 0), (cl, listOf (List.toArray vs) cap), (L + 1 + 1, oL), (L + 1, oP), (it, oi), (D0, _)])
      (fun j' x => @Ne Nat x.kn pn ∧ @Ne Nat x.kn it ∧ 0 ≤ x.i ∧ x.i ≤ i1 + 3 * j' ∧ ∃ ks', IntsAre x.us ks' ∧ ks'.length ≤ ks1.length + 3 * j' ∧ ∀ c ∈ ks, c ∈ ks') rfl F1 N1 (.head _) (by lcg_sub) (updK2_self rfl rfl) ⟨j1, p3, j2, by show i1 ≤ i1 + 3 * ((0 : Nat) : Int); (first | lia | omega), ks1, j4, Nat.le_refl _, j6⟩ ?_ ?_
    · rintro j' v ⟨kn2, us2, c32, i2, tk2, vw2, vv2⟩ h tk it2 oi2 hv2 hI9 F N hlt2 hne
      show wpAny _ _ _ _ _ _
      (try k_fold)
      obtain ⟨q1, q2, q3, q4, ks2, q5, q6, q7⟩ := hI9
      obtain ⟨x2, tx2, rfl, hx20, hx21⟩ := two_int (by decide) (by decide) (by decide) (by decide) hv2
      have hj' : j' < 2 := (Array.getElem?_eq_some_iff.mp hv2).1
      dsimp only at q1 q2 q3 q4 q5 q6 F N hne
      show wpAny _ _ _ _ _ _
      (try k_fold)
      k_steps
      all_goals (try k_data)
      rename_i h7 F7 N7
      show wpAny _ _ _ _ _ _
      have z0 : @Ne Nat it2 pn := Ne.symm (hne (pn, _) (.tail _ (.tail _ (.head _))))
      refine st4b B (rest := [(it2, oi2), (D1, _), (it, oi), (D0, _)]) F7 (fun p hp => N7 p (by revert p; lcg_sub)) hI hn hP ht0 ht1 n1 n2 n3 n4 q1 ?_ rfl rfl (by (first | lia | omega)) (by (first | lia | omega)) q3 (by (first | lia | omega)) q5 (by (first | lia | omega)) ?_
      · intro p hp
        rcases List.mem_cons.mp hp with e | hp
        · rw [e]; exact z0
        rcases List.mem_cons.mp hp with e | hp
        · rw [e]; exact p1
        rcases List.mem_cons.mp hp with e | hp
        · rw [e]; exact p0
        · rw [List.mem_singleton.mp hp]; exact p2
      rintro h9 tk9 kn9 us9 c9 i9 tk8 m9 F9 hm9 ho9 N9 hr9 n9 hi9 hj9 ⟨ks9, hk9, hl9, hs9⟩
      show wpAny _ _ _ _ _ _
      refine wpAny_execs_nil ?_
      refine FEnd.next ⟨kn9, us9, c9, i9, tk8, m9 (Str.ofString "whole"), none⟩ F9 N9 (by lcg_sub) (by lcg_sub) (fun p hp => ?_) (fun y hy => updK2_of hm9 rfl (fun e1 e2 => by rw [ho9 y e1]; show (if y = _ then _ else _) = _; rw [if_neg e2]; show (if y = _ then _ else _) = _; rw [if_neg hy]; show updK2 _ _ _ _ = _; unfold updK2; rw [if_neg e1, if_neg e2])) ⟨n9, Nat.ne_of_lt' (hr9 (it, _) (.tail _ (.tail _ (.head _)))), hi9, by show i9 ≤ i1 + 3 * ((j' + 1 : Nat) : Int); (first | lia | omega), ks9, hk9, by show ks9.length ≤ ks1.length + 3 * (j' + 1); (first | lia | omega), fun c hc => hs9 c (q7 c hc)⟩
      rcases List.mem_cons.mp hp with e | hp
      · rw [e]; exact Nat.ne_of_gt (hr9 (it2, _) (.head _))
      · rcases List.mem_cons.mp hp with e | hp
        · rw [e]; exact hne (cd, _) (.tail _ (.head _))
        rcases List.mem_cons.mp hp with e | hp
        · rw [e]; exact Ne.symm z0
        exact hne p (.tail _ (.tail _ (.tail _ hp)))
    · rintro ⟨kn2, us2, c32, i2, tk2, vw2, vv2⟩ u h tk ⟨q1, q2, q3, q4, ks2, q5, q6, q7⟩ F N
      dsimp only at q1 q2 q3 q4 q5 q6 F N
      have q4 : i2 ≤ i1 + 3 * 2 := q4
      have q6 : ks2.length ≤ ks1.length + 3 * 2 := q6
      show wpAny _ _ _ _ _ _
      refine wpAny_execs_nil ?_
      refine FEnd.next ⟨kn2, us2, c32, i2, tk2, vw2, u⟩ F N (by lcg_sub) (by lcg_sub) (fun p hp => ?_) (fun y hy => by
          show (if y = Str.ofString "vowel" then u else updK2 (some (.ref kn2)) vw2 (fun y => if y = Str.ofString "lead" then some (.int x tx) else updK3 (some (.ref kn1)) vw1 vv1 m y) y) = updK3 (some (.ref kn2)) vw2 u m y
          unfold updK2 updK3
          by_cases e1 : y = Str.ofString "known"
          · subst e1; rfl
          by_cases e2 : y = Str.ofString "whole"
          · subst e2; rfl
          by_cases e3 : y = Str.ofString "vowel"
          · subst e3; rfl
          simp only [if_neg e1, if_neg e2, if_neg e3, if_neg hy]) ⟨q1, q3, by show i2 ≤ i + 6 * ((j + 1 : Nat) : Int); (first | lia | omega), ks2, q5, by show ks2.length ≤ ks.length + 6 * (j + 1); (first | lia | omega), q7⟩
      rcases List.mem_cons.mp hp with e | hp
      · rw [e]; exact q2
      rcases List.mem_cons.mp hp with e | hp
      · rw [e]; exact p4 (cd, _) (.head _)
      rcases List.mem_cons.mp hp with e | hp
      · rw [e]; exact Ne.symm p0
      · exact p4 p (.tail _ hp)
  · rintro ⟨kn1, us1, c31, i1, tk1, vw1, vv1⟩ u h tk ⟨j1, j2, j3, ks1, j4, j5, j6⟩ F N
    dsimp only at j1 j2 j3 j4 j5 F N
    have j5 : ks1.length ≤ ks.length + 6 * 2 := j5
    exact k _ _ kn1 us1 _ _ _ _ F rfl rfl N ⟨ks1, j4, by (first | lia | omega), j6⟩
end PSt4
section PLoops3
def JEnd {σ : Type} (g : Heap) (L : Addr) (led : σ → Led) (J : Nat → σ → (Str → Option Value) → Prop) (s : Shared) (Q : Flow → Shared → Prop) (own : Led) (off : Addr × Obj → Prop) (i : Nat) (f : Flow) (s' : Shared) : Prop :=
  match f with
  | .ret v => Q (.ret v) s'
  | .brk => Q .next s'
  | _ => ∃ x h' tk' m' news', s' = { s with heap := h', toks := tk' } ∧ J (i + 1) x m' ∧ Fr g L h' m' ∧ News g L h' news' ∧ (∀ p ∈ own, p ∈ news') ∧ (∀ p ∈ led x, p ∈ news') ∧ ∀ p ∈ led x, off p
theorem JEnd.next {σ : Type} {g : Heap} {L : Addr} {led : σ → Led} {J : Nat → σ → (Str → Option Value) → Prop} {s : Shared} {Q : Flow → Shared → Prop} {own : Led} {off : Addr × Obj → Prop} {i : Nat} {h' : Heap} {tk' : Nat} {m' : Str → Option Value} {news' : Led}
    (x : σ) (F : Fr g L h' m') (N : News g L h' news') (ho : ∀ p ∈ own, p ∈ news') (hn : ∀ p ∈ led x, p ∈ news') (hoff : ∀ p ∈ led x, off p) (hJ : J (i + 1) x m') :
    JEnd g L led J s Q own off i .next { s with heap := h', toks := tk' } := ⟨x, h', tk', m', news', rfl, hJ, F, N, ho, hn, hoff⟩
theorem for_list_J {w : World} {A : Around} {E : Value → Shared → Prop} {s : Shared} {env : Env} {g : Heap} {m₀ : Str → Option Value} {xn : Str} {body : List Stmt} {Q : Flow → Shared → Prop} {σ : Type} {x₀ : σ} {its : Array Value} {n : Nat} {l : Addr} {news : Led}
    (led : σ → Led) (J : Nat → σ → (Str → Option Value) → Prop)
    (hh : A.handled = none) (F : Fr g env.locals s.heap m₀) (N : News g env.locals s.heap news) (hl : (l, listOf its n) ∈ news) (hled : ∀ p ∈ led x₀, p ∈ news) (i₀ : J 0 x₀ m₀)
    (turn : ∀ i v x m₁ h tk it oi, its[i]? = some v → J i x m₁ → Fr g env.locals h (fun y => if y = xn then some v else m₁ y) → News g env.locals h ((it, oi) :: (l, listOf its n) :: led x) → l ≠ it → (∀ p ∈ led x, p.1 ≠ it) →
      wpAny (model PR w) A (execs body env) (JEnd g env.locals led J s Q [(it, oi), (l, listOf its n)] (fun p => p.1 ≠ it) i) E { s with heap := h, toks := tk })
    (done : ∀ x m₁ h tk, J its.size x m₁ → Fr g env.locals h m₁ → News g env.locals h (led x) → Q .next { s with heap := h, toks := tk }) :
    wpAny (model PR w) A (pyIter (.ref l)) (fun it s₂ => LoopAtV PR w A g env xn body Q E it s₂) E s := by
  have hls : s.heap.IsList l its := ⟨_, (N _ hl).1, rfl, n, rfl⟩
  have hlt : l < s.heap.objs.size := Heap.lt_size (N _ hl).1
  have hne : l ≠ s.heap.objs.size := Nat.ne_of_lt hlt
  have hLl : l ≠ env.locals := (N _ hl).2.1
  have hsub : ∀ p ∈ (l, listOf its n) :: led x₀, p ∈ news := fun p hp => by
    rcases List.mem_cons.mp hp with rfl | hp
    · exact hl
    · exact hled p hp
  refine wpAny_pyIter_list hls ?_
  have W := Walks.list (prog := PR) (w := w) hh s.heap.objs.size l hne its
  refine ⟨_, _, _, its.size, _, _, m₀, (l, listOf its n) :: led x₀, fun i m₁ news₁ => ∃ x, news₁ = (l, listOf its n) :: led x ∧ J i x m₁, rfl, W, ?_, ?_, ?_, ⟨⟨_, Heap.get?_push_size _ rfl, rfl, rfl⟩, hls.at fun o e => Heap.get?_push_of_some _ e⟩, F.push _,
    (fun p hp => ⟨Heap.get?_push_of_some _ (N p (hsub p hp)).1, (N p (hsub p hp)).2⟩), ⟨x₀, rfl, i₀⟩, ?_, ?_⟩
  · intro hm
    rcases List.mem_cons.mp hm with e | hm
    · exact absurd F.ns.lt (e ▸ Nat.lt_irrefl _)
    · exact hLl (List.mem_singleton.mp hm).symm
  · intro b hb
    rw [List.mem_singleton.mp hb]
    exact next_is_new F
  · intro p hp hI
    exact absurd (Heap.lt_size (N p (hsub p hp)).1) ((List.mem_singleton.mp hI) ▸ Nat.lt_irrefl _)
  · rintro i v m₁ news₁ s₁ own hZ1 hin hP hZ2 hoff hown hown2 hown3 hst' F₁ N₁
    show wpAny _ _ _ _ _ _
    k_fold
    obtain ⟨hh', tk', rfl⟩ := hZ1
    obtain ⟨x, rfl, hJ⟩ := hZ2
    obtain ⟨⟨oi, hoi, hoir⟩, ⟨ol, hol, holr⟩⟩ := hst'
    have h1 : (s.heap.objs.size, oi) ∈ own := hown3 _ (.head _) (next_is_new F) oi hoi
    have q2 := (N₁ (l, listOf its n) (List.mem_append_right _ (.head _))).1
    have hownE : ∀ p ∈ own, p = (s.heap.objs.size, oi) ∨ p = (l, listOf its n) := fun p hp => by
      have e := hown2 p hp
      rcases List.mem_cons.mp (hown p hp) with e1 | e1
      · left
        rw [e1] at e
        have := hoi.symm.trans e
        exact Prod.ext e1 (Option.some.inj this).symm
      · right
        have e1 := List.mem_singleton.mp e1
        rw [e1] at e
        have := q2.symm.trans e
        exact Prod.ext e1 (Option.some.inj this).symm
    refine wpAny_mono (turn i v x m₁ hh' tk' s.heap.objs.size oi hP hJ F₁ (fun p hp => ?_) hne (fun p hp => ?_)) (fun f s₂ hf => ?_) fun _ _ e => e
    · rcases List.mem_cons.mp hp with rfl | hp
      · exact N₁ _ (List.mem_append_left _ h1)
      · exact N₁ _ (List.mem_append_right _ hp)
    · exact fun e => hoff p (.tail _ hp) (e ▸ List.mem_singleton.mpr rfl)
    · have fin : (∃ x h' tk'' m' news', s₂ = { s with heap := h', toks := tk'' } ∧ J (i + 1) x m' ∧ Fr g env.locals h' m' ∧ News g env.locals h' news' ∧ (∀ p ∈ [(s.heap.objs.size, oi), (l, listOf its n)], p ∈ news') ∧ (∀ p ∈ led x, p ∈ news') ∧ ∀ p ∈ led x, p.1 ≠ s.heap.objs.size) →
          LoopStepU g env.locals [s.heap.objs.size] own (fun m₁ news₁ => ∃ x, news₁ = (l, listOf its n) :: led x ∧ J (i + 1) x m₁) { s with heap := hh', toks := tk' } .next s₂ := by
        rintro ⟨x', h', tk'', m', news', rfl, hI, F', N', ho, hn, hne'⟩
        refine LoopStepU.intro F' (fun p hp => ?_) (fun p hp => ?_) ⟨x', rfl, hI⟩
        · rcases List.mem_append.mp hp with hp | hp
          · rcases hownE p hp with rfl | rfl
            · exact N' _ (ho _ (.head _))
            · exact N' _ (ho _ (.tail _ (.head _)))
          · rcases List.mem_cons.mp hp with rfl | hp
            · exact N' _ (ho _ (.tail _ (.head _)))
            · exact N' _ (hn _ hp)
        · rcases List.mem_cons.mp hp with rfl | hp
          · exact fun z => hne (List.mem_singleton.mp z)
          · exact fun z => hne' p hp (List.mem_singleton.mp z)
      cases f with
      | ret v => exact .ret hf
      | brk => exact .brk hf
      | next => exact .next (fin hf)
      | cont => exact .cont (fin hf)
  · rintro h' tk m' news' F' N' _ ⟨x, rfl, hJ⟩
    exact done x m' h' tk hJ F' fun p hp => N' p (.tail _ hp)
theorem enum_J {w : World} {A : Around} {E : Value → Shared → Prop} {s : Shared} {env : Env} {g : Heap} {m₀ : Str → Option Value} {elts : List PySem.Expr} {k : Nat} {pos : Pos} {body : List Stmt} {Q : Flow → Shared → Prop} {σ : Type} {x₀ : σ} {vs : List Value} {n : Nat} {l : Addr} {news : Led}
    (led : σ → Led) (J : Nat → σ → (Str → Option Value) → Prop)
    (hh : A.handled = none) (F : Fr g env.locals s.heap m₀) (N : News g env.locals s.heap news) (hl : (l, listOf (List.toArray vs) n) ∈ news) (hlx : ∀ x, (l, listOf (List.toArray vs) n) ∈ led x) (hled : ∀ p ∈ led x₀, p ∈ news) (i₀ : J 0 x₀ m₀)
    (turn : ∀ i v x m₁ h tk T t I oE oI, vs[i]? = some v → J i x m₁ → IsTup h T #[.int (i : Nat) t, v] → Fr g env.locals h m₁ → News g env.locals h ((I + 1, oE) :: (I, oI) :: led x) → (∀ p ∈ led x, p.1 ≠ I + 1 ∧ p.1 ≠ I) →
      wpAny (model PR w) A (assign (.Tuple elts k pos) env (.ref T)) (fun _ s₂ => wpAny (model PR w) A (execs body env) (JEnd g env.locals led J { s with heap := h, toks := tk } Q [(I + 1, oE), (I, oI)] (fun p => p.1 ≠ I + 1 ∧ p.1 ≠ I) i) E s₂) E { s with heap := h, toks := tk })
    (done : ∀ x m₁ h tk, J vs.length x m₁ → Fr g env.locals h m₁ → News g env.locals h (led x) → Q .next { s with heap := h, toks := tk }) :
    wpAny (model PR w) A (call (.type "enumerate") [.ref l]) (fun xv s₁ => Stop (wpAny (model PR w) A (pyIter xv) (fun it s₂ => TurnsAt PR w A g env (.Tuple elts k pos) body Q E it s₂) E s₁)) E s := by
  have N0 : News g env.locals s.heap (led x₀) := fun p hp => N p (hled p hp)
  refine ktu_enum hh F N0 (hlx x₀) rfl rfl rfl fun I hI => ?_
  have key : ∀ (r : List Value) (i : Nat) (x : σ) (m : Str → Option Value), vs.drop i = r → i ≤ vs.length → J i x m → (∀ p ∈ led x, p.1 ≠ I + 1 ∧ p.1 ≠ I) →
      ItemsRest PR w A E g env (.Tuple elts k pos) body Q s [(I + 1, "enumerate"), (I, "list_iterator")] [(l, listOf (List.toArray vs) n)] (enumItems i r) m (led x) := by
    intro r
    induction r with
    | nil =>
      intro i x m hd hi hJ hne
      refine ItemsRest.zero fun h tk F' N' => ?_
      have e : i = vs.length := by
        have := congrArg List.length hd
        rw [List.length_drop] at this
        simp at this
        (first | lia | omega)
      exact done x m h tk (e ▸ hJ) F' N'
    | cons v r ih =>
      intro i x m hd hi hJ hne
      have hlt : i < vs.length := by
        rcases Nat.lt_or_ge i vs.length with h | h
        · exact h
        · rw [List.drop_of_length_le h] at hd; cases hd
      have hv : vs[i]? = some v := by
        rw [List.drop_eq_getElem_cons hlt] at hd
        rw [List.getElem?_eq_getElem hlt]
        exact congrArg some (List.cons.inj hd).1
      have hr : vs.drop (i + 1) = r := by
        rw [List.drop_eq_getElem_cons hlt] at hd
        exact (List.cons.inj hd).2
      show ItemsRest PR w A E g env (.Tuple elts k pos) body Q s _ _ (.pair (Value.int ((i : Nat) : Int)) v :: enumItems (i + 1) r) m (led x)
      refine ItemsRest.pair fun T t h tk hT F' => AllObj.cons fun oE hE => AllObj.cons fun oI hI' => AllObj.nil fun N' => ?_
      refine wpAny_mono (turn i v x m h tk T t I oE oI hv hJ hT F' N' hne) (fun _ s₂ h₂ => wpAny_mono h₂ (fun f s₃ h₃ => ?_) fun _ _ e => e) fun _ _ e => e
      have fin : JEnd g env.locals led J { s with heap := h, toks := tk } Q [(I + 1, oE), (I, oI)] (fun p => p.1 ≠ I + 1 ∧ p.1 ≠ I) i .next s₃ → UnrEndW g env.locals { s with heap := h, toks := tk } [(I + 1, oE), (I, oI)] (fun m' n' => SubL [(l, listOf (List.toArray vs) n)] n' ∧ ItemsRest PR w A E g env (.Tuple elts k pos) body Q s [(I + 1, "enumerate"), (I, "list_iterator")] [(l, listOf (List.toArray vs) n)] (enumItems (i + 1) r) m' n') s₃ := by
        rintro ⟨x', h', tk', m', news', rfl, hJ', F3, N3, ho, hn, hoff⟩
        refine ⟨h', tk', m', led x', rfl, F3, fun p hp => ?_, fun p hp q hq => ?_, ⟨hlx x', trivial⟩, ih (i + 1) x' m' hr hlt hJ' hoff⟩
        · rcases List.mem_append.mp hp with hp | hp
          · exact N3 p (ho p hp)
          · exact N3 p (hn p hp)
        · rcases List.mem_cons.mp hq with rfl | hq
          · exact (hoff p hp).1
          · rw [List.mem_singleton.mp hq]; exact (hoff p hp).2
      cases f with
      | ret v => exact h₃
      | brk => exact h₃
      | next => exact fin h₃
      | cont => exact fin h₃
  exact key vs 0 x₀ m₀ rfl (Nat.zero_le _) i₀ (fun p hp => ⟨Nat.ne_of_lt (Nat.lt_succ_of_lt (hI p hp)), Nat.ne_of_lt (hI p hp)⟩)
end PLoops3
section PDone
structure TP where
  x : Addr
  c : Int
  tc : Tok
  k : Int
  tk : Tok
def TP.ref (t : TP) : Value := .ref t.x
def TP.cc (t : TP) : Int × Int := (t.c, t.k)
def tupsL (ts : List TP) : Led := ts.map fun t => (t.x, tup2 t.c t.tc t.k t.tk)
theorem tupsL_mem {ts : List TP} {t : TP} (h : t ∈ ts) : (t.x, tup2 t.c t.tc t.k t.tk) ∈ tupsL ts := List.mem_map.mpr ⟨t, h, rfl⟩
theorem tupsL_append {a b : List TP} : tupsL (a ++ b) = tupsL a ++ tupsL b := List.map_append
def lwhole (done : List (Int × Int)) (part : Int) : Int := match done.getLast? with
  | none => 0
  | some l => ljoined l.1 part
def lstep (ks : List Int) (done : List (Int × Int)) (p : Int × Int) : List (Int × Int) :=
  match done.getLast? with
  | none => done ++ [p]
  | some l => if 0 < ljoined l.1 p.1 ∧ (ks.any fun x => x == ljoined l.1 p.1) = true then (done.dropLast.map fun q => (q.1, if l.2 ≤ q.2 then l.2 else q.2)) ++ [(ljoined l.1 p.1, l.2)] else done ++ [p]
noncomputable def st6In (w : World) (i : Nat) : Stmt := match lawSt w 6 with | .For _ _ [.For _ _ [a, b] _ _] _ _ => (if i = 0 then a else b) | s => s
def dPair (p : Int × Int) : PyData := .tuple [.int p.1, .int p.2]
theorem dPair_lay : ∀ l : List (Int × Int), PyData.canLayAll0 (l.map dPair) = true
  | [] => rfl
  | p :: r => by simp [PyData.canLayAll0, PyData.canLay0, dPair, dPair_lay r]
theorem dPair_depth : ∀ l : List (Int × Int), PyData.depthAll (l.map dPair) ≤ 1
  | [] => Nat.zero_le _
  | p :: r => by
    have := dPair_depth r
    simp only [List.map_cons, PyData.depthAll, dPair, PyData.depth]
    (first | lia | omega)
theorem shaped_dPair (l : List (Int × Int)) : SeqAt.shaped (.list (l.map dPair)) = true := by
  have := dPair_depth l
  unfold SeqAt.shaped
  rw [PyData.canLay0, PyData.depth, dPair_lay, Bool.true_and]
  exact decide_eq_true (by (first | lia | omega))
theorem eqv_dPair : ∀ l r : List (Int × Int), PyData.eqvAll (l.map dPair) (r.map dPair) = decide (l = r)
  | [], [] => by simp [PyData.eqvAll]
  | [], _ :: _ => by simp [PyData.eqvAll]
  | _ :: _, [] => by simp [PyData.eqvAll]
  | (a, b) :: r, (c, d) :: t => by
    simp only [List.map_cons, PyData.eqvAll, dPair, PyData.eqv, eqv_dPair r t]
    by_cases h1 : a = c <;> by_cases h2 : b = d <;> by_cases h3 : r = t <;> simp [h1, h2, h3]
theorem reads_tups {h : Heap} : ∀ (ts : List TP), (∀ t ∈ ts, h.get? t.x = some (tup2 t.c t.tc t.k t.tk)) → ∃ as, ReadsAll h (ts.map TP.ref) ((ts.map TP.cc).map dPair) as
  | [], _ => ⟨_, .nil⟩
  | t :: r, H => by
    obtain ⟨as, ih⟩ := reads_tups r fun q hq => H q (.tail _ hq)
    exact ⟨_, .cons (reads_tuple_at (H t (.head _)) rfl rfl (.cons (.int _ _) (.cons (.int _ _) .nil))) ih⟩
theorem tups_ne {w : World} {A : Around} {E : Value → Shared → Prop} {s : Shared} {a b : Addr} {ts us : List TP} {n1 n2 : Nat} {Q : Value → Shared → Prop}
    (ha : s.heap.get? a = some (listOf (List.toArray (ts.map TP.ref)) n1)) (hb : s.heap.get? b = some (listOf (List.toArray (us.map TP.ref)) n2))
    (hts : ∀ t ∈ ts, s.heap.get? t.x = some (tup2 t.c t.tc t.k t.tk)) (hus : ∀ t ∈ us, s.heap.get? t.x = some (tup2 t.c t.tc t.k t.tk)) (hu : A.units + 64 < cLine) (h : Q (.bool (!decide (ts.map TP.cc = us.map TP.cc))) s) :
    wpAny (model PR w) A (compareOp .NotEq (.ref a) (.ref b)) Q E s := by
  obtain ⟨as, r1⟩ := reads_tups ts hts
  obtain ⟨bs, r2⟩ := reads_tups us hus
  refine ne_dataH (reads_list_at ha rfl rfl (by exact r1)) (reads_list_at hb rfl rfl (by exact r2)) (shaped_dPair _) (shaped_dPair _) hu ?_
  have e : PyData.eqv (.list ((ts.map TP.cc).map dPair)) (.list ((us.map TP.cc).map dPair)) = decide (ts.map TP.cc = us.map TP.cc) := by
    rw [PyData.eqv]; exact eqv_dPair _ _
  rw [e]
  exact h
theorem item_neg {w : World} {A : Around} {E : Value → Shared → Prop} {s : Shared} {g : Heap} {L l : Addr} {vs : List Value} {v : Value} {n : Nat} {news : Led} {u : Tok} {value slice : PySem.Expr} {Q : Value → Shared → Prop}
    (N : News g L s.heap news) (hl : (l, listOf (List.toArray (vs ++ [v])) n) ∈ news) (h : Q v s)
    (hs : subscripted slice false (.ref l) (.int (-1) u) = operate [.ref l, .int (-1) u] (getItem (.ref l) (.int (-1) u)) := by with_unfolding_all rfl) :
    wpAny (model PR w) A (subscriptTail value slice (.ref l) (.int (-1) u)) Q E s :=
  have hL : s.heap.IsList l (List.toArray (vs ++ [v])) := ⟨_, (N _ hl).1, rfl, n, rfl⟩
  have hsz : (List.toArray (vs ++ [v])).size = vs.length + 1 := by rw [List.size_toArray, List.length_append]; rfl
  tail_any hL.typeIs slot_list_getitem.lookup (wpAny_getItem_list_neg hL (by decide) (by rw [hsz]; (first | lia | omega)) (by decide) (by rw [hsz, show (-1 + ((vs.length + 1 : Nat) : Int)).toNat = vs.length by (first | lia | omega)]; simp) h) hs
theorem ne_nil_led {w : World} {A : Around} {E : Value → Shared → Prop} {s : Shared} {g : Heap} {L a b : Addr} {init : List TP} {l : TP} {n1 n2 : Nat} {news tail : Led} {Q : Value → Shared → Prop}
    (N : News g L s.heap news) (ha : (a, listOf (List.toArray (init.map TP.ref ++ [.ref l.x])) n1) ∈ news) (hb : (b, listOf #[] n2) ∈ news) (hts : ∀ t ∈ init ++ [l], (t.x, tup2 t.c t.tc t.k t.tk) ∈ tail) (hsub : ∀ p ∈ tail, p ∈ news) (hu : A.units + 64 < cLine) (h : Q (.bool true) s) :
    wpAny (model PR w) A (compareOp .NotEq (.ref a) (.ref b)) Q E s := by
  have e : init.map TP.ref ++ [.ref l.x] = (init ++ [l]).map TP.ref := by rw [List.map_append]; rfl
  rw [e] at ha
  refine tups_ne (ts := init ++ [l]) (us := []) (N _ ha).1 (N _ hb).1 (fun t ht => (N _ (hsub _ (hts t ht))).1) (List.forall_mem_nil _) hu ?_
  have e2 : ((init ++ [l]).map TP.cc = ([] : List TP).map TP.cc) ↔ False := by simp
  rw [show decide ((init ++ [l]).map TP.cc = ([] : List TP).map TP.cc) = false from decide_eq_false (fun z => e2.mp z)]
  exact h
end PDone
section PSt6w
local macro_rules | `(tactic| walk_at "no such key") => `(tactic| skip)
theorem off_St6w : True := by
  w_top off
  exact trivial
set_option hygiene false in
local macro_rules | `(tactic| walk_at "eval Name") => `(tactic| (k_here; (with_reducible refine nmIs "done" ?_); k_dflt (refine' ld ?k1 ?k2 ?_; (case k1 => k_asm); (case k2 => exact hm1); k_whole)))
set_option hygiene false in
local macro_rules | `(tactic| walk_at "eval Name") => `(tactic| (k_here; (with_reducible refine nmIs "part" ?_); k_dflt (refine' ld ?k1 ?k2 ?_; (case k1 => k_asm); (case k2 => exact hm2); k_whole)))
theorem st6w0 {w : World} {mean : ExcName → Option Value} {mg mb : Str → Option Value} {dp un : Nat} {fr : Option (List Env)} {gd : Option (List Code)} {g : Heap} {L fa D : Addr} {qual : Str} {cdv : Value} {m : Str → Option Value} {s : Shared} {Q : Flow → Shared → Prop} {n : Nat} {tail : Led} {pa : Int} {tp : Tok}
    (B : Amb2 w mean mg mb dp un g) (F : Fr g L s.heap m) (N : News g L s.heap ((D, listOf #[] n) :: tail)) (hm1 : m (Str.ofString "done") = some (.ref D)) (hm2 : m (Str.ofString "part") = some (.int pa tp))
    (k : ∀ h' tk' tw m', Fr g L h' m' → m' (Str.ofString "whole") = some (.int 0 tw) → (∀ y, y ≠ Str.ofString "whole" → m' y = m y) → News g L h' ((D, listOf #[] n) :: tail) → Q .next { s with heap := h', toks := tk' }) :
    wpAny (model PySem.Challenge.rw_pb0193_01.row.prog w) (mkA dp un fr gd) (exec (st6In w 0) (lawEnv w qual L fa cdv)) Q (fun _ _ => False) s := by
  obtain ⟨X, T, hdp, hun⟩ := id B
  show wpAny _ _ (exec (Stmt.Assign _ _ _) (envOfC _ (Scope.mk _ _ _ _ _) _ _ _)) _ _ _
  k_steps
  all_goals (try k_data)
  rename_i l7 h6 l8 h7 F7 N7
  exact k _ _ _ _ F7 rfl (fun y hy => if_neg hy) (fun p hp => N7 p (.tail _ hp))
set_option hygiene false in
local macro_rules | `(tactic| walk_at "htlK") => `(tactic| exact htl)
local macro_rules | `(tactic| walk_at "s3") => `(tactic| exact fun p hp => .tail _ (.tail _ (.tail _ hp)))
local macro_rules | `(tactic| walk_at "compareOp NotEq ref ref") => refL "neIs" "ne_nil_led" "kasm mem mem htlK s3 c_room ?" ""
local macro_rules | `(tactic| walk_at "subscriptTail") => `(tactic| walk_at "itemN")
local macro_rules | `(tactic| walk_at "call ref") => callL "P" 358 "joined_c a0 a1 a2 a3" "aX uF uX P0" "tw9 e9" "sE zP"
theorem st6w1 {w : World} {mean : ExcName → Option Value} {mg mb : Str → Option Value} {dp un : Nat} {fr : Option (List Env)} {gd : Option (List Code)} {g : Heap} {L fa D : Addr} {qual : Str} {cdv : Value} {m : Str → Option Value} {s : Shared} {Q : Flow → Shared → Prop} {n : Nat} {tail : Led} {pa : Int} {tp : Tok} {init : List TP} {l : TP}
    (B : Amb2 w mean mg mb dp un g) (F : Fr g L s.heap m) (N : News g L s.heap ((D, listOf (List.toArray (init.map TP.ref ++ [.ref l.x])) n) :: tail)) (htl : ∀ t ∈ init ++ [l], (t.x, tup2 t.c t.tc t.k t.tk) ∈ tail) (hlen : init.length ≤ 100) (hm1 : m (Str.ofString "done") = some (.ref D)) (hm2 : m (Str.ofString "part") = some (.int pa tp)) (hc0 : 0 ≤ l.c) (hc1 : l.c < 100000) (hp0 : 0 ≤ pa) (hp1 : pa < 100000)
    (k : ∀ h' tk' tw m', Fr g L h' m' → m' (Str.ofString "whole") = some (.int (ljoined l.c pa) tw) → (∀ y, y ≠ Str.ofString "whole" → m' y = m y) → News g L h' ((D, listOf (List.toArray (init.map TP.ref ++ [.ref l.x])) n) :: tail) → Q .next { s with heap := h', toks := tk' }) :
    wpAny (model PySem.Challenge.rw_pb0193_01.row.prog w) (mkA dp un fr gd) (exec (st6In w 0) (lawEnv w qual L fa cdv)) Q (fun _ _ => False) s := by
  obtain ⟨X, T, hdp, hun⟩ := id B
  show wpAny _ _ (exec (Stmt.Assign _ _ _) (envOfC _ (Scope.mk _ _ _ _ _) _ _ _)) _ _ _
  have N1 : News g L s.heap ((D, listOf (List.toArray (init.map TP.ref ++ [.ref l.x])) n) :: (l.x, tup2 l.c l.tc l.k l.tk) :: tail) := fun p hp => by
    rcases List.mem_cons.mp hp with e | hp
    · rw [e]; exact N _ (.head _)
    rcases List.mem_cons.mp hp with e | hp
    · rw [e]; exact N _ (.tail _ (htl l (List.mem_append_right _ (.head _))))
    · exact N _ (.tail _ hp)
  clear N
  k_steps
  all_goals (try k_data)
  rename_i l7 h6 l8 h7 F7 N7
  exact k _ _ _ _ F7 rfl (fun y hy => if_neg hy) (fun p hp => N7 p (.tail _ (by
    rcases List.mem_cons.mp hp with e | hp
    · rw [e]; exact .head _
    · exact .tail _ (.tail _ hp))))
theorem st6w {w : World} {mean : ExcName → Option Value} {mg mb : Str → Option Value} {dp un : Nat} {fr : Option (List Env)} {gd : Option (List Code)} {g : Heap} {L fa D : Addr} {qual : Str} {cdv : Value} {m : Str → Option Value} {s : Shared} {Q : Flow → Shared → Prop} {n : Nat} {tail : Led} {pa : Int} {tp : Tok} {ts : List TP}
    (B : Amb2 w mean mg mb dp un g) (F : Fr g L s.heap m) (N : News g L s.heap ((D, listOf (List.toArray (ts.map TP.ref)) n) :: tail)) (htl : ∀ t ∈ ts, (t.x, tup2 t.c t.tc t.k t.tk) ∈ tail) (hlen : ts.length ≤ 100) (hm1 : m (Str.ofString "done") = some (.ref D)) (hm2 : m (Str.ofString "part") = some (.int pa tp)) (hc : ∀ t ∈ ts, 0 ≤ t.c ∧ t.c < 100000) (hp0 : 0 ≤ pa) (hp1 : pa < 100000)
    (k : ∀ h' tk' tw m', Fr g L h' m' → m' (Str.ofString "whole") = some (.int (lwhole (ts.map TP.cc) pa) tw) → (∀ y, y ≠ Str.ofString "whole" → m' y = m y) → News g L h' ((D, listOf (List.toArray (ts.map TP.ref)) n) :: tail) → Q .next { s with heap := h', toks := tk' }) :
    wpAny (model PySem.Challenge.rw_pb0193_01.row.prog w) (mkA dp un fr gd) (exec (st6In w 0) (lawEnv w qual L fa cdv)) Q (fun _ _ => False) s := by
  rcases List.eq_nil_or_concat ts with rfl | ⟨init, l, rfl⟩
  · exact st6w0 B F N hm1 hm2 k
  · rw [List.concat_eq_append] at *
    have e : (init ++ [l]).map TP.ref = init.map TP.ref ++ [.ref l.x] := by rw [List.map_append]; rfl
    have e2 : lwhole ((init ++ [l]).map TP.cc) pa = ljoined l.c pa := by
      unfold lwhole
      rw [List.map_append]
      show (match (init.map TP.cc ++ [l.cc]).getLast? with | none => 0 | some l => ljoined l.1 pa) = _
      rw [List.getLast?_concat]
      rfl
    rw [e] at N k
    rw [e2] at k
    have hlc := hc l (List.mem_append_right _ (.head _))
    exact st6w1 B F N htl (by rw [List.length_append] at hlen; (first | lia | omega)) hm1 hm2 hlc.1 hlc.2 hp0 hp1 k
end PSt6w
section PSt6i
theorem off_St6i : True := by
  w_top off
  exact trivial
set_option hygiene false in
local macro_rules | `(tactic| walk_at "eval Name") => `(tactic| (k_here; (with_reducible refine nmIs "done" ?_); k_dflt (refine' ld ?k1 ?k2 ?_; (case k1 => k_asm); (case k2 => exact hm1); k_whole)))
set_option hygiene false in
local macro_rules | `(tactic| walk_at "eval Name") => `(tactic| (k_here; (with_reducible refine nmIs "part" ?_); k_dflt (refine' ld ?k1 ?k2 ?_; (case k1 => k_asm); (case k2 => exact hm2); k_whole)))
set_option hygiene false in
local macro_rules | `(tactic| walk_at "eval Name") => `(tactic| (k_here; (with_reducible refine nmIs "whole" ?_); k_dflt (refine' ld ?k1 ?k2 ?_; (case k1 => k_asm); (case k2 => exact hm3); k_whole)))
set_option hygiene false in
local macro_rules | `(tactic| walk_at "eval Name") => `(tactic| (k_here; (with_reducible refine nmIs "known" ?_); k_dflt (refine' ld ?k1 ?k2 ?_; (case k1 => k_asm); (case k2 => exact hm4); k_whole)))
set_option hygiene false in
local macro_rules | `(tactic| walk_at "eval Name") => `(tactic| (k_here; (with_reducible refine nmIs "at" ?_); k_dflt (refine' ld ?k1 ?k2 ?_; (case k1 => k_asm); (case k2 => exact hm5); k_whole)))
local macro_rules | `(tactic| walk_at "call builtin:list.append") => `(tactic| walk_at "app")
local macro_rules | `(tactic| k_all) => `(tactic| assumption)
theorem st6a {w : World} {mean : ExcName → Option Value} {mg mb : Str → Option Value} {dp un : Nat} {fr : Option (List Env)} {gd : Option (List Code)} {g : Heap} {L fa D kn : Addr} {qual : Str} {cdv : Value} {m : Str → Option Value} {s : Shared} {Q : Flow → Shared → Prop} {n c3 : Nat} {tail : Led} {pa av wv : Int} {tp ta tw : Tok} {ts : List TP} {us : List Value} {ks : List Int} {oL : Obj}
    (B : Amb2 w mean mg mb dp un g) (F : Fr g L s.heap m) (N : News g L s.heap ((D, listOf (List.toArray (ts.map TP.ref)) n) :: (kn, listOf (List.toArray us) c3) :: (L + 1 + 1, oL) :: tail)) (hlen : ts.length ≤ 100) (hm1 : m (Str.ofString "done") = some (.ref D)) (hm2 : m (Str.ofString "part") = some (.int pa tp)) (hm3 : m (Str.ofString "whole") = some (.int wv tw)) (hm4 : m (Str.ofString "known") = some (.ref kn)) (hm5 : m (Str.ofString "at") = some (.int av ta))
    (hI : IntsAre us ks) (hkl : ks.length ≤ 100) (d1 : @Ne Nat kn D) (d2 : @Ne Nat (L + 1 + 1) D) (d3 : ∀ p ∈ tail, p.1 ≠ D) (hw0 : 0 ≤ wv) (hw1 : wv < 100000) (hno : ¬ (0 < wv ∧ (ks.any fun x => x == wv) = true))
    (k : ∀ h' tk' T, Fr g L h' m → News g L h' ((T, tup2 pa tp av ta) :: (D, listOf (List.toArray (ts.map TP.ref ++ [.ref T])) (n + 1)) :: (kn, listOf (List.toArray us) c3) :: (L + 1 + 1, oL) :: tail) → (∀ p ∈ (D, listOf (List.toArray (ts.map TP.ref)) n) :: (kn, listOf (List.toArray us) c3) :: (L + 1 + 1, oL) :: tail, p.1 < T) → Q .next { s with heap := h', toks := tk' }) :
    wpAny (model PySem.Challenge.rw_pb0193_01.row.prog w) (mkA dp un fr gd) (exec (st6In w 1) (lawEnv w qual L fa cdv)) Q (fun _ _ => False) s := by
  obtain ⟨X, T, hdp, hun⟩ := id B
  show wpAny _ _ (exec (Stmt.If _ _ _ _) (envOfC _ (Scope.mk _ _ _ _ _) _ _ _)) _ _ _
  k_steps
  all_goals (try k_data)
  · exact absurd ⟨by assumption, by assumption⟩ hno
  · rename_i D7 h6 l7 h7 F7 N7
    exact k _ _ _ F7 N7 (allLt_mem (l := (D, listOf (List.toArray (ts.map TP.ref)) n) :: (kn, listOf (List.toArray us) c3) :: (L + 1 + 1, oL) :: tail) l7)
  · rename_i D7 h6 l7 h7 F7 N7
    exact k _ _ _ F7 N7 (allLt_mem (l := (D, listOf (List.toArray (ts.map TP.ref)) n) :: (kn, listOf (List.toArray us) c3) :: (L + 1 + 1, oL) :: tail) l7)
end PSt6i
section PSt6j
theorem off_St6j : True := by
  w_top off
  exact trivial
set_option hygiene false in
local macro_rules | `(tactic| walk_at "eval Name") => `(tactic| (k_here; (with_reducible refine nmIs "done" ?_); k_dflt (refine' ld ?k1 ?k2 ?_; (case k1 => k_asm); (case k2 => exact hm1); k_whole)))
set_option hygiene false in
local macro_rules | `(tactic| walk_at "eval Name") => `(tactic| (k_here; (with_reducible refine nmIs "part" ?_); k_dflt (refine' ld ?k1 ?k2 ?_; (case k1 => k_asm); (case k2 => exact hm2); k_whole)))
set_option hygiene false in
local macro_rules | `(tactic| walk_at "eval Name") => `(tactic| (k_here; (with_reducible refine nmIs "whole" ?_); k_dflt (refine' ld ?k1 ?k2 ?_; (case k1 => k_asm); (case k2 => exact hm3); k_whole)))
set_option hygiene false in
local macro_rules | `(tactic| walk_at "eval Name") => `(tactic| (k_here; (with_reducible refine nmIs "known" ?_); k_dflt (refine' ld ?k1 ?k2 ?_; (case k1 => k_asm); (case k2 => exact hm4); k_whole)))
set_option hygiene false in
local macro_rules | `(tactic| walk_at "eval Name") => `(tactic| (k_here; (with_reducible refine nmIs "at" ?_); k_dflt (refine' ld ?k1 ?k2 ?_; (case k1 => k_asm); (case k2 => exact hm5); k_whole)))
local macro_rules | `(tactic| k_all) => `(tactic| assumption)
local macro_rules | `(tactic| walk_at "subscriptTail") => `(tactic| walk_at "itemN")
local macro_rules | `(tactic| walk_at "eval ListComp") => refL "" "ListComp_PS" "F₀ wur dec rfl dec rfl rfl dec ?" ""
theorem sub_snoc {α : Type} {pre mid tail : List α} {x : α} : ∀ p ∈ pre ++ (mid ++ [x] ++ tail), p ∈ x :: (pre ++ (mid ++ tail)) := fun p hp => by
  rcases List.mem_append.mp hp with hp | hp
  · exact .tail _ (List.mem_append_left _ hp)
  rcases List.mem_append.mp hp with hp | hp
  · rcases List.mem_append.mp hp with hp | hp
    · exact .tail _ (List.mem_append_right _ (List.mem_append_left _ hp))
    · rw [List.mem_singleton.mp hp]; exact .head _
  · exact .tail _ (List.mem_append_right _ (List.mem_append_right _ hp))
local macro_rules | `(tactic| walk_at "binaryOp Add ref ref") => `(tactic| walk_at "addT")
theorem slice_m1 {vs : List Value} {v : Value} : (slicePick (List.toArray (vs ++ [v])) none (some (-1)) none).toList = vs := by
  have h := slicePick_upto (List.toArray (vs ++ [v])) vs.length (by rw [List.size_toArray, List.length_append]; (first | lia | omega))
  have e : sliceBounds none (some (-1)) none (List.toArray (vs ++ [v])).size = sliceBounds none (some (vs.length : Int)) none (List.toArray (vs ++ [v])).size := by
    have hs : (List.toArray (vs ++ [v])).size = vs.length + 1 := by rw [List.size_toArray, List.length_append]; rfl
    rw [hs]
    simp only [sliceBounds, Option.getD_none]
    have h2 : ¬ ((vs.length : Int) < 0) := by (first | lia | omega)
    simp only [h2, if_false, show (1 : Int) > 0 by decide, show (-1 : Int) < 0 by decide, if_true]
    congr 1
    congr 1
    (first | lia | omega)
  have e2 : slicePick (List.toArray (vs ++ [v])) none (some (-1)) none = slicePick (List.toArray (vs ++ [v])) none (some (vs.length : Int)) none := by
    unfold slicePick
    rw [e]
  rw [e2, h]
  simp
local macro_rules | `(tactic| walk_at "subscriptTail Name Slice ref ref") => `(tactic| walk_at "slice")
theorem st6b {w : World} {mean : ExcName → Option Value} {mg mb : Str → Option Value} {dp un : Nat} {fr : Option (List Env)} {gd : Option (List Code)} {g : Heap} {L fa D kn : Addr} {qual : Str} {cdv : Value} {m : Str → Option Value} {s : Shared} {Q : Flow → Shared → Prop} {n c3 : Nat} {tail : Led} {pa av wv : Int} {tp ta tw : Tok} {init : List TP} {l : TP} {us : List Value} {ks : List Int} {oL : Obj} {xL : Option Value}
    (B : Amb2 w mean mg mb dp un g) (F : Fr g L s.heap m) (N : News g L s.heap ((D, listOf (List.toArray (init.map TP.ref ++ [.ref l.x])) n) :: (kn, listOf (List.toArray us) c3) :: (L + 1 + 1, oL) :: tail)) (htl : ∀ t ∈ init ++ [l], (t.x, tup2 t.c t.tc t.k t.tk) ∈ tail) (hlen : init.length ≤ 100) (hm1 : m (Str.ofString "done") = some (.ref D)) (hm2 : m (Str.ofString "part") = some (.int pa tp)) (hm3 : m (Str.ofString "whole") = some (.int wv tw)) (hm4 : m (Str.ofString "known") = some (.ref kn)) (hm5 : m (Str.ofString "at") = some (.int av ta))
    (hI : IntsAre us ks) (hkl : ks.length ≤ 100) (d1 : @Ne Nat (L + 1 + 1) kn) (d2 : @Ne Nat (L + 1 + 1) D) (d3 : ∀ p ∈ tail, p.1 ≠ L + 1 + 1) (hw0 : 0 ≤ wv) (hw1 : wv < 100000) (hk0 : ∀ t ∈ init ++ [l], 0 ≤ t.k ∧ t.k < 100) (hyes : 0 < wv ∧ (ks.any fun x => x == wv) = true) (hcell : oL.data = .cell xL)
    (k : ∀ h' tk' D' n' ts' oL' m', Fr g L h' m' → m' (Str.ofString "done") = some (.ref D') → (∀ y, y ≠ Str.ofString "done" → m' y = m y) → oL'.data = .cell (some (.int l.k l.tk)) → News g L h' ((D', listOf (List.toArray (ts'.map TP.ref)) n') :: (kn, listOf (List.toArray us) c3) :: (L + 1 + 1, oL') :: (tupsL ts' ++ tail)) → (∀ p ∈ (kn, listOf (List.toArray us) c3) :: (L + 1 + 1, oL) :: tail, p.1 < D') → (∀ p ∈ tupsL ts', @LT.lt Nat _ p.1 D' ∧ ∀ q ∈ (L + 1 + 1, oL) :: tail, @LT.lt Nat _ q.1 p.1) → ts'.map TP.cc = ((init.map TP.cc).map fun q => (q.1, if l.k ≤ q.2 then l.k else q.2)) ++ [(wv, l.k)] → Q .next { s with heap := h', toks := tk' }) :
    wpAny (model PySem.Challenge.rw_pb0193_01.row.prog w) (mkA dp un fr gd) (exec (st6In w 1) (lawEnv w qual L fa cdv)) Q (fun _ _ => False) s := by
  obtain ⟨X, T, hdp, hun⟩ := id B
  have N1 : News g L s.heap ((D, listOf (List.toArray (init.map TP.ref ++ [.ref l.x])) n) :: (l.x, tup2 l.c l.tc l.k l.tk) :: (kn, listOf (List.toArray us) c3) :: (L + 1 + 1, oL) :: tail) := fun p hp => by
    rcases List.mem_cons.mp hp with e | hp
    · rw [e]; exact N _ (.head _)
    rcases List.mem_cons.mp hp with e | hp
    · rw [e]; exact N _ (.tail _ (.tail _ (.tail _ (htl l (List.mem_append_right _ (.head _))))))
    · exact N _ (.tail _ hp)
  have d4 : @Ne Nat (L + 1 + 1) l.x := Ne.symm (d3 (l.x, _) (htl l (List.mem_append_right _ (.head _))))
  clear N
  show wpAny _ _ (exec (Stmt.If _ _ _ _) (envOfC _ (Scope.mk _ _ _ _ _) _ _ _)) _ _ _
  k_steps
  all_goals (try k_data)
  · rename_i h6 o6 d6 D6 h7 F7 N7 l7
    show LCp.SrcLP _ _ _ _ _ _ _ _ _ _ _ _ _ _ _
    refine LCp.SrcLP.ledger (its := List.toArray (init.map TP.ref)) (by rfl) F7 N7 (.head _) (by rw [List.size_toArray, List.length_map, PySem.sizeLine_eq]; (first | lia | omega)) ?_
    intro g'
    clear N7 F7
    refine compRestP_S (σ := List TP) (a₀ := []) (fun ts' => (D6, listOf (List.toArray (init.map TP.ref)) 0) :: (D, listOf (List.toArray (init.map TP.ref ++ [.ref l.x])) n) :: (l.x, tup2 l.c l.tc l.k l.tk) :: (kn, listOf (List.toArray us) c3) :: (L + 1 + 1, o6) :: (tupsL ts' ++ tail))
      (fun i ys ts' => ys = ts'.map TP.ref ∧ ts'.map TP.cc = ((init.map TP.cc).map fun q => (q.1, if l.k ≤ q.2 then l.k else q.2)).take i ∧ ∀ p ∈ tupsL ts', ∀ q ∈ (L + 1 + 1, o6) :: tail, @LT.lt Nat _ q.1 p.1) rfl ⟨rfl, rfl, fun p hp => nomatch hp⟩ ?_ ?_
    · rintro i v ys ts' hi hv ⟨rfl, hy2, hy3⟩
      have hil : i < init.length := by rw [List.size_toArray, List.length_map] at hi; exact hi
      obtain ⟨t, ht⟩ : ∃ t, init[i]? = some t := ⟨_, List.getElem?_eq_getElem hil⟩
      have hv2 : v = .ref t.x := by
        have : (List.toArray (init.map TP.ref))[i]? = (init.map TP.ref)[i]? := by simp
        rw [this, List.getElem?_map, ht] at hv
        exact (Option.some.inj hv).symm
      have htm : t ∈ init ++ [l] := List.mem_append_left _ (List.mem_of_getElem? ht)
      have htk := hk0 t htm
      have hlk := hk0 l (List.mem_append_right _ (.head _))
      refine ⟨t.x, tup2 t.c t.tc t.k t.tk, _, _, _, hv2, .tail _ (.tail _ (.tail _ (.tail _ (.tail _ (List.mem_append_right _ (htl t htm)))))), rfl, rfl, ?_⟩
      intro Ia oI C oC D' m₂ h tk E' hC hx hx2 F N off ne
      show wpAny _ _ _ _ _ _
      (try k_fold)
      k_steps
      all_goals (try k_data)
      · rename_i hle T9 h9 F9 N9 l9
        refine LCg.CompEnd.intro F9 N9 ((D6, listOf (List.toArray (init.map TP.ref)) 0) :: (D, listOf (List.toArray (init.map TP.ref ++ [.ref l.x])) n) :: (l.x, tup2 l.c l.tc l.k l.tk) :: (kn, listOf (List.toArray us) c3) :: (L + 1 + 1, o6) :: (tupsL (ts' ++ [⟨T9, t.c, t.tc, l.k, l.tk⟩]) ++ tail)) (fun p hp => ?_) (LCg.Off3.of fun p hp => ?_) (.inr ⟨_, .head _, rfl, _, rfl⟩) ⟨ts' ++ [⟨T9, t.c, t.tc, l.k, l.tk⟩], rfl, by rw [List.map_append]; rfl, ?_, fun p hp => ?_⟩
        · rw [tupsL_append] at hp
          exact sub_snoc (pre := [_, _, _, _, _, _, _, _]) p hp
        · rw [tupsL_append] at hp
          rcases List.mem_cons.mp (sub_snoc (pre := [_, _, _, _, _]) p hp) with e | hp
          · rw [e]; exact ⟨Nat.ne_of_gt l9.1, Nat.ne_of_gt l9.2.1, Nat.ne_of_gt l9.2.2.1⟩
          · exact LCg.Off3.mem off p hp
        · rw [List.map_append, hy2, List.take_add_one, List.getElem?_map, List.getElem?_map, ht]
          show _ ++ [(t.c, l.k)] = _ ++ [(t.c, if l.k ≤ t.k then l.k else t.k)]
          rw [if_pos hle]
        · rw [tupsL_append] at hp
          rcases List.mem_append.mp hp with hp | hp
          · exact hy3 p hp
          · rw [List.mem_singleton.mp hp]
            intro q hq
            rcases List.mem_cons.mp hq with e | hq
            · rw [e]; exact l9.2.2.2.2.2.2.2.1
            · exact allLt_mem (l := tupsL ts' ++ tail) l9.2.2.2.2.2.2.2.2 q (List.mem_append_right _ hq)
      · rename_i hle T9 h9 F9 N9 l9
        refine LCg.CompEnd.intro F9 N9 ((D6, listOf (List.toArray (init.map TP.ref)) 0) :: (D, listOf (List.toArray (init.map TP.ref ++ [.ref l.x])) n) :: (l.x, tup2 l.c l.tc l.k l.tk) :: (kn, listOf (List.toArray us) c3) :: (L + 1 + 1, o6) :: (tupsL (ts' ++ [⟨T9, t.c, t.tc, t.k, t.tk⟩]) ++ tail)) (fun p hp => ?_) (LCg.Off3.of fun p hp => ?_) (.inr ⟨_, .head _, rfl, _, rfl⟩) ⟨ts' ++ [⟨T9, t.c, t.tc, t.k, t.tk⟩], rfl, by rw [List.map_append]; rfl, ?_, fun p hp => ?_⟩
        · rw [tupsL_append] at hp
          exact sub_snoc (pre := [_, _, _, _, _, _, _, _]) p hp
        · rw [tupsL_append] at hp
          rcases List.mem_cons.mp (sub_snoc (pre := [_, _, _, _, _]) p hp) with e | hp
          · rw [e]; exact ⟨Nat.ne_of_gt l9.1, Nat.ne_of_gt l9.2.1, Nat.ne_of_gt l9.2.2.1⟩
          · exact LCg.Off3.mem off p hp
        · rw [List.map_append, hy2, List.take_add_one, List.getElem?_map, List.getElem?_map, ht]
          show _ ++ [(t.c, t.k)] = _ ++ [(t.c, if l.k ≤ t.k then l.k else t.k)]
          rw [if_neg hle]
        · rw [tupsL_append] at hp
          rcases List.mem_append.mp hp with hp | hp
          · exact hy3 p hp
          · rw [List.mem_singleton.mp hp]
            intro q hq
            rcases List.mem_cons.mp hq with e | hq
            · rw [e]; exact l9.2.2.2.2.2.2.2.1
            · exact allLt_mem (l := tupsL ts' ++ tail) l9.2.2.2.2.2.2.2.2 q (List.mem_append_right _ hq)
    · rintro ys ts' ⟨rfl, hy2, hy3⟩
      unfold LCg.FinE
      intro D' h tk F N o1
      have hyl : ts'.length = init.length := by
        have := congrArg List.length hy2
        rw [List.length_map, List.length_take, List.length_map, List.length_map, List.size_toArray, List.length_map] at this
        (first | lia | omega)
      (try dsimp only)
      k_steps
      all_goals (try k_data)
      rename_i T8 h5 l5 q8 h6' l6 D8 h7' l8 h8 F8 N8
      have hall := allLt_mem (l := tupsL ts' ++ tail) l8.2.2.2.2.2.2.2.2
      refine k _ _ D8 0 (ts' ++ [⟨T8, wv, tw, l.k, l.tk⟩]) o6 _ F8 rfl (fun y hy => if_neg hy) d6 (fun p hp => ?_) (fun p hp => ?_) (fun p hp => ?_) ?_
      · rw [tupsL_append, List.map_append] at hp
        rcases List.mem_cons.mp hp with e | hp
        · rw [e]; exact N8 _ (.head _)
        rcases List.mem_cons.mp (sub_snoc (pre := [_, _]) p hp) with e | hp
        · rw [e]; exact N8 _ (.tail _ (.tail _ (.head _)))
        · exact N8 p (.tail _ (.tail _ (.tail _ (.tail _ (.tail _ (.tail _ (.tail _ hp)))))))
      · rcases List.mem_cons.mp hp with e | hp
        · rw [e]; exact l8.2.2.2.2.2.2.1
        rcases List.mem_cons.mp hp with e | hp
        · rw [e]; exact l8.2.2.2.2.2.2.2.1
        · exact hall p (List.mem_append_right _ hp)
      · rw [tupsL_append] at hp
        rcases List.mem_append.mp hp with hp | hp
        · exact ⟨hall p (List.mem_append_left _ hp), fun q hq => by
            rcases List.mem_cons.mp hq with e | hq
            · rw [e]; exact hy3 p hp (L + 1 + 1, o6) (.head _)
            · exact hy3 p hp q (.tail _ hq)⟩
        · rw [List.mem_singleton.mp hp]
          refine ⟨l8.2.1, fun q hq => ?_⟩
          rcases List.mem_cons.mp hq with e | hq
          · rw [e]; exact l5.2.2.2.2.2.1
          · exact allLt_mem (l := tupsL ts' ++ tail) l5.2.2.2.2.2.2 q (List.mem_append_right _ hq)
      · rw [List.map_append, hy2, List.take_of_length_le (by rw [List.length_map, List.length_map, List.size_toArray, List.length_map]; exact Nat.le_refl _)]
        rfl
  · exact absurd (hyes.2.symm.trans (by assumption)) (by decide)
end PSt6j
section PLMath
theorem sortL {a : Int} (h0 : 0 ≤ a) : ((lsort a == Str.ofString "L") = true) ↔ (4352 ≤ a ∧ a < 4371) := by
  unfold lsort
  split
  · rename_i h; exact ⟨fun _ => h, fun _ => by decide⟩
  · rename_i h
    refine ⟨fun e => ?_, fun e => absurd e h⟩
    exfalso; revert e
    split
    · decide
    split
    · decide
    split
    · split
      · decide
      · decide
    · decide
theorem sortV {a : Int} (h0 : 0 ≤ a) : ((lsort a == Str.ofString "V") = true) ↔ (4449 ≤ a ∧ a < 4470) := by
  unfold lsort
  split
  · rename_i h; exact ⟨fun e => absurd e (by decide), fun e => by (first | lia | omega)⟩
  split
  · rename_i h; exact ⟨fun _ => h, fun _ => by decide⟩
  · rename_i h
    refine ⟨fun e => ?_, fun e => absurd e h⟩
    exfalso; revert e
    split
    · decide
    split
    · split
      · decide
      · decide
    · decide
theorem sortT {a : Int} (h0 : 0 ≤ a) : ((lsort a == Str.ofString "T") = true) ↔ (4519 < a ∧ a < 4547) := by
  unfold lsort
  split
  · rename_i h; exact ⟨fun e => absurd e (by decide), fun e => by (first | lia | omega)⟩
  split
  · rename_i h; exact ⟨fun e => absurd e (by decide), fun e => by (first | lia | omega)⟩
  split
  · rename_i h; exact ⟨fun _ => h, fun _ => by decide⟩
  · rename_i h
    refine ⟨fun e => ?_, fun e => absurd e h⟩
    exfalso; revert e
    split
    · split
      · decide
      · decide
    · decide
theorem sortS {a : Int} (h0 : 0 ≤ a) : ((lsort a == Str.ofString "S") = true) ↔ (44032 ≤ a ∧ a < 55204 ∧ (a - 44032).fmod 28 = 0) := by
  unfold lsort
  split
  · rename_i h; exact ⟨fun e => absurd e (by decide), fun e => by (first | lia | omega)⟩
  split
  · rename_i h; exact ⟨fun e => absurd e (by decide), fun e => by (first | lia | omega)⟩
  split
  · rename_i h; exact ⟨fun e => absurd e (by decide), fun e => by (first | lia | omega)⟩
  split
  · rename_i h
    split
    · rename_i h2; exact ⟨fun _ => ⟨h.1, h.2, h2⟩, fun _ => by decide⟩
    · rename_i h2; exact ⟨fun e => absurd e (by decide), fun e => absurd e.2.2 h2⟩
  · rename_i h; exact ⟨fun e => absurd e (by decide), fun e => absurd ⟨e.1, e.2.1⟩ h⟩
theorem ljoined_eq {a b : Int} (ha : 0 ≤ a) (hb : 0 ≤ b) : ljoined a b = hwhole a b := by
  unfold ljoined hwhole
  simp only [sortL ha, sortV hb, sortS ha, sortT hb]
  by_cases h1 : (4352 ≤ a ∧ a < 4371) ∧ 4449 ≤ b ∧ b < 4470
  · have e : 0 ≤ a - 4352 ∧ a - 4352 < 19 ∧ 0 ≤ b - 4449 ∧ b - 4449 < 21 := ⟨by (first | lia | omega), by (first | lia | omega), by (first | lia | omega), by (first | lia | omega)⟩
    rw [if_pos h1, if_pos e]; (first | lia | omega)
  have e1 : ¬ (0 ≤ a - 4352 ∧ a - 4352 < 19 ∧ 0 ≤ b - 4449 ∧ b - 4449 < 21) := fun e => h1 ⟨⟨by (first | lia | omega), by (first | lia | omega)⟩, by (first | lia | omega), by (first | lia | omega)⟩
  rw [if_neg h1, if_neg e1]
  by_cases h2 : (44032 ≤ a ∧ a < 55204 ∧ (a - 44032).fmod 28 = 0) ∧ 4519 < b ∧ b < 4547
  · have e2 : 0 ≤ a - 44032 ∧ a - 44032 < 19 * 21 * 28 ∧ (a - 44032).fmod 28 = 0 ∧ 0 < b - 4519 ∧ b - 4519 < 28 := ⟨by (first | lia | omega), by (first | lia | omega), h2.1.2.2, by (first | lia | omega), by (first | lia | omega)⟩
    rw [if_pos h2, if_pos e2]
  have e2 : ¬ (0 ≤ a - 44032 ∧ a - 44032 < 19 * 21 * 28 ∧ (a - 44032).fmod 28 = 0 ∧ 0 < b - 4519 ∧ b - 4519 < 28) := fun e => h2 ⟨⟨by (first | lia | omega), by (first | lia | omega), e.2.2.1⟩, by (first | lia | omega), by (first | lia | omega)⟩
  rw [if_neg h2, if_neg e2]
theorem hwhole_nn {a b : Int} : 0 ≤ hwhole a b := by
  unfold hwhole
  split
  · (first | lia | omega)
  split
  · (first | lia | omega)
  · decide
def DoneOk (l : List (Int × Int)) : Prop := ∀ q ∈ l, (0 ≤ q.1 ∧ q.1 < 100000) ∧ 0 ≤ q.2 ∧ q.2 < 100
theorem DoneOk.step {ks : List Int} {d : List (Int × Int)} {p : Int × Int} (h : DoneOk d) (h1 : 0 ≤ p.1 ∧ p.1 < 100000) (h2 : 0 ≤ p.2 ∧ p.2 < 100) : DoneOk (lstep ks d p) := by
  have hadd : DoneOk (d ++ [p]) := fun q hq => by
    rcases List.mem_append.mp hq with hq | hq
    · exact h q hq
    · rw [List.mem_singleton.mp hq]; exact ⟨h1, h2⟩
  unfold lstep
  cases hl : d.getLast? with
  | none => exact hadd
  | some l =>
    have hlm : l ∈ d := List.mem_of_getLast? hl
    have hlk := h l hlm
    show DoneOk (if 0 < ljoined l.1 p.1 ∧ (ks.any fun x => x == ljoined l.1 p.1) = true then _ else _)
    split
    · intro q hq
      rcases List.mem_append.mp hq with hq | hq
      · obtain ⟨r, hr, rfl⟩ := List.mem_map.mp hq
        have hrk := h r (List.dropLast_subset _ hr)
        refine ⟨hrk.1, ?_⟩
        show 0 ≤ (if l.2 ≤ r.2 then l.2 else r.2) ∧ (if l.2 ≤ r.2 then l.2 else r.2) < 100
        split
        · exact hlk.2
        · exact hrk.2
      · rw [List.mem_singleton.mp hq]
        refine ⟨?_, hlk.2⟩
        show 0 ≤ ljoined l.1 p.1 ∧ ljoined l.1 p.1 < 100000
        rw [ljoined_eq hlk.1.1 h1.1]
        exact ⟨hwhole_nn, hwhole_lt⟩
    · exact hadd
theorem lstep_len {ks : List Int} {d : List (Int × Int)} {p : Int × Int} : (lstep ks d p).length ≤ d.length + 1 := by
  unfold lstep
  cases d.getLast? with
  | none => rw [List.length_append]; exact Nat.le_refl _
  | some l =>
    show List.length (if 0 < ljoined l.1 p.1 ∧ (ks.any fun x => x == ljoined l.1 p.1) = true then _ else _) ≤ _
    split
    · rw [List.length_append, List.length_map, List.length_dropLast]
      show d.length - 1 + 1 ≤ d.length + 1
      (first | lia | omega)
    · rw [List.length_append]; exact Nat.le_refl _
theorem lwhole_ok {d : List (Int × Int)} {a : Int} (h : DoneOk d) (h1 : 0 ≤ a ∧ a < 100000) : 0 ≤ lwhole d a ∧ lwhole d a < 100000 := by
  unfold lwhole
  cases hl : d.getLast? with
  | none => exact ⟨Int.le_refl 0, show (0 : Int) < 100000 by decide⟩
  | some l =>
    show 0 ≤ ljoined l.1 a ∧ ljoined l.1 a < 100000
    rw [ljoined_eq (h l (List.mem_of_getLast? hl)).1.1 h1.1]
    exact ⟨hwhole_nn, hwhole_lt⟩
end PLMath
section PLMath2
theorem fm28 (x : Int) : x.fmod 28 = x % 28 := Int.fmod_eq_emod_of_nonneg x (by decide)
theorem fm21 (x : Int) : x.fmod 21 = x % 21 := Int.fmod_eq_emod_of_nonneg x (by decide)
theorem fd28 (x : Int) : x.fdiv 28 = x / 28 := Int.fdiv_eq_ediv_of_nonneg x (by decide)
theorem fd588 (x : Int) : x.fdiv (21 * 28) = x / 588 := Int.fdiv_eq_ediv_of_nonneg x (by decide)
theorem syl {c : Int} (h : 44032 ≤ c ∧ c < 55204) : ∃ l v t : Int, c = 44032 + 588 * l + 28 * v + t ∧ (0 ≤ l ∧ l < 19) ∧ (0 ≤ v ∧ v < 21) ∧ (0 ≤ t ∧ t < 28) ∧ (c - 44032) % 28 = t ∧ (c - 44032) / 588 = l ∧ (c - 44032) / 28 % 21 = v := by
  obtain ⟨h1, h2⟩ := h
  exact ⟨(c - 44032) / 588, (c - 44032) / 28 % 21, (c - 44032) % 28, by (first | lia | omega), ⟨by (first | lia | omega), by (first | lia | omega)⟩, ⟨by (first | lia | omega), by (first | lia | omega)⟩, ⟨by (first | lia | omega), by (first | lia | omega)⟩, rfl, rfl, rfl⟩
theorem hparts_at {c l v t : Int} (hc : c = 44032 + 588 * l + 28 * v + t) (l0 : 0 ≤ l) (l1 : l < 19) (v0 : 0 ≤ v) (v1 : v < 21) (t0 : 0 ≤ t) (t1 : t < 28) : hparts c = if 0 < t then some (c - t, 4519 + t) else some (4352 + l, 4449 + v) := by
  have e1 : (c - 44032) % 28 = t := by (first | lia | omega)
  have e2 : (c - 44032) / 588 = l := by (first | lia | omega)
  have e3 : (c - 44032) / 28 % 21 = v := by (first | lia | omega)
  unfold hparts
  rw [fm28, fd588, fd28, fm21, e1, e2, e3]
  exact if_pos ⟨by (first | lia | omega), by (first | lia | omega)⟩
theorem hparts_hwhole {a b : Int} (h : 0 < hwhole a b) : hparts (hwhole a b) = some (a, b) := by
  unfold hwhole at h ⊢
  split at h
  · rename_i h1
    rw [if_pos h1]
    rw [hparts_at (l := a - 4352) (v := b - 4449) (t := 0) (by (first | lia | omega)) h1.1 h1.2.1 h1.2.2.1 h1.2.2.2 (by decide) (by decide), if_neg (by decide)]
    rw [show 4352 + (a - 4352) = a by (first | lia | omega), show 4449 + (b - 4449) = b by (first | lia | omega)]
  · rename_i h1
    rw [if_neg h1]
    split at h
    · rename_i h2
      rw [if_pos h2]
      rw [fm28] at h2
      obtain ⟨g1, g2, g3, g4, g5⟩ := h2
      obtain ⟨l, v, t, ha, ⟨l0, l1⟩, ⟨v0, v1⟩, -, e1, -, -⟩ := syl (c := a) ⟨by (first | lia | omega), by (first | lia | omega)⟩
      have ht : t = 0 := by rw [← e1]; exact g3
      rw [hparts_at (c := a + b - 4519) (l := l) (v := v) (t := b - 4519) (by (first | lia | omega)) l0 l1 v0 v1 (by (first | lia | omega)) g5, if_pos g4]
      rw [show a + b - 4519 - (b - 4519) = a by (first | lia | omega), show 4519 + (b - 4519) = b by (first | lia | omega)]
    · exact absurd h (by decide)
theorem hparts_none_iff {a : Int} : hparts a = none ↔ ¬ (44032 ≤ a ∧ a < 55204) := by
  unfold hparts
  split
  · split
    · exact ⟨fun h => (nomatch h), fun h => absurd (by (first | lia | omega)) h⟩
    · exact ⟨fun h => (nomatch h), fun h => absurd (by (first | lia | omega)) h⟩
  · exact ⟨fun _ => by (first | lia | omega), fun _ => rfl⟩
theorem sort_SC {a : Int} (h0 : 0 ≤ a) : (([Str.ofString "S", Str.ofString "C"].any fun x => x == lsort a) = true) ↔ (44032 ≤ a ∧ a < 55204) := by
  unfold lsort
  split
  · exact ⟨fun e => absurd e (by decide), fun e => by (first | lia | omega)⟩
  split
  · exact ⟨fun e => absurd e (by decide), fun e => by (first | lia | omega)⟩
  split
  · exact ⟨fun e => absurd e (by decide), fun e => by (first | lia | omega)⟩
  split
  · rename_i h
    split
    · exact ⟨fun _ => h, fun _ => by decide⟩
    · exact ⟨fun _ => h, fun _ => by decide⟩
  · rename_i h; exact ⟨fun e => absurd e (by decide), fun e => absurd e h⟩
theorem hparts_some {a p q : Int} (h : hparts a = some (p, q)) : hwhole p q = a ∧ (0 ≤ p ∧ p < 100000) ∧ (0 ≤ q ∧ q < 100000) ∧ 44032 ≤ a ∧ a < 55204 := by
  have hr : 44032 ≤ a ∧ a < 55204 := by
    by_cases h1 : 44032 ≤ a ∧ a < 55204
    · exact h1
    · rw [hparts_none_iff.mpr h1] at h; cases h
  obtain ⟨l, v, t, ha, ⟨l0, l1⟩, ⟨v0, v1⟩, ⟨t0, t1⟩, -, -, -⟩ := syl hr
  rw [hparts_at ha l0 l1 v0 v1 t0 t1] at h
  split at h
  · cases h
    rename_i h1
    refine ⟨?_, ⟨by (first | lia | omega), by (first | lia | omega)⟩, ⟨by (first | lia | omega), by (first | lia | omega)⟩, hr⟩
    exact (hwhole_2 (by (first | lia | omega)) (by (first | lia | omega)) (by rw [fm28]; (first | lia | omega)) (by (first | lia | omega)) (by (first | lia | omega))).trans (by (first | lia | omega))
  · cases h
    rename_i h1
    refine ⟨?_, ⟨by (first | lia | omega), by (first | lia | omega)⟩, ⟨by (first | lia | omega), by (first | lia | omega)⟩, hr⟩
    exact (hwhole_1 (by (first | lia | omega)) (by (first | lia | omega)) (by (first | lia | omega)) (by (first | lia | omega))).trans (by (first | lia | omega))
end PLMath2
section PSt6k
theorem st6i {w : World} {mean : ExcName → Option Value} {mg mb : Str → Option Value} {dp un : Nat} {fr : Option (List Env)} {gd : Option (List Code)} {g : Heap} {L fa D kn : Addr} {qual : Str} {cdv : Value} {m : Str → Option Value} {s : Shared} {Q : Flow → Shared → Prop} {n c3 : Nat} {rest : Led} {pa av wv : Int} {tp ta tw : Tok} {ts : List TP} {us : List Value} {ks : List Int} {oL : Obj} {xL : Option Value}
    (B : Amb2 w mean mg mb dp un g) (F : Fr g L s.heap m) (N : News g L s.heap ((D, listOf (List.toArray (ts.map TP.ref)) n) :: (kn, listOf (List.toArray us) c3) :: (L + 1 + 1, oL) :: (tupsL ts ++ rest))) (hlen : ts.length ≤ 99) (hm1 : m (Str.ofString "done") = some (.ref D)) (hm2 : m (Str.ofString "part") = some (.int pa tp)) (hm3 : m (Str.ofString "whole") = some (.int wv tw)) (hm4 : m (Str.ofString "known") = some (.ref kn)) (hm5 : m (Str.ofString "at") = some (.int av ta))
    (hI : IntsAre us ks) (hkl : ks.length ≤ 100) (d0 : @Ne Nat (L + 1 + 1) kn) (d1 : @Ne Nat kn D) (d2 : @Ne Nat (L + 1 + 1) D) (d3 : ∀ p ∈ tupsL ts ++ rest, p.1 ≠ D) (d4 : ∀ p ∈ tupsL ts ++ rest, p.1 ≠ L + 1 + 1) (hok : DoneOk (ts.map TP.cc)) (hw : wv = lwhole (ts.map TP.cc) pa) (hp : 0 ≤ pa ∧ pa < 100000) (hcell : oL.data = .cell xL)
    (k : ∀ h' tk' D' n' ts' oL' xL' m', Fr g L h' m' → m' (Str.ofString "done") = some (.ref D') → (∀ y, y ≠ Str.ofString "done" → m' y = m y) → oL'.data = .cell xL' → News g L h' ((D', listOf (List.toArray (ts'.map TP.ref)) n') :: (kn, listOf (List.toArray us) c3) :: (L + 1 + 1, oL') :: (tupsL ts' ++ rest)) → (D' = D ∨ ∀ q ∈ (kn, listOf (List.toArray us) c3) :: (L + 1 + 1, oL) :: rest, @LT.lt Nat _ q.1 D') → (∀ p ∈ tupsL ts', p.1 ≠ D' ∧ (p ∈ tupsL ts ∨ ∀ q ∈ (L + 1 + 1, oL) :: rest, @LT.lt Nat _ q.1 p.1)) → ts'.map TP.cc = lstep ks (ts.map TP.cc) (pa, av) → Q .next { s with heap := h', toks := tk' }) :
    wpAny (model PySem.Challenge.rw_pb0193_01.row.prog w) (mkA dp un fr gd) (exec (st6In w 1) (lawEnv w qual L fa cdv)) Q (fun _ _ => False) s := by
  have hwb : 0 ≤ wv ∧ wv < 100000 := hw ▸ lwhole_ok hok hp
  by_cases hyes : 0 < wv ∧ (ks.any fun x => x == wv) = true
  · rcases List.eq_nil_or_concat ts with rfl | ⟨init, l, rfl⟩
    · rw [hw] at hyes
      exact absurd hyes.1 (Int.lt_irrefl 0)
    rw [List.concat_eq_append] at *
    have e : (init ++ [l]).map TP.ref = init.map TP.ref ++ [.ref l.x] := by rw [List.map_append]; rfl
    have e2 : ((init ++ [l]).map TP.cc).getLast? = some l.cc := by rw [List.map_append]; exact List.getLast?_concat
    have e3 : wv = ljoined l.c pa := by
      rw [hw]
      unfold lwhole
      rw [e2]
      rfl
    rw [e] at N
    refine st6b B F N (fun t ht => List.mem_append_left _ (tupsL_mem ht)) (by rw [List.length_append] at hlen; (first | lia | omega)) hm1 hm2 hm3 hm4 hm5 hI hkl d0 d2 d4 hwb.1 hwb.2 (fun t ht => (hok t.cc (List.mem_map_of_mem ht)).2) hyes hcell ?_
    intro h' tk' D' n' ts' oL' m' F' q1 q2 q3 N' q4 q5 q6
    refine k h' tk' D' n' ts' oL' _ m' F' q1 q2 q3 (fun p hp => N' p ?_) (.inr fun q hq => ?_) (fun p hp => ⟨Nat.ne_of_lt (q5 p hp).1, .inr fun q hq => ?_⟩) ?_
    · rcases List.mem_cons.mp hp with e | hp
      · rw [e]; exact .head _
      rcases List.mem_cons.mp hp with e | hp
      · rw [e]; exact .tail _ (.head _)
      rcases List.mem_cons.mp hp with e | hp
      · rw [e]; exact .tail _ (.tail _ (.head _))
      rcases List.mem_append.mp hp with hp | hp
      · exact .tail _ (.tail _ (.tail _ (List.mem_append_left _ hp)))
      · exact .tail _ (.tail _ (.tail _ (List.mem_append_right _ (List.mem_append_right _ hp))))
    · rcases List.mem_cons.mp hq with e | hq
      · rw [e]; exact q4 (kn, _) (.head _)
      rcases List.mem_cons.mp hq with e | hq
      · rw [e]; exact q4 (L + 1 + 1, _) (.tail _ (.head _))
      · exact q4 q (.tail _ (.tail _ (List.mem_append_right _ hq)))
    · rcases List.mem_cons.mp hq with e | hq
      · rw [e]; exact (q5 p hp).2 (L + 1 + 1, oL) (.head _)
      · exact (q5 p hp).2 q (.tail _ (List.mem_append_right _ hq))
    · rw [q6]
      unfold lstep
      rw [e2]
      show _ = if 0 < ljoined l.c pa ∧ (ks.any fun x => x == ljoined l.c pa) = true then (((init ++ [l]).map TP.cc).dropLast.map fun q => (q.1, if l.k ≤ q.2 then l.k else q.2)) ++ [(ljoined l.c pa, l.k)] else _
      rw [← e3, if_pos hyes, List.map_append]
      show _ = ((init.map TP.cc ++ [l.cc]).dropLast.map fun q => (q.1, if l.k ≤ q.2 then l.k else q.2)) ++ _
      rw [List.dropLast_concat]
  · refine st6a B F N (by (first | lia | omega)) hm1 hm2 hm3 hm4 hm5 hI hkl d1 d2 d3 hwb.1 hwb.2 hyes ?_
    intro h' tk' T F' N' hT
    have e : (ts ++ [(⟨T, pa, tp, av, ta⟩ : TP)]).map TP.ref = ts.map TP.ref ++ [.ref T] := by rw [List.map_append]; rfl
    refine k h' tk' D (n + 1) (ts ++ [⟨T, pa, tp, av, ta⟩]) oL _ m F' hm1 (fun _ _ => rfl) hcell (fun p hp => N' p ?_) (.inl rfl) (fun p hp => ?_) ?_
    · rw [tupsL_append, e] at hp
      exact sub_snoc (pre := [_, _, _]) p hp
    · rw [tupsL_append] at hp
      rcases List.mem_append.mp hp with hp | hp
      · exact ⟨d3 p (List.mem_append_left _ hp), .inl hp⟩
      · rw [List.mem_singleton.mp hp]
        refine ⟨Nat.ne_of_gt (hT (D, _) (.head _)), .inr fun q hq => ?_⟩
        rcases List.mem_cons.mp hq with e | hq
        · rw [e]; exact hT (L + 1 + 1, oL) (.tail _ (.tail _ (.head _)))
        · exact hT q (.tail _ (.tail _ (.tail _ (List.mem_append_right _ hq))))
    · rw [List.map_append]
      show ts.map TP.cc ++ [(pa, av)] = _
      unfold lstep
      cases hl : (ts.map TP.cc).getLast? with
      | none => rfl
      | some l =>
        have e3 : wv = ljoined l.1 pa := by
          rw [hw]
          unfold lwhole
          rw [hl]
        show _ = if 0 < ljoined l.1 pa ∧ (ks.any fun x => x == ljoined l.1 pa) = true then _ else _
        rw [← e3, if_neg hyes]
end PSt6k
section PSt6n
theorem off_St6n : True := by
  w_top off
  exact trivial
noncomputable def st6For (w : World) : Stmt := match lawSt w 6 with | .For _ _ [s] _ _ => s | s => s
theorem lapart_ok {ks : List Int} {a : Int} (h : 0 ≤ a ∧ a < 100000) : (lapart ks a).length ≤ 3 ∧ ∀ c ∈ lapart ks a, 0 ≤ c ∧ c < 100000 := by
  have hs := (sort_SC h.1).mp
  unfold lapart
  split
  · exact ⟨Nat.le_of_ble_eq_true rfl, fun c hc => by rw [List.mem_singleton.mp hc]; exact h⟩
  split
  · rename_i e
    obtain ⟨l, v, t, ha, ⟨l0, l1⟩, ⟨v0, v1⟩, ⟨t0, t1⟩, e1, e2, e3⟩ := syl (hs e)
    rw [fm28, show (a - 44032).fdiv 588 = (a - 44032) / 588 from Int.fdiv_eq_ediv_of_nonneg _ (by decide), fd28, fm21, e1, e2, e3]
    have bl : 0 ≤ 4352 + l ∧ 4352 + l < 100000 := ⟨by (first | lia | omega), by (first | lia | omega)⟩
    have bv : 0 ≤ 4449 + v ∧ 4449 + v < 100000 := ⟨by (first | lia | omega), by (first | lia | omega)⟩
    have bt : 0 ≤ 4519 + t ∧ 4519 + t < 100000 := ⟨by (first | lia | omega), by (first | lia | omega)⟩
    split
    · split
      · refine ⟨Nat.le_of_ble_eq_true rfl, fun c hc => ?_⟩
        rcases List.mem_cons.mp hc with rfl | hc
        · exact ⟨by (first | lia | omega), by (first | lia | omega)⟩
        · rw [List.mem_singleton.mp hc]; exact bt
      · refine ⟨Nat.le_of_ble_eq_true rfl, fun c hc => ?_⟩
        rcases List.mem_cons.mp hc with rfl | hc
        · exact bl
        rcases List.mem_cons.mp hc with rfl | hc
        · exact bv
        · rw [List.mem_singleton.mp hc]; exact bt
    · refine ⟨Nat.le_of_ble_eq_true rfl, fun c hc => ?_⟩
      rcases List.mem_cons.mp hc with rfl | hc
      · exact bl
      · rw [List.mem_singleton.mp hc]; exact bv
  · exact ⟨Nat.le_of_ble_eq_true rfl, fun c hc => by rw [List.mem_singleton.mp hc]; exact h⟩
structure DS where
  D : Addr
  n : Nat
  ts : List TP
  oL : Obj
  xL : Option Value
structure Apx (L kn : Addr) (rest : Led) (D : Addr) (ts : List TP) : Prop where
  a1 : @Ne Nat kn D
  a2 : @Ne Nat (L + 1 + 1) D
  a3 : ∀ q ∈ rest, q.1 ≠ D
  a4 : ∀ p ∈ tupsL ts, p.1 ≠ D
  a5 : ∀ p ∈ tupsL ts, p.1 ≠ L + 1 + 1
  a6 : ∀ p ∈ tupsL ts, ∀ q ∈ rest, p.1 ≠ q.1
set_option hygiene false in
local macro_rules | `(tactic| walk_at "eval Name") => `(tactic| (k_here; (with_reducible refine nmIs "code" ?_); k_dflt (refine' ld ?k1 ?k2 ?_; (case k1 => k_asm); (case k2 => exact hm1); k_whole)))
set_option hygiene false in
local macro_rules | `(tactic| walk_at "eval Name") => `(tactic| (k_here; (with_reducible refine nmIs "known" ?_); k_dflt (refine' ld ?k1 ?k2 ?_; (case k1 => k_asm); (case k2 => exact hm2); k_whole)))
local macro_rules | `(tactic| walk_at "exec For Name Call cons nil") => `(tactic| walk_at "forS")
set_option hygiene false in
local macro_rules | `(tactic| walk_at "P351") => `(tactic| (case P => intro H9 b9 b8; exact ⟨⟨_, b8 (_, _) (by k_mem), rfl, _, rfl⟩, by assumption, by walk_at "om"⟩))
local macro_rules | `(tactic| walk_at "call ref") => callL "O" 351 "apart_c ks=ks vs=us tb=0 a0 a1" "aX uF uX P351" "_ x9 vs9 nn9 e9 o9 i9" "sE sO zO"
theorem st6n {w : World} {mean : ExcName → Option Value} {mg mb : Str → Option Value} {dp un : Nat} {fr : Option (List Env)} {gd : Option (List Code)} {g : Heap} {L fa D kn : Addr} {qual : Str} {cdv : Value} {m : Str → Option Value} {s : Shared} {Q : Flow → Shared → Prop} {n c3 : Nat} {rest : Led} {ca av : Int} {tc ta : Tok} {ts : List TP} {us : List Value} {ks : List Int} {oL : Obj} {xL : Option Value}
    (B : Amb2 w mean mg mb dp un g) (F : Fr g L s.heap m) (N : News g L s.heap ((D, listOf (List.toArray (ts.map TP.ref)) n) :: (kn, listOf (List.toArray us) c3) :: (L + 1 + 1, oL) :: (tupsL ts ++ rest))) (hlen : ts.length ≤ 90) (hm1 : m (Str.ofString "code") = some (.int ca tc)) (hm2 : m (Str.ofString "known") = some (.ref kn)) (hm3 : m (Str.ofString "done") = some (.ref D)) (hm5 : m (Str.ofString "at") = some (.int av ta))
    (hI : IntsAre us ks) (hkl : ks.length ≤ 100) (d0 : @Ne Nat (L + 1 + 1) kn) (ap : Apx L kn rest D ts) (hrl : ∀ q ∈ rest, q.1 ≠ L + 1 + 1) (hok : DoneOk (ts.map TP.cc)) (hc0 : 0 ≤ ca) (hc1 : ca < 100000) (ha : 0 ≤ av ∧ av < 100) (hcell : oL.data = .cell xL)
    (k : ∀ h' tk' D' n' ts' oL' xL' m', Fr g L h' m' → m' (Str.ofString "done") = some (.ref D') → (∀ y, y ≠ Str.ofString "done" → y ≠ Str.ofString "part" → y ≠ Str.ofString "whole" → m' y = m y) → oL'.data = .cell xL' → News g L h' ((D', listOf (List.toArray (ts'.map TP.ref)) n') :: (kn, listOf (List.toArray us) c3) :: (L + 1 + 1, oL') :: (tupsL ts' ++ rest)) → Apx L kn rest D' ts' → ts'.map TP.cc = ((lapart ks ca).map fun c => (c, av)).foldl (lstep ks) (ts.map TP.cc) → DoneOk (ts'.map TP.cc) → ts'.length ≤ ts.length + 3 → Q .next { s with heap := h', toks := tk' }) :
    wpAny (model PySem.Challenge.rw_pb0193_01.row.prog w) (mkA dp un fr gd) (exec (st6For w) (lawEnv w qual L fa cdv)) Q (fun _ _ => False) s := by
  obtain ⟨X, T, hdp, hun⟩ := id B
  show wpAny _ _ (exec (Stmt.For _ _ _ _ _) (envOfC _ (Scope.mk _ _ _ _ _) _ _ _)) _ _ _
  k_steps
  all_goals (try k_data)
  rename News g L h9 _ => N9
  obtain ⟨hl3, hlb⟩ := lapart_ok (ks := ks) ⟨hc0, hc1⟩
  rename @Ne Nat (L + 1 + 1) x9 => g2
  rename @Ne Nat kn x9 => g1
  rename @Ne Nat D x9 => g0
  have g3 : ∀ p ∈ tupsL ts ++ rest, p.1 ≠ x9 := n8
  have hvl : vs9.length = (lapart ks ca).length := IntsAre.length i9
  show wpAny _ _ _ _ _ _
  refine for_list_J (σ := DS) (x₀ := ⟨D, n, ts, oL, xL⟩) (its := List.toArray vs9) (fun x => (x.D, listOf (List.toArray (x.ts.map TP.ref)) x.n) :: (kn, listOf (List.toArray us) c3) :: (L + 1 + 1, x.oL) :: (tupsL x.ts ++ rest))
    (fun i x m' => m' (Str.ofString "done") = some (.ref x.D) ∧ (∀ y, y ≠ Str.ofString "done" → y ≠ Str.ofString "part" → y ≠ Str.ofString "whole" → m' y = m y) ∧ x.oL.data = .cell x.xL ∧ Apx L kn ((x9, listOf (List.toArray vs9) nn9) :: rest) x.D x.ts ∧ x.ts.map TP.cc = (((lapart ks ca).take i).map fun c => (c, av)).foldl (lstep ks) (ts.map TP.cc) ∧ DoneOk (x.ts.map TP.cc) ∧ x.ts.length ≤ ts.length + i)
    rfl F9 N9 (.head _) (fun p hp => .tail _ hp) ⟨hm3, fun _ _ _ _ => rfl, hcell, ⟨ap.a1, ap.a2, fun q hq => ?_, ap.a4, ap.a5, fun p hp q hq => ?_⟩, rfl, hok, Nat.le_refl _⟩ ?_ ?_
  · rcases List.mem_cons.mp hq with e | hq
    · rw [e]; exact Ne.symm g0
    · exact ap.a3 q hq
  · rcases List.mem_cons.mp hq with e | hq
    · rw [e]; exact g3 p (List.mem_append_left _ hp)
    · exact ap.a6 p hp q hq
  · rintro i v ⟨D1, n1, ts1, o1, xL1⟩ m1 h tk it oi hv ⟨j1, j2, j3, j4, j5, j6, j7⟩ F1 N1 hlt hne
    dsimp only at j1 j3 j4 j5 j6 j7 N1 hne
    obtain ⟨c, tp, e5, hc⟩ := IntsAre.at i9 i v (by simpa using hv)
    subst e5
    have hcb := hlb c (List.mem_of_getElem? hc)
    have hi : i < 3 := by have := (List.getElem?_eq_some_iff.mp hc).1; (first | lia | omega)
    have N2 : News g L h ((D1, listOf (List.toArray (ts1.map TP.ref)) n1) :: (kn, listOf (List.toArray us) c3) :: (L + 1 + 1, o1) :: (tupsL ts1 ++ ((it, oi) :: (x9, listOf (List.toArray vs9) nn9) :: rest))) := fun p hp => N1 p (by
      rcases List.mem_cons.mp hp with e | hp
      · rw [e]; exact .tail _ (.tail _ (.head _))
      rcases List.mem_cons.mp hp with e | hp
      · rw [e]; exact .tail _ (.tail _ (.tail _ (.head _)))
      rcases List.mem_cons.mp hp with e | hp
      · rw [e]; exact .tail _ (.tail _ (.tail _ (.tail _ (.head _))))
      rcases List.mem_append.mp hp with hp | hp
      · exact .tail _ (.tail _ (.tail _ (.tail _ (.tail _ (List.mem_append_left _ hp)))))
      rcases List.mem_cons.mp hp with e | hp
      · rw [e]; exact .head _
      rcases List.mem_cons.mp hp with e | hp
      · rw [e]; exact .tail _ (.head _)
      · exact .tail _ (.tail _ (.tail _ (.tail _ (.tail _ (List.mem_append_right _ hp))))))
    show wpAny _ _ (execs [st6In w 0, st6In w 1] (lawEnv w qual L fa cdv)) _ _ _
    refine wpAny_execs_cons (st6w B F1 N2 (fun t ht => .tail _ (.tail _ (List.mem_append_left _ (tupsL_mem ht)))) (by (first | lia | omega)) j1 rfl (fun t ht => (j6 t.cc (List.mem_map_of_mem ht)).1) hcb.1 hcb.2 ?_)
    intro h2 tk2 tw m2 F2 e1 e2 N3
    show wpAny _ _ (execs [st6In w 1] (lawEnv w qual L fa cdv)) _ _ _
    have m1d : m2 (Str.ofString "done") = some (.ref D1) := by rw [e2 _ (by decide)]; exact j1
    have m1p : m2 (Str.ofString "part") = some (.int c tp) := by rw [e2 _ (by decide)]; rfl
    have m1k : m2 (Str.ofString "known") = some (.ref kn) := by rw [e2 _ (by decide)]; exact (j2 _ (by decide) (by decide) (by decide)).trans hm2
    have m1a : m2 (Str.ofString "at") = some (.int av ta) := by rw [e2 _ (by decide)]; exact (j2 _ (by decide) (by decide) (by decide)).trans hm5
    have r1 : ∀ q ∈ (it, oi) :: (x9, listOf (List.toArray vs9) nn9) :: rest, q.1 ≠ D1 := fun q hq => by
      rcases List.mem_cons.mp hq with e | hq
      · rw [e]; exact Ne.symm (hne (D1, _) (.head _))
      · exact j4.a3 q hq
    have r2 : ∀ q ∈ (it, oi) :: (x9, listOf (List.toArray vs9) nn9) :: rest, q.1 ≠ L + 1 + 1 := fun q hq => by
      rcases List.mem_cons.mp hq with e | hq
      · rw [e]; exact Ne.symm (hne (L + 1 + 1, _) (.tail _ (.tail _ (.head _))))
      rcases List.mem_cons.mp hq with e | hq
      · rw [e]; exact Ne.symm g2
      · exact hrl q hq
    refine wpAny_execs_cons (st6i B F2 N3 (by (first | lia | omega)) m1d m1p e1 m1k m1a hI hkl d0 j4.a1 j4.a2 (fun p hp => (List.mem_append.mp hp).elim (j4.a4 p) (r1 p)) (fun p hp => (List.mem_append.mp hp).elim (j4.a5 p) (r2 p)) j6 rfl hcb j3 ?_)
    intro h3 tk3 D' n' ts' oL' xL' m3 F3 f1 f2 f3 N4 f4 f5 f6
    refine wpAny_execs_nil ?_
    refine JEnd.next ⟨D', n', ts', oL', xL'⟩ F3 N4 (fun p hp => ?_) (fun p hp => ?_) (fun p hp => ?_) ⟨f1, fun y z1 z2 z3 => ?_, f3, ⟨?_, ?_, fun q hq => ?_, fun p hp => (f5 p hp).1, fun p hp => ?_, fun p hp q hq => ?_⟩, ?_, ?_, ?_⟩
    · rcases List.mem_cons.mp hp with e | hp
      · rw [e]; exact .tail _ (.tail _ (.tail _ (List.mem_append_right _ (.head _))))
      · rw [List.mem_singleton.mp hp]; exact .tail _ (.tail _ (.tail _ (List.mem_append_right _ (.tail _ (.head _)))))
    · rcases List.mem_cons.mp hp with e | hp
      · rw [e]; exact .head _
      rcases List.mem_cons.mp hp with e | hp
      · rw [e]; exact .tail _ (.head _)
      rcases List.mem_cons.mp hp with e | hp
      · rw [e]; exact .tail _ (.tail _ (.head _))
      rcases List.mem_append.mp hp with hp | hp
      · exact .tail _ (.tail _ (.tail _ (List.mem_append_left _ hp)))
      · exact .tail _ (.tail _ (.tail _ (List.mem_append_right _ (.tail _ (.tail _ hp)))))
    · rcases List.mem_cons.mp hp with e | hp
      · rw [e]
        rcases f4 with f4 | f4
        · have h8 : (D1, listOf (List.toArray (ts1.map TP.ref)) n1).1 ≠ it := hne _ (.head _)
          show D' ≠ it
          rw [f4]; exact h8
        · exact Nat.ne_of_gt (f4 (it, oi) (.tail _ (.tail _ (.head _))))
      rcases List.mem_cons.mp hp with e | hp
      · rw [e]; exact hne (kn, _) (.tail _ (.head _))
      rcases List.mem_cons.mp hp with e | hp
      · rw [e]; exact hne (L + 1 + 1, o1) (.tail _ (.tail _ (.head _)))
      rcases List.mem_append.mp hp with hp | hp
      · rcases (f5 p hp).2 with f | f
        · exact hne p (.tail _ (.tail _ (.tail _ (List.mem_append_left _ f))))
        · exact Nat.ne_of_gt (f (it, oi) (.tail _ (.head _)))
      · exact hne p (.tail _ (.tail _ (.tail _ (List.mem_append_right _ hp))))
    · rw [f2 y z1, e2 y z3, if_neg z2]; exact j2 y z1 z2 z3
    · rcases f4 with f4 | f4
      · rw [f4]; exact j4.a1
      · exact Nat.ne_of_lt (f4 (kn, _) (.head _))
    · rcases f4 with f4 | f4
      · rw [f4]; exact j4.a2
      · exact Nat.ne_of_lt (f4 (L + 1 + 1, o1) (.tail _ (.head _)))
    · rcases f4 with f4 | f4
      · rw [f4]; exact j4.a3 q hq
      · exact Nat.ne_of_lt (f4 q (.tail _ (.tail _ (.tail _ hq))))
    · rcases (f5 p hp).2 with f | f
      · exact j4.a5 p f
      · exact Nat.ne_of_gt (f (L + 1 + 1, o1) (.head _))
    · rcases (f5 p hp).2 with f | f
      · exact j4.a6 p f q hq
      · exact Nat.ne_of_gt (f q (.tail _ (.tail _ hq)))
    · rw [f6, j5, List.take_add_one, hc, List.map_append, List.foldl_append]; rfl
    · rw [f6]; exact j6.step hcb ha
    · have := congrArg List.length f6
      have h8 := lstep_len (ks := ks) (d := ts1.map TP.cc) (p := (c, av))
      rw [List.length_map] at this h8
      show ts'.length ≤ ts.length + (i + 1)
      (first | lia | omega)
  · rintro ⟨D1, n1, ts1, o1, xL1⟩ m1 h tk ⟨j1, j2, j3, j4, j5, j6, j7⟩ F1 N1
    dsimp only at j1 j3 j4 j5 j6 j7 N1
    have hsz : (List.toArray vs9).size = (lapart ks ca).length := by rw [List.size_toArray]; exact hvl
    rw [hsz] at j5 j7
    rw [List.take_of_length_le (Nat.le_refl _)] at j5
    exact k _ _ D1 n1 ts1 o1 xL1 m1 F1 j1 j2 j3 N1 ⟨j4.a1, j4.a2, fun q hq => j4.a3 q (.tail _ hq), j4.a4, j4.a5, fun p hp q hq => j4.a6 p hp q (.tail _ hq)⟩ j5 j6 (by (first | lia | omega))
end PSt6n
section PSt6
theorem off_St6 : True := by
  w_top off
  exact trivial
set_option hygiene false in
local macro_rules | `(tactic| walk_at "eval Name") => `(tactic| (k_here; (with_reducible refine nmIs "codes" ?_); k_dflt (refine' ld ?k1 ?k2 ?_; (case k1 => k_asm); (case k2 => exact hm1); k_whole)))
local macro_rules | `(tactic| walk_at "exec For Tuple Call cons nil") => `(tactic| walk_at "forT")
local macro_rules | `(tactic| walk_at "call type:enumerate") => `(tactic| walk_at "stop")
local macro_rules | `(tactic| walk_at "exec For Name Call cons nil") => `(tactic| walk_at "stop")
theorem st6 {w : World} {mean : ExcName → Option Value} {mg mb : Str → Option Value} {dp un : Nat} {fr : Option (List Env)} {gd : Option (List Code)} {g : Heap} {L fa D kn cd : Addr} {qual : Str} {cdv : Value} {m : Str → Option Value} {s : Shared} {Q : Flow → Shared → Prop} {n c2 c3 : Nat} {us ws : List Value} {ks cs : List Int} {oL : Obj} {xL : Option Value}
    (B : Amb2 w mean mg mb dp un g) (F : Fr g L s.heap m) (N : News g L s.heap [(D, listOf #[] n), (kn, listOf (List.toArray us) c3), (L + 1 + 1, oL), (cd, listOf (List.toArray ws) c2)]) (hm1 : m (Str.ofString "codes") = some (.ref cd)) (hm2 : m (Str.ofString "known") = some (.ref kn)) (hm3 : m (Str.ofString "done") = some (.ref D))
    (hI : IntsAre us ks) (hkl : ks.length ≤ 100) (hJ : IntsAre ws cs) (hcl : cs.length ≤ 7) (hcb : ∀ c ∈ cs, 0 ≤ c ∧ c < 100000) (d0 : @Ne Nat (L + 1 + 1) kn) (d1 : @Ne Nat kn D) (d2 : @Ne Nat (L + 1 + 1) D) (d3 : @Ne Nat cd D) (d4 : @Ne Nat cd (L + 1 + 1)) (hcell : oL.data = .cell xL)
    (k : ∀ h' tk' D' n' ts' m', Fr g L h' m' → m' (Str.ofString "done") = some (.ref D') → m' (Str.ofString "known") = some (.ref kn) → m' (Str.ofString "codes") = some (.ref cd) → News g L h' ((D', listOf (List.toArray (ts'.map TP.ref)) n') :: (kn, listOf (List.toArray us) c3) :: (cd, listOf (List.toArray ws) c2) :: tupsL ts') → ts'.map TP.cc = (cs.zipIdx.flatMap fun p => (lapart ks p.1).map fun c => (c, (p.2 : Int))).foldl (lstep ks) [] → ts'.length ≤ 21 → Q .next { s with heap := h', toks := tk' }) :
    wpAny (model PySem.Challenge.rw_pb0193_01.row.prog w) (mkA dp un fr gd) (exec (lawSt w 6) (lawEnv w qual L fa cdv)) Q (fun _ _ => False) s := by
  obtain ⟨X, T, hdp, hun⟩ := id B
  show wpAny _ _ (exec (Stmt.For _ _ _ _ _) (envOfC _ (Scope.mk _ _ _ _ _) _ _ _)) _ _ _
  k_steps
  all_goals (try k_data)
  show wpAny _ _ _ _ _ _
  refine enum_J (σ := DS) (x₀ := ⟨D, n, [], oL, xL⟩) (vs := ws) (n := c2) (fun x => (x.D, listOf (List.toArray (x.ts.map TP.ref)) x.n) :: (kn, listOf (List.toArray us) c3) :: (L + 1 + 1, x.oL) :: (tupsL x.ts ++ [(cd, listOf (List.toArray ws) c2)]))
    (fun i x m' => m' (Str.ofString "done") = some (.ref x.D) ∧ m' (Str.ofString "known") = some (.ref kn) ∧ m' (Str.ofString "codes") = some (.ref cd) ∧ x.oL.data = .cell x.xL ∧ Apx L kn [(cd, listOf (List.toArray ws) c2)] x.D x.ts ∧ x.ts.map TP.cc = ((cs.zipIdx.take i).flatMap fun p => (lapart ks p.1).map fun c => (c, (p.2 : Int))).foldl (lstep ks) [] ∧ DoneOk (x.ts.map TP.cc) ∧ x.ts.length ≤ 3 * i)
    rfl F N (.tail _ (.tail _ (.tail _ (.head _)))) (fun x => .tail _ (.tail _ (.tail _ (List.mem_append_right _ (.head _))))) (fun p hp => hp) ⟨hm3, hm2, hm1, hcell, ⟨d1, d2, fun q hq => by rw [List.mem_singleton.mp hq]; exact d3, fun p hp => (nomatch hp), fun p hp => (nomatch hp), fun p hp => (nomatch hp)⟩, rfl, fun q hq => (nomatch hq), Nat.le_refl _⟩ ?_ ?_
  · rintro i v ⟨D1, n1, ts1, o1, xL1⟩ m1 h tk T' t' I oE oI hv hI9 hT F1 N1 hne
    show wpAny _ _ _ _ _ _
    (try k_fold)
    obtain ⟨j1, j2, j3, j4, j5, j6, j7, j8⟩ := hI9
    dsimp only at j1 j4 j5 j6 j7 j8 N1 hne
    obtain ⟨c, tc, e5, hc⟩ := IntsAre.at hJ i v hv
    subst e5
    have hcb2 := hcb c (List.mem_of_getElem? hc)
    have hi : i < 7 := by have := (List.getElem?_eq_some_iff.mp hc).1; (first | lia | omega)
    show wpAny _ _ _ _ _ _
    (try k_fold)
    k_steps
    all_goals (try k_data)
    rename_i h5 F5 N5 h6 h7 F7 N7
    show wpAny _ _ _ _ _ _
    refine st6n B (n := n1) (c3 := c3) (rest := (I + 1, oE) :: (I, oI) :: [(cd, listOf (List.toArray ws) c2)]) F7 (fun p hp => N7 p ?_) (by (first | lia | omega)) rfl j2 j1 rfl hI hkl d0 ⟨j5.a1, j5.a2, fun q hq => ?_, j5.a4, j5.a5, fun p hp q hq => ?_⟩ (fun q hq => ?_) j7 hcb2.1 hcb2.2 ⟨by (first | lia | omega), by (first | lia | omega)⟩ j4 ?_
    · rcases List.mem_cons.mp hp with e | hp
      · rw [e]; exact .tail _ (.tail _ (.head _))
      rcases List.mem_cons.mp hp with e | hp
      · rw [e]; exact .tail _ (.tail _ (.tail _ (.head _)))
      rcases List.mem_cons.mp hp with e | hp
      · rw [e]; exact .tail _ (.tail _ (.tail _ (.tail _ (.head _))))
      rcases List.mem_append.mp hp with hp | hp
      · exact .tail _ (.tail _ (.tail _ (.tail _ (.tail _ (List.mem_append_left _ hp)))))
      rcases List.mem_cons.mp hp with e | hp
      · rw [e]; exact .head _
      rcases List.mem_cons.mp hp with e | hp
      · rw [e]; exact .tail _ (.head _)
      · exact .tail _ (.tail _ (.tail _ (.tail _ (.tail _ (List.mem_append_right _ hp)))))
    · rcases List.mem_cons.mp hq with e | hq
      · rw [e]; exact Ne.symm (hne (D1, _) (.head _)).1
      rcases List.mem_cons.mp hq with e | hq
      · rw [e]; exact Ne.symm (hne (D1, _) (.head _)).2
      · exact j5.a3 q hq
    · rcases List.mem_cons.mp hq with e | hq
      · rw [e]; exact (hne p (.tail _ (.tail _ (.tail _ (List.mem_append_left _ hp))))).1
      rcases List.mem_cons.mp hq with e | hq
      · rw [e]; exact (hne p (.tail _ (.tail _ (.tail _ (List.mem_append_left _ hp))))).2
      · exact j5.a6 p hp q hq
    · rcases List.mem_cons.mp hq with e | hq
      · rw [e]; exact Ne.symm (hne (L + 1 + 1, _) (.tail _ (.tail _ (.head _)))).1
      rcases List.mem_cons.mp hq with e | hq
      · rw [e]; exact Ne.symm (hne (L + 1 + 1, _) (.tail _ (.tail _ (.head _)))).2
      · rw [List.mem_singleton.mp hq]; exact d4
    intro h' tk' D' n' ts' oL' xL' m' F' q1 q2 q3 N' q4 q5 q6 q7
    show wpAny _ _ (execs [] _) _ _ _
    refine wpAny_execs_nil ?_
    refine JEnd.next ⟨D', n', ts', oL', xL'⟩ F' N' (fun p hp => ?_) (fun p hp => ?_) (fun p hp => ?_) ⟨q1, ?_, ?_, q3, ⟨q4.a1, q4.a2, fun q hq => q4.a3 q (.tail _ (.tail _ hq)), q4.a4, q4.a5, fun p hp q hq => q4.a6 p hp q (.tail _ (.tail _ hq))⟩, ?_, q6, ?_⟩
    · rcases List.mem_cons.mp hp with e | hp
      · rw [e]; exact .tail _ (.tail _ (.tail _ (List.mem_append_right _ (.head _))))
      · rw [List.mem_singleton.mp hp]; exact .tail _ (.tail _ (.tail _ (List.mem_append_right _ (.tail _ (.head _)))))
    · rcases List.mem_cons.mp hp with e | hp
      · rw [e]; exact .head _
      rcases List.mem_cons.mp hp with e | hp
      · rw [e]; exact .tail _ (.head _)
      rcases List.mem_cons.mp hp with e | hp
      · rw [e]; exact .tail _ (.tail _ (.head _))
      rcases List.mem_append.mp hp with hp | hp
      · exact .tail _ (.tail _ (.tail _ (List.mem_append_left _ hp)))
      · exact .tail _ (.tail _ (.tail _ (List.mem_append_right _ (.tail _ (.tail _ hp)))))
    · rcases List.mem_cons.mp hp with e | hp
      · rw [e]; exact ⟨Ne.symm (q4.a3 _ (.head _)), Ne.symm (q4.a3 _ (.tail _ (.head _)))⟩
      rcases List.mem_cons.mp hp with e | hp
      · rw [e]; exact hne (kn, listOf (List.toArray us) c3) (.tail _ (.head _))
      rcases List.mem_cons.mp hp with e | hp
      · rw [e]; exact hne (L + 1 + 1, o1) (.tail _ (.tail _ (.head _)))
      rcases List.mem_append.mp hp with hp | hp
      · exact ⟨q4.a6 p hp _ (.head _), q4.a6 p hp _ (.tail _ (.head _))⟩
      · exact hne p (.tail _ (.tail _ (.tail _ (List.mem_append_right _ hp))))
    · rw [q2 _ (by decide) (by decide) (by decide)]; exact j2
    · rw [q2 _ (by decide) (by decide) (by decide)]; exact j3
    · have hz : cs.zipIdx[i]? = some (c, i) := by rw [List.getElem?_zipIdx, hc]; simp
      rw [q5, j6, List.take_add_one, hz, List.flatMap_append, List.foldl_append]
      simp
    · show ts'.length ≤ 3 * (i + 1)
      (first | lia | omega)
  · rintro ⟨D1, n1, ts1, o1, xL1⟩ m1 h tk ⟨j1, j2, j3, j4, j5, j6, j7, j8⟩ F1 N1
    dsimp only at j1 j4 j5 j6 j7 j8 N1
    have hwl : ws.length = cs.length := IntsAre.length hJ
    rw [hwl, List.take_of_length_le (by rw [List.length_zipIdx]; exact Nat.le_refl _)] at j6
    refine k _ _ D1 n1 ts1 m1 F1 j1 j2 j3 (fun p hp => N1 p ?_) j6 (by (first | lia | omega))
    rcases List.mem_cons.mp hp with e | hp
    · rw [e]; exact .head _
    rcases List.mem_cons.mp hp with e | hp
    · rw [e]; exact .tail _ (.head _)
    rcases List.mem_cons.mp hp with e | hp
    · rw [e]; exact .tail _ (.tail _ (.tail _ (List.mem_append_right _ (.head _))))
    · exact .tail _ (.tail _ (.tail _ (List.mem_append_left _ hp)))
end PSt6
section PSt5
theorem off_St5 : True := by
  w_top off
  exact trivial
theorem st5 {w : World} {mean : ExcName → Option Value} {mg mb : Str → Option Value} {dp un : Nat} {fr : Option (List Env)} {gd : Option (List Code)} {g : Heap} {L fa : Addr} {qual : Str} {cdv : Value} {m : Str → Option Value} {s : Shared} {Q : Flow → Shared → Prop} {news : Led}
    (B : Amb2 w mean mg mb dp un g) (F : Fr g L s.heap m) (N : News g L s.heap news)
    (k : ∀ h' tk' D m', Fr g L h' m' → m' (Str.ofString "done") = some (.ref D) → (∀ y, y ≠ Str.ofString "done" → m' y = m y) → News g L h' ((D, listOf #[] 0) :: news) → (∀ p ∈ news, p.1 < D) → Q .next { s with heap := h', toks := tk' }) :
    wpAny (model PySem.Challenge.rw_pb0193_01.row.prog w) (mkA dp un fr gd) (exec (lawSt w 5) (lawEnv w qual L fa cdv)) Q (fun _ _ => False) s := by
  obtain ⟨X, T, hdp, hun⟩ := id B
  show wpAny _ _ (exec (Stmt.Assign _ _ _) (envOfC _ (Scope.mk _ _ _ _ _) _ _ _)) _ _ _
  k_steps
  all_goals (try k_data)
  rename_i D7 h6 l7 h7 F7 N7
  exact k _ _ D7 _ F7 rfl (fun y hy => if_neg hy) N7 l7
end PSt5
section PSt7
theorem off_St7 : True := by
  w_top off
  exact trivial
set_option hygiene false in
local macro_rules | `(tactic| walk_at "eval Name") => `(tactic| (k_here; (with_reducible refine nmIs "codes" ?_); k_dflt (refine' ld ?k1 ?k2 ?_; (case k1 => k_asm); (case k2 => exact hm1); k_whole)))
set_option hygiene false in
local macro_rules | `(tactic| walk_at "P115") => `(tactic| (case P => intro H9 b9 b8; exact ⟨_, ⟨_, b8 (_, _) (by k_mem), rfl, _, rfl⟩, by assumption⟩))
local macro_rules | `(tactic| walk_at "call ref") => callL "O" 115 "buffer_of_c cs=cs a0" "a0 uF uX P115" "_ bf9 db9 row9 c1 c2 c3 c4 k1 k2 k3 k4 t3 t4 nn9 is9 e9 o9 i9 g9 q9" "sE sO zO"
theorem st7 {w : World} {mean : ExcName → Option Value} {mg mb : Str → Option Value} {dp un : Nat} {fr : Option (List Env)} {gd : Option (List Code)} {g : Heap} {L fa cd : Addr} {qual : Str} {cdv : Value} {m : Str → Option Value} {s : Shared} {Q : Flow → Shared → Prop} {tail : Led} {c2 : Nat} {ws : List Value} {cs : List Int}
    (B : Amb2 w mean mg mb dp un g) (F : Fr g L s.heap m) (N : News g L s.heap ((cd, listOf (List.toArray ws) c2) :: tail)) (hm1 : m (Str.ofString "codes") = some (.ref cd)) (hJ : IntsAre ws cs) (hcl : cs.length ≤ 100)
    (k : ∀ h' tk' bf db row b1 b2 b3 b4 k1 k2 k3 k4 t3 t4 n is m', Fr g L h' m' → m' (Str.ofString "buffer") = some (.ref bf) → (∀ y, y ≠ Str.ofString "buffer" → m' y = m y) → News g L h' (((bf, instObj 105 db) :: (db, bufD b1 b2 b3 b4 k1 k2 k3 k4 t3 t4 row) :: (row, listOf (List.toArray (is.map Inf.ref)) n) :: infosL is) ++ (cd, listOf (List.toArray ws) c2) :: tail) → (∀ q ∈ (cd, listOf (List.toArray ws) c2) :: tail, q.1 ≠ db) → @Ne Nat bf db → (∀ p ∈ (row, listOf (List.toArray (is.map Inf.ref)) n) :: infosL is, p.1 ≠ db) → is.map Inf.cc = cc0 cs → Q .next { s with heap := h', toks := tk' }) :
    wpAny (model PySem.Challenge.rw_pb0193_01.row.prog w) (mkA dp un fr gd) (exec (lawSt w 7) (lawEnv w qual L fa cdv)) Q (fun _ _ => False) s := by
  obtain ⟨X, T, hdp, hun⟩ := id B
  show wpAny _ _ (exec (Stmt.Assign _ _ _) (envOfC _ (Scope.mk _ _ _ _ _) _ _ _)) _ _ _
  k_steps
  all_goals (try k_data)
  rename_i w1 w2 w3 w4 w5 h7 F7 N7
  exact k _ _ bf9 db9 row9 _ _ _ _ _ _ _ _ _ _ nn9 is9 _ F7 rfl (fun y hy => if_neg hy) N7 (fun q hq => by
    rcases List.mem_cons.mp hq with e | hq
    · rw [e]; exact w4
    · exact w5 q hq) g9 q9 i9
end PSt7
section PSt8
theorem off_St8 : True := by
  w_top off
  exact trivial
set_option hygiene false in
local macro_rules | `(tactic| walk_at "eval Name") => `(tactic| (k_here; (with_reducible refine nmIs "buffer" ?_); k_dflt (refine' ld ?k1 ?k2 ?_; (case k1 => k_asm); (case k2 => exact hm1); k_whole)))
set_option hygiene false in
local macro_rules | `(tactic| walk_at "eval Name") => `(tactic| (k_here; (with_reducible refine nmIs "known" ?_); k_dflt (refine' ld ?k1 ?k2 ?_; (case k1 => k_asm); (case k2 => exact hm2); k_whole)))
local macro_rules | `(tactic| walk_at "eval ListComp") => `(tactic| walk_at "compL")
local macro_rules | `(tactic| walk_at "call ref") => refL "165" "norm_new" "kasm kasm kasm kasm rfl c_room c_room ?" "x9 d9 h9 tk9 p1 q1 p2 q2 F9 N9 l9 m9"
local macro_rules | `(tactic| walk_at "call type:dict") => `(tactic| walk_at "stop")
set_option hygiene false in
local macro_rules | `(tactic| walk_at "call ref") => `(tactic| (k_here; (with_reducible refine refIs 319 ?_); refine Stop.out ?_))
set_option hygiene false in
local macro_rules | `(tactic| walk_at "call ref") => `(tactic| (k_here; (with_reducible refine refIs 282 ?_); refine Stop.out ?_))
theorem st8 {w : World} {mean : ExcName → Option Value} {mg mb : Str → Option Value} {dp un : Nat} {fr : Option (List Env)} {gd : Option (List Code)} {g : Heap} {L fa kn bf db row : Addr} {qual : Str} {cdv : Value} {m : Str → Option Value} {s : Shared} {Q : Flow → Shared → Prop} {tail : Led} {n c3 : Nat} {us : List Value} {ks : List Int} {b1 b2 b3 b4 : Int} {k1 k2 k3 k4 t3 t4 : Tok} {is : List Inf} {pc : Int → List Int}
    (B : Amb2 w mean mg mb dp un g) (F : Fr g L s.heap m) (N : News g L s.heap ((bf, instObj 105 db) :: (db, bufD b1 b2 b3 b4 k1 k2 k3 k4 t3 t4 row) :: (row, listOf (List.toArray (is.map Inf.ref)) n) :: (kn, listOf (List.toArray us) c3) :: tail)) (hm1 : m (Str.ofString "buffer") = some (.ref bf)) (hm2 : m (Str.ofString "known") = some (.ref kn)) (hI : IntsAre us ks) (hkl : ks.length ≤ 100) (hil : is.length ≤ 100)
    (hinf : ∀ p ∈ infosL is, p ∈ tail) (d1 : @Ne Nat bf db) (d2 : @Ne Nat row db) (d3 : @Ne Nat kn db) (d4 : ∀ p ∈ tail, p.1 ≠ db)
    (hpc : ∀ p ∈ is.map Inf.cc, Pieces ks p.1 (pc p.1)) (hok : PutOk ((is.map Inf.cc).flatMap (fun p => (pc p.1).map fun c => (c, p.2))) 0)
    (k : ∀ h' tk' row' n' fin, Fr g L h' m → News g L h' ((bf, instObj 105 db) :: (db, bufD b1 b2 b3 b4 k1 k2 k3 k4 t3 t4 row') :: (row', listOf (List.toArray (fin.map Inf.ref)) n') :: (infosL fin ++ tail)) → fin.map Inf.cc = putAll ks ((is.map Inf.cc).flatMap (fun p => (pc p.1).map fun c => (c, p.2))) → Q .next { s with heap := h', toks := tk' }) :
    wpAny (model PySem.Challenge.rw_pb0193_01.row.prog w) (mkA dp un fr gd) (exec (lawSt w 8) (lawEnv w qual L fa cdv)) Q (fun _ _ => False) s := by
  obtain ⟨X, T, hdp, hun⟩ := id B
  show wpAny _ _ (exec (Stmt.Expr _ _) (envOfC _ (Scope.mk _ _ _ _ _) _ _ _)) _ _ _
  k_steps
  all_goals (try k_data)
  rename_i e1 h1' oe1 lo1 hs1 fs1 hi1 fi1 l1 e2 h2' oe2 F2 N2 lo2 hs2 fs2 hi2 fi2 l2
  clear F2 N2
  have hul : us.length = ks.length := IntsAre.length hI
  show LCg.CompSrc _ _ _ _ _ _ _ _ _ _ _ _ _ _
  refine LCg.CompSrc.ledger (its := List.toArray us) (by rfl) F9 N9 (by k_mem) (by rw [List.size_toArray, PySem.sizeLine_eq]; (first | lia | omega)) ?_
  intro g'
  clear N9 F9
  refine compRest_S (σ := List TP) (a₀ := []) (fun ts' => (x9, instObj 165 d9) :: (d9, dictOf [⟨p1, .str (Str.ofString "parts") q1, .ref e1⟩, ⟨p2, .str (Str.ofString "classes") q2, .ref e2⟩] 2) :: (e2, oe2) :: (e1, oe1) :: (bf, instObj 105 db) :: (db, bufD b1 b2 b3 b4 k1 k2 k3 k4 t3 t4 row) :: (row, listOf (List.toArray (is.map Inf.ref)) n) :: (kn, listOf (List.toArray us) c3) :: (tupsL ts' ++ tail))
    (fun i ys ts' => ys = ts'.map TP.ref ∧ (∀ t ∈ ts', t.k = 1) ∧ ts'.map TP.c = ks.take i) rfl ⟨rfl, fun t ht => (nomatch ht), rfl⟩ ?_ ?_
  · rintro i v ys ts' Ia oI C oC D' m₂ h tk E' hi hv hI9 hC hx F N off ne
    show wpAny _ _ _ _ _ _
    (try k_fold)
    obtain ⟨rfl, hy2, hy3⟩ := hI9
    obtain ⟨c, tc, e5, hc⟩ := IntsAre.at hI i v (by simpa using hv)
    subst e5
    show wpAny _ _ _ _ _ _
    (try k_fold)
    k_steps
    all_goals (try k_data)
    rename_i T9 h9 F9 N9 l9
    refine LCg.CompEnd.intro F9 N9 ((x9, instObj 165 d9) :: (d9, dictOf [⟨p1, .str (Str.ofString "parts") q1, .ref e1⟩, ⟨p2, .str (Str.ofString "classes") q2, .ref e2⟩] 2) :: (e2, oe2) :: (e1, oe1) :: (bf, instObj 105 db) :: (db, bufD b1 b2 b3 b4 k1 k2 k3 k4 t3 t4 row) :: (row, listOf (List.toArray (is.map Inf.ref)) n) :: (kn, listOf (List.toArray us) c3) :: (tupsL (ts' ++ [⟨T9, c, tc, 1, tk⟩]) ++ tail)) (fun p hp => ?_) (LCg.Off3.of fun p hp => ?_) (.inr ⟨_, .tail _ (.tail _ (.tail _ (.tail _ (.tail _ (.tail _ (.tail _ (.head _))))))), rfl, _, rfl⟩) ⟨ts' ++ [⟨T9, c, tc, 1, tk⟩], rfl, by rw [List.map_append]; rfl, fun t ht => ?_, ?_⟩
    · rw [tupsL_append] at hp
      exact sub_snoc (pre := [_, _, _, _, _, _, _, _, _, _, _]) p hp
    · rw [tupsL_append] at hp
      rcases List.mem_cons.mp (sub_snoc (pre := [_, _, _, _, _, _, _, _]) p hp) with e | hp
      · rw [e]; exact ⟨Nat.ne_of_gt l9.1, Nat.ne_of_gt l9.2.1, Nat.ne_of_gt l9.2.2.1⟩
      · exact LCg.Off3.mem off p hp
    · rcases List.mem_append.mp ht with ht | ht
      · exact hy2 t ht
      · rw [List.mem_singleton.mp ht]
    · rw [List.map_append, hy3, List.take_add_one, hc]; rfl
  · rintro ys ts' ⟨rfl, hy2, hy3⟩
    unfold LCg.FinE
    intro D' h tk F N o1
    (try dsimp only at N)
    (try dsimp only)
    rw [List.size_toArray, hul, List.take_of_length_le (Nat.le_refl _)] at hy3
    have htl : ts'.length = ks.length := by have := congrArg List.length hy3; rw [List.length_map] at this; exact this
    k_steps
    all_goals (try k_data)
    show wpAny _ _ _ _ _ _
    refine dict_pairs_led (vs := ts'.map TP.ref) (cap := (ts'.map TP.ref).length) (fun j => ks.getD j 0) rfl F N (modules_low T.nolimit) (.head _) (by rw [List.length_map]; (first | lia | omega)) (fun j v hj => ?_) ?_
    · rw [List.getElem?_map] at hj
      cases ht : ts'[j]? with
      | none => rw [ht] at hj; cases hj
      | some t =>
        rw [ht] at hj
        have hjv : v = .ref t.x := (Option.some.inj hj).symm
        have htm := List.mem_of_getElem? ht
        have hkc : ks.getD j 0 = t.c := by rw [← hy3, List.getD_eq_getElem?_getD, List.getElem?_map, ht]; rfl
        refine ⟨t.x, t.tc, t.tk, hjv, ?_⟩
        rw [hkc]
        have := tupsL_mem htm
        rw [hy2 t htm] at this
        exact .tail _ (.tail _ (.tail _ (.tail _ (.tail _ (.tail _ (.tail _ (.tail _ (.tail _ (List.mem_append_left _ this)))))))))
    · intro cdd h2 tk2 od kvs F2 N2 hlt2 hlo2 hdo hkl2 hO
      have hOn : Ones kvs (fun c => (ks.any fun x => x == c) = true) := hO.of fun c => by
        rw [List.length_map, htl]
        constructor
        · rintro ⟨j, hj, rfl⟩
          refine List.any_eq_true.mpr ⟨ks[j], List.getElem_mem hj, ?_⟩
          rw [List.getD_eq_getElem?_getD, List.getElem?_eq_getElem hj]
          simp
        · intro hc
          obtain ⟨x, hx, e⟩ := List.any_eq_true.mp hc
          obtain ⟨j, hj⟩ := List.getElem?_of_mem hx
          refine ⟨j, (List.getElem?_eq_some_iff.mp hj).1, ?_⟩
          rw [List.getD_eq_getElem?_getD, hj]
          have : x = c := by simpa using e
          exact this.symm
      clear N F
      (try dsimp only)
      k_steps
      all_goals (try k_data)
      show wpAny _ _ _ _ _ _
      refine map_new (cd := cdd) (ks := ks) F2 N2 X T rfl (by walk_at "c_room") (by walk_at "c_room") ⟨od, kvs, .head _, hdo, hlo2, by rw [List.length_map] at hkl2; (first | lia | omega), hOn⟩ ?_
      intro xm dm h3 tk3 r1 u1 r2 u2 cd2 oc kvs2 F3 N3 lt3 lt4 ne3 ne4 ne5 hlo3 hdo3 hOn3
      clear N2 F2
      (try dsimp only)
      k_steps
      all_goals (try k_data)
      show wpAny _ _ _ _ _ _
      have nd : ∀ {a : Addr}, a ≠ db → a ∉ [(db, bufD b1 b2 b3 b4 k1 k2 k3 k4 t3 t4 row)].map (·.1) := fun h z => h (List.mem_singleton.mp z)
      have m0 : ∀ p ∈ (bf, instObj 105 db) :: (db, bufD b1 b2 b3 b4 k1 k2 k3 k4 t3 t4 row) :: (row, listOf (List.toArray (is.map Inf.ref)) n) :: (kn, listOf (List.toArray us) c3) :: (tupsL ts' ++ tail), p ∈ (xm, instObj 319 dm) :: (dm, dictOf [⟨r1, .str (Str.ofString "codes") u1, .ref cd2⟩, ⟨r2, .str (Str.ofString "variations") u2, .none⟩] 2) :: (cd2, oc) :: (cdd, od) :: (D', LCg.lst (ts'.map TP.ref)) :: (x9, instObj 165 d9) :: (d9, dictOf [⟨p1, .str (Str.ofString "parts") q1, .ref e1⟩, ⟨p2, .str (Str.ofString "classes") q2, .ref e2⟩] 2) :: (e2, oe2) :: (e1, oe1) :: (bf, instObj 105 db) :: (db, bufD b1 b2 b3 b4 k1 k2 k3 k4 t3 t4 row) :: (row, listOf (List.toArray (is.map Inf.ref)) n) :: (kn, listOf (List.toArray us) c3) :: (tupsL ts' ++ tail) :=
        fun p hp => .tail _ (.tail _ (.tail _ (.tail _ (.tail _ (.tail _ (.tail _ (.tail _ (.tail _ hp))))))))
      have nx1 : e1 ≠ db := Nat.ne_of_gt l1.2.1
      have nx2 : e2 ≠ db := Nat.ne_of_gt l2.2.2.1
      have ld9 : @LT.lt Nat _ db d9 := l9 (db, bufD b1 b2 b3 b4 k1 k2 k3 k4 t3 t4 row) (.tail _ (.tail _ (.tail _ (.head _))))
      have nx3 : d9 ≠ db := Nat.ne_of_gt ld9
      have nx4 : x9 ≠ db := Nat.ne_of_gt (Nat.lt_trans ld9 m9)
      have ldm : @LT.lt Nat _ db dm := lt3 (db, bufD b1 b2 b3 b4 k1 k2 k3 k4 t3 t4 row) (.tail _ (.tail _ (.tail _ (.tail _ (.tail _ (.tail _ (.tail _ (.head _))))))))
      have nx5 : dm ≠ db := Nat.ne_of_gt ldm
      have nx6 : xm ≠ db := Nat.ne_of_gt (Nat.lt_trans ldm lt4)
      have nx7 : cd2 ≠ db := Ne.symm (ne3 (db, bufD b1 b2 b3 b4 k1 k2 k3 k4 t3 t4 row) (.tail _ (.tail _ (.tail _ (.tail _ (.tail _ (.tail _ (.tail _ (.head _)))))))))
      refine Ctr.use (normalise_c (ks := ks) (pc := pc) (is := is.map Inf.cc) (by rw [List.length_map]; exact hil) hpc hok) F3 N3 X T rfl (by walk_at "c_room") (by walk_at "c_room") (fun p hp => by rw [List.mem_singleton.mp hp]; exact m0 _ (.tail _ (.head _))) (fun H b9 b8 => ⟨?_, ?_, ?_, ?_⟩) ?_
      · exact b8 (bf, _) (m0 _ (.head _)) (nd d1)
      · exact row_led (b8 (row, _) (m0 _ (.tail _ (.tail _ (.head _)))) (nd d2)) fun p hp => b8 p (m0 _ (.tail _ (.tail _ (.tail _ (.tail _ (List.mem_append_right _ (hinf p hp))))))) (nd (d4 p (hinf p hp)))
      · exact ⟨d9, p1, q1, p2, q2, 2, e1, e2, b8 (x9, _) (.tail _ (.tail _ (.tail _ (.tail _ (.tail _ (.head _)))))) (nd nx4), b8 (d9, _) (.tail _ (.tail _ (.tail _ (.tail _ (.tail _ (.tail _ (.head _))))))) (nd nx3),
          ⟨lo1, [], Heap.dictOf_iff.mpr ⟨oe1, b8 (e1, _) (.tail _ (.tail _ (.tail _ (.tail _ (.tail _ (.tail _ (.tail _ (.tail _ (.head _))))))))) (nd nx1), hi1⟩, .nil⟩, ⟨lo2, [], Heap.dictOf_iff.mpr ⟨oe2, b8 (e2, _) (.tail _ (.tail _ (.tail _ (.tail _ (.tail _ (.tail _ (.tail _ (.head _)))))))) (nd nx2), hi2⟩, .nil⟩⟩
      · exact ⟨dm, r1, u1, r2, u2, 2, cd2, _, b8 (xm, _) (.head _) (nd nx6), b8 (dm, _) (.tail _ (.head _)) (nd nx5), ⟨hlo3, kvs2, Heap.dictOf_iff.mpr ⟨oc, b8 (cd2, _) (.tail _ (.tail _ (.head _))) (nd nx7), hdo3⟩, hOn3.flat⟩, hOn3.look⟩
      · rintro r h4 tk4 led' own F4 hl4 hk4 Nl No hne4 ⟨rfl, row', n', fin, rfl, rfl, hcc⟩
        refine k h4 tk4 row' n' fin F4 (fun p hp => ?_) hcc
        rcases List.mem_cons.mp hp with e | hp
        · rw [e]; exact hk4 _ (m0 _ (.head _)) (nd d1)
        rcases List.mem_cons.mp hp with e | hp
        · rw [e]; exact Nl _ (.head _)
        rcases List.mem_cons.mp hp with e | hp
        · rw [e]; exact No _ (.head _)
        rcases List.mem_append.mp hp with hp | hp
        · exact No p (.tail _ hp)
        · exact hk4 p (m0 _ (.tail _ (.tail _ (.tail _ (.tail _ (List.mem_append_right _ hp)))))) (nd (d4 p hp))
end PSt8
section PSt9
theorem off_St9 : True := by
  w_top off
  exact trivial
set_option hygiene false in
local macro_rules | `(tactic| walk_at "eval Name") => `(tactic| (k_here; (with_reducible refine nmIs "buffer" ?_); k_dflt (refine' ld ?k1 ?k2 ?_; (case k1 => k_asm); (case k2 => exact hm1); k_whole)))
set_option hygiene false in
local macro_rules | `(tactic| walk_at "eval Name") => `(tactic| (k_here; (with_reducible refine nmIs "done" ?_); k_dflt (refine' ld ?k1 ?k2 ?_; (case k1 => k_asm); (case k2 => exact hm2); k_whole)))
local macro_rules | `(tactic| walk_at "eval ListComp") => `(tactic| walk_at "compL")
local macro_rules | `(tactic| walk_at "compareOp NotEq ref ref") => `(tactic| walk_at "stop")
theorem st9 {w : World} {mean : ExcName → Option Value} {mg mb : Str → Option Value} {dp un : Nat} {fr : Option (List Env)} {gd : Option (List Code)} {g : Heap} {L fa D bf db row : Addr} {qual : Str} {cdv : Value} {m : Str → Option Value} {s : Shared} {Q : Flow → Shared → Prop} {tail : Led} {n n' : Nat} {b1 b2 b3 b4 : Int} {k1 k2 k3 k4 t3 t4 : Tok} {fin : List Inf} {ts : List TP}
    (B : Amb2 w mean mg mb dp un g) (F : Fr g L s.heap m) (N : News g L s.heap ((bf, instObj 105 db) :: (db, bufD b1 b2 b3 b4 k1 k2 k3 k4 t3 t4 row) :: (row, listOf (List.toArray (fin.map Inf.ref)) n') :: (D, listOf (List.toArray (ts.map TP.ref)) n) :: tail)) (hm1 : m (Str.ofString "buffer") = some (.ref bf)) (hm2 : m (Str.ofString "done") = some (.ref D))
    (hfin : ∀ p ∈ infosL fin, p ∈ tail) (hts : ∀ t ∈ ts, (t.x, tup2 t.c t.tc t.k t.tk) ∈ tail) (hfl : fin.length ≤ 300) (heq : fin.map Inf.cc = ts.map TP.cc)
    (k : ∀ h' tk', Fr g L h' m → News g L h' tail → Q .next { s with heap := h', toks := tk' }) :
    wpAny (model PySem.Challenge.rw_pb0193_01.row.prog w) (mkA dp un fr gd) (exec (lawSt w 9) (lawEnv w qual L fa cdv)) Q (fun _ _ => False) s := by
  obtain ⟨X, T, hdp, hun⟩ := id B
  show wpAny _ _ (exec (Stmt.If _ _ _ _) (envOfC _ (Scope.mk _ _ _ _ _) _ _ _)) _ _ _
  k_steps
  all_goals (try k_data)
  show LCg.CompSrc _ _ _ _ _ _ _ _ _ _ _ _ _ _
  refine LCg.CompSrc.ledger (its := List.toArray (fin.map Inf.ref)) (by rfl) F N (.tail _ (.tail _ (.head _))) (by rw [List.size_toArray, List.length_map, PySem.sizeLine_eq]; (first | lia | omega)) ?_
  intro g'
  clear N F
  refine compRest_S (σ := List TP) (a₀ := []) (fun ts' => (bf, instObj 105 db) :: (db, bufD b1 b2 b3 b4 k1 k2 k3 k4 t3 t4 row) :: (row, listOf (List.toArray (fin.map Inf.ref)) n') :: (D, listOf (List.toArray (ts.map TP.ref)) n) :: (tupsL ts' ++ tail))
    (fun i ys ts' => ys = ts'.map TP.ref ∧ ts'.map TP.cc = (fin.map Inf.cc).take i) rfl ⟨rfl, rfl⟩ ?_ ?_
  · rintro i v ys ts' Ia oI C oC D' m₂ h tk E' hi hv hI9 hC hx F N off ne
    show wpAny _ _ _ _ _ _
    (try k_fold)
    obtain ⟨rfl, hy2⟩ := hI9
    have hil : i < fin.length := by rw [List.size_toArray, List.length_map] at hi; exact hi
    obtain ⟨j, hj⟩ : ∃ j, fin[i]? = some j := ⟨_, List.getElem?_eq_getElem hil⟩
    have hjm := List.mem_of_getElem? hj
    have hv2 : v = .ref j.x := by
      have : (List.toArray (fin.map Inf.ref))[i]? = (fin.map Inf.ref)[i]? := by simp
      rw [this, List.getElem?_map, hj] at hv
      exact (Option.some.inj hv).symm
    subst hv2
    have N1 : News g L h ((j.x, instObj 52 j.dx) :: (j.dx, infoD j.q) :: (Ia, oI) :: (C, oC) :: (D', LCg.lst (ts'.map TP.ref)) :: (bf, instObj 105 db) :: (db, bufD b1 b2 b3 b4 k1 k2 k3 k4 t3 t4 row) :: (row, listOf (List.toArray (fin.map Inf.ref)) n') :: (D, listOf (List.toArray (ts.map TP.ref)) n) :: (tupsL ts' ++ tail)) := fun p hp => by
      rcases List.mem_cons.mp hp with e | hp
      · rw [e]; exact N _ (.tail _ (.tail _ (.tail _ (.tail _ (.tail _ (.tail _ (.tail _ (List.mem_append_right _ (hfin _ (infosL_x hjm))))))))))
      rcases List.mem_cons.mp hp with e | hp
      · rw [e]; exact N _ (.tail _ (.tail _ (.tail _ (.tail _ (.tail _ (.tail _ (.tail _ (List.mem_append_right _ (hfin _ (infosL_d hjm))))))))))
      · exact N p hp
    clear N
    show wpAny _ _ _ _ _ _
    (try k_fold)
    k_steps
    all_goals (try k_data)
    rename_i T9 h9 F9 N9 l9
    refine LCg.CompEnd.intro F9 N9 ((bf, instObj 105 db) :: (db, bufD b1 b2 b3 b4 k1 k2 k3 k4 t3 t4 row) :: (row, listOf (List.toArray (fin.map Inf.ref)) n') :: (D, listOf (List.toArray (ts.map TP.ref)) n) :: (tupsL (ts' ++ [⟨T9, j.q.code, j.q.v0, j.q.cluster, j.q.v2⟩]) ++ tail)) (fun p hp => ?_) (LCg.Off3.of fun p hp => ?_) (.inr ⟨_, .tail _ (.tail _ (.head _)), rfl, _, rfl⟩) ⟨ts' ++ [⟨T9, j.q.code, j.q.v0, j.q.cluster, j.q.v2⟩], rfl, by rw [List.map_append]; rfl, ?_⟩
    · rw [tupsL_append] at hp
      rcases List.mem_cons.mp (sub_snoc (pre := [_, _, _, _, _, _, _]) p hp) with e | hp
      · rw [e]; exact .head _
      · exact .tail _ (.tail _ (.tail _ hp))
    · rw [tupsL_append] at hp
      rcases List.mem_cons.mp (sub_snoc (pre := [_, _, _, _]) p hp) with e | hp
      · rw [e]; exact ⟨Nat.ne_of_gt l9.2.2.1, Nat.ne_of_gt l9.2.2.2.1, Nat.ne_of_gt l9.2.2.2.2.1⟩
      · exact LCg.Off3.mem off p hp
    · rw [List.map_append, hy2, List.take_add_one, List.getElem?_map, hj]; rfl
  · rintro ys ts' ⟨rfl, hy2⟩
    unfold LCg.FinE
    intro D' h tk F N o1
    (try dsimp only at N)
    (try dsimp only)
    rw [List.size_toArray, List.length_map, List.take_of_length_le (by rw [List.length_map]; exact Nat.le_refl _), heq] at hy2
    k_steps
    all_goals (try k_data)
    show wpAny _ _ _ _ _ _
    refine tups_ne (ts := ts') (us := ts) (N _ (.head _)).1 (N _ (.tail _ (.tail _ (.tail _ (.tail _ (.head _)))))).1 (fun t ht => (N _ (.tail _ (.tail _ (.tail _ (.tail _ (.tail _ (List.mem_append_left _ (tupsL_mem ht)))))))).1) (fun t ht => (N _ (.tail _ (.tail _ (.tail _ (.tail _ (.tail _ (List.mem_append_right _ (hts t ht)))))))).1) (by walk_at "c_room") ?_
    rw [show decide (ts'.map TP.cc = ts.map TP.cc) = true from decide_eq_true hy2]
    show wpAny _ _ (truthy (.bool false)) _ _ _
    k_steps
    all_goals (try k_data)
    exact k _ _ F (fun p hp => N p (.tail _ (.tail _ (.tail _ (.tail _ (.tail _ (List.mem_append_right _ hp)))))))
end PSt9
section PLoops4
abbrev zipIts (I : Addr) (o1 o2 o3 o4 o5 : Obj) : Led := [(I + 4, o1), (I + 2, o2), (I + 3, o3), (I, o4), (I + 1, o5)]
def ZEnd (g : Heap) (L : Addr) (s : Shared) (Q : Flow → Shared → Prop) (all : Led) (f : Flow) (s' : Shared) : Prop :=
  match f with
  | .ret v => Q (.ret v) s'
  | .brk => Q .next s'
  | _ => ∃ h' tk' m', s' = { s with heap := h', toks := tk' } ∧ Fr g L h' m' ∧ News g L h' all
theorem ZEnd.next {g : Heap} {L : Addr} {s : Shared} {Q : Flow → Shared → Prop} {all news' : Led} {h' : Heap} {tk' : Nat} {m' : Str → Option Value} (F : Fr g L h' m') (N : News g L h' news') (hs : ∀ p ∈ all, p ∈ news') :
    ZEnd g L s Q all .next { s with heap := h', toks := tk' } := ⟨h', tk', m', rfl, F, fun p hp => N p (hs p hp)⟩
theorem zip_J {w : World} {A : Around} {E : Value → Shared → Prop} {s : Shared} {env : Env} {g : Heap} {m₀ : Str → Option Value} {elts : List PySem.Expr} {k : Nat} {pos : Pos} {body : List Stmt} {Q : Flow → Shared → Prop} {xs ys : List Value} {n1 n2 : Nat} {l1 l2 : Addr} {news : Led}
    (hh : A.handled = none) (F : Fr g env.locals s.heap m₀) (N : News g env.locals s.heap news) (h1 : (l1, listOf (List.toArray xs) n1) ∈ news) (h2 : (l2, listOf (List.toArray ys) n2) ∈ news)
    (turn : ∀ (i : Nat) (v u : Value) (m₁ : Str → Option Value) (h : Heap) (tk : Nat) (T I : Addr) (o1 o2 o3 o4 o5 : Obj), xs[i]? = some v → ys[i]? = some u → IsTup h T #[v, u] → Fr g env.locals h m₁ → News g env.locals h (zipIts I o1 o2 o3 o4 o5 ++ [(l1, listOf (List.toArray xs) n1), (l2, listOf (List.toArray ys) n2)]) →
      wpAny (model PR w) A (assign (.Tuple elts k pos) env (.ref T)) (fun _ s₂ => wpAny (model PR w) A (execs body env) (ZEnd g env.locals { s with heap := h, toks := tk } Q (zipIts I o1 o2 o3 o4 o5 ++ [(l1, listOf (List.toArray xs) n1), (l2, listOf (List.toArray ys) n2)])) E s₂) E { s with heap := h, toks := tk })
    (done : ∀ m₁ h tk, Fr g env.locals h m₁ → Q .next { s with heap := h, toks := tk }) :
    wpAny (model PR w) A (call (.type "zip") [.ref l1, .ref l2]) (fun xv s₁ => Stop (wpAny (model PR w) A (pyIter xv) (fun it s₂ => TurnsAt PR w A g env (.Tuple elts k pos) body Q E it s₂) E s₁)) E s := by
  have N0 : News g env.locals s.heap [(l1, listOf (List.toArray xs) n1), (l2, listOf (List.toArray ys) n2)] := fun p hp => by
    rcases List.mem_cons.mp hp with e | hp
    · rw [e]; exact N _ h1
    · rw [List.mem_singleton.mp hp]; exact N _ h2
  refine ktu_zip hh F N0 (.head _) rfl rfl (.tail _ (.head _)) rfl rfl fun I hI => ?_
  have off : ∀ p ∈ [(l1, listOf (List.toArray xs) n1), (l2, listOf (List.toArray ys) n2)], ∀ j : Nat, p.1 ≠ I + j := fun p hp j => Nat.ne_of_lt (Nat.lt_of_lt_of_le (hI p hp) (Nat.le_add_right _ _))
  have key : ∀ (r q : List Value) (i : Nat) (m : Str → Option Value), xs.drop i = r → ys.drop i = q →
      ItemsRest PR w A E g env (.Tuple elts k pos) body Q s [(I + 4, "zip"), (I + 2, "tuple"), (I + 3, "tuple"), (I, "list_iterator"), (I + 1, "list_iterator")] [(l1, listOf (List.toArray xs) n1), (l2, listOf (List.toArray ys) n2)] (zipItems r q) m [(l1, listOf (List.toArray xs) n1), (l2, listOf (List.toArray ys) n2)] := by
    intro r
    induction r with
    | nil => intro q i m _ _; exact ItemsRest.zero fun h tk F' _ => done m h tk F'
    | cons v r ih =>
      intro q i m hr hq
      cases q with
      | nil => exact ItemsRest.zero fun h tk F' _ => done m h tk F'
      | cons u q =>
        have hv : xs[i]? = some v := by
          have : (xs.drop i)[0]? = some v := by rw [hr]; rfl
          rw [List.getElem?_drop] at this
          simpa using this
        have hu : ys[i]? = some u := by
          have : (ys.drop i)[0]? = some u := by rw [hq]; rfl
          rw [List.getElem?_drop] at this
          simpa using this
        have hr' : xs.drop (i + 1) = r := by
          have := congrArg (List.drop 1) hr
          rw [List.drop_drop] at this
          simpa using this
        have hq' : ys.drop (i + 1) = q := by
          have := congrArg (List.drop 1) hq
          rw [List.drop_drop] at this
          simpa using this
        show ItemsRest PR w A E g env (.Tuple elts k pos) body Q s _ _ (.pair (fun _ => v) u :: zipItems r q) m _
        refine ItemsRest.pair fun T t h tk hT F' => AllObj.cons fun o1 _ => AllObj.cons fun o2 _ => AllObj.cons fun o3 _ => AllObj.cons fun o4 _ => AllObj.cons fun o5 _ => AllObj.nil fun N' => ?_
        refine wpAny_mono (turn i v u m h tk T I o1 o2 o3 o4 o5 hv hu hT F' N') (fun _ s₂ h₂ => wpAny_mono h₂ (fun f s₃ h₃ => ?_) fun _ _ e => e) fun _ _ e => e
        have fin : (∃ h' tk' m', s₃ = { s with heap := h', toks := tk' } ∧ Fr g env.locals h' m' ∧ News g env.locals h' (zipIts I o1 o2 o3 o4 o5 ++ [(l1, listOf (List.toArray xs) n1), (l2, listOf (List.toArray ys) n2)])) →
            UnrEndW g env.locals { s with heap := h, toks := tk } (zipIts I o1 o2 o3 o4 o5) (fun m' n' => SubL [(l1, listOf (List.toArray xs) n1), (l2, listOf (List.toArray ys) n2)] n' ∧ ItemsRest PR w A E g env (.Tuple elts k pos) body Q s [(I + 4, "zip"), (I + 2, "tuple"), (I + 3, "tuple"), (I, "list_iterator"), (I + 1, "list_iterator")] [(l1, listOf (List.toArray xs) n1), (l2, listOf (List.toArray ys) n2)] (zipItems r q) m' n') s₃ := by
          rintro ⟨h', tk', m', rfl, F3, N3⟩
          refine ⟨h', tk', m', [(l1, listOf (List.toArray xs) n1), (l2, listOf (List.toArray ys) n2)], rfl, F3, N3, fun p hp q hq => ?_, ⟨⟨.head _, .tail _ (.head _), trivial⟩, ih q (i + 1) m' hr' hq'⟩⟩
          rcases List.mem_cons.mp hq with e | hq
          · rw [e]; exact off p hp 4
          rcases List.mem_cons.mp hq with e | hq
          · rw [e]; exact off p hp 2
          rcases List.mem_cons.mp hq with e | hq
          · rw [e]; exact off p hp 3
          rcases List.mem_cons.mp hq with e | hq
          · rw [e]; exact off p hp 0
          · rw [List.mem_singleton.mp hq]; exact off p hp 1
        cases f with
        | ret v => exact h₃
        | brk => exact h₃
        | next => exact fin h₃
        | cont => exact fin h₃
  exact key xs ys 0 m₀ rfl rfl
end PLoops4
section PSt10
theorem off_St10 : True := by
  w_top off
  exact trivial
set_option hygiene false in
local macro_rules | `(tactic| walk_at "eval Name") => `(tactic| (k_here; (with_reducible refine nmIs "codes" ?_); k_dflt (refine' ld ?k1 ?k2 ?_; (case k1 => k_asm); (case k2 => exact hm1); k_whole)))
local macro_rules | `(tactic| walk_at "exec For Tuple Call cons nil") => `(tactic| walk_at "forT")
local macro_rules | `(tactic| walk_at "call type:zip") => `(tactic| walk_at "stop")
local macro_rules | `(tactic| walk_at "subscriptTail Name Slice ref ref") => `(tactic| walk_at "slice")
local macro_rules | `(tactic| walk_at "binaryOp Add ref ref") => `(tactic| walk_at "addT")
theorem intsAre_drop : ∀ (n : Nat) {vs : List Value} {is : List Int}, IntsAre vs is → IntsAre (vs.drop n) (is.drop n)
  | 0, _, _, h => h
  | _ + 1, _, _, .nil => .nil
  | n + 1, _, _, .cons _ _ h => intsAre_drop n h
local macro_rules | `(tactic| walk_at "call ref") => callL "P" 358 "joined_c a0 a1 a2 a3" "aX uF uX P0" "tw9 e9" "sE zP"
local macro_rules | `(tactic| walk_at "call ref") => callL "P" 176 "hparts_none_c a0 a1 a2" "a2 aX uF uX P0" "" "sR zP"
local macro_rules | `(tactic| walk_at "call ref") => callL "O" 176 "hparts_some_c a0 a1 a2" "a2 aX uF uX P0" "_ xp9 ta9 tb9 e9 o9" "sE sO zO"
local macro_rules | `(tactic| walk_at "call ref") => callL "P" 183 "hwhole_c a0 a1 a2 a3" "aX uF uX P0" "th9 e9" "sE zP"
local macro_rules | `(tactic| walk_at "call ref") => callL "P" 344 "sort_c a0 a1" "aX uF uX P0" "ts9 e9" "sE zP"
def PassQ (g : Heap) (L : Addr) (m : Str → Option Value) (news : Led) (s : Shared) (f : Flow) (s' : Shared) : Prop :=
  f = .next ∧ ∃ h' tk', s' = { s with heap := h', toks := tk' } ∧ Fr g L h' m ∧ News g L h' news
theorem PassQ.mk {g : Heap} {L : Addr} {m : Str → Option Value} {news news' : Led} {s : Shared} {h' : Heap} {tk' : Nat} (F : Fr g L h' m) (N : News g L h' news') (hs : ∀ p ∈ news, p ∈ news') : PassQ g L m news s .next { s with heap := h', toks := tk' } :=
  ⟨rfl, h', tk', rfl, F, fun p hp => N p (hs p hp)⟩
theorem if_pass {M : Model} {A : Around} {st : Stmt} {env : Env} {E : Value → Shared → Prop} {s : Shared} {g : Heap} {L : Addr} {m : Str → Option Value} {news : Led} {Q : Flow → Shared → Prop} (_F : Fr g L s.heap m) (_N : News g L s.heap news) (h1 : wpAny M A (exec st env) (PassQ g L m news s) E s)
    (h2 : ∀ h' tk', Fr g L h' m → News g L h' news → Q .next { s with heap := h', toks := tk' }) : wpAny M A (exec st env) Q E s := by
  refine wpAny_mono h1 ?_ fun _ _ x => x
  rintro f s' ⟨rfl, h', tk', rfl, F', N'⟩
  exact h2 h' tk' F' N'
local macro_rules | `(tactic| walk_at "exec If") => `(tactic| (k_here; (with_reducible refine ifCl ?_); refine Stop.out ?_))
theorem News.add {g h : Heap} {L : Addr} {news : Led} {p : Addr × Obj} (N : News g L h news) (hp : p ∈ news) : News g L h (p :: news) := fun z hz => by
  rcases List.mem_cons.mp hz with e | hz
  · rw [e]; exact N p hp
  · exact N z hz
def PairAt (a : Int) (pv : Value) (ex : Led) : Prop := (hparts a = none ∧ pv = .none) ∨ ∃ p q x ta tb, hparts a = some (p, q) ∧ pv = .ref x ∧ (x, tup2 p ta q tb) ∈ ex
def PairV (g : Heap) (L : Addr) (m : Str → Option Value) (news : Led) (s : Shared) (a : Int) (v : Value) (s' : Shared) : Prop :=
  ∃ ex h' tk', s' = { s with heap := h', toks := tk' } ∧ Fr g L h' m ∧ News g L h' (news ++ ex) ∧ PairAt a v ex
theorem PairV.none {g : Heap} {L : Addr} {m : Str → Option Value} {news : Led} {s : Shared} {a : Int} {h' : Heap} {tk' : Nat} (F : Fr g L h' m) (N : News g L h' news) (h : hparts a = none) : PairV g L m news s a .none { s with heap := h', toks := tk' } :=
  ⟨[], h', tk', rfl, F, by rw [List.append_nil]; exact N, .inl ⟨h, rfl⟩⟩
theorem PairV.some {g : Heap} {L : Addr} {m : Str → Option Value} {news : Led} {s : Shared} {a p q : Int} {x : Addr} {ta tb : Tok} {h' : Heap} {tk' : Nat} (F : Fr g L h' m) (N : News g L h' ((x, tup2 p ta q tb) :: news)) (h : hparts a = some (p, q)) : PairV g L m news s a (.ref x) { s with heap := h', toks := tk' } :=
  ⟨[(x, tup2 p ta q tb)], h', tk', rfl, F, fun z hz => N z (by
    rcases List.mem_append.mp hz with hz | hz
    · exact .tail _ hz
    · rw [List.mem_singleton.mp hz]; exact .head _), .inr ⟨p, q, x, ta, tb, h, rfl, .head _⟩⟩
theorem call_pair {M : Model} {A : Around} {f : Value} {args : List Value} {E : Value → Shared → Prop} {s : Shared} {g : Heap} {L : Addr} {m : Str → Option Value} {news : Led} {Q : Value → Shared → Prop} (_F : Fr g L s.heap m) (_N : News g L s.heap news) (a : Int) (h1 : wpAny M A (call f args) (PairV g L m news s a) E s)
    (h2 : ∀ pv ex h' tk', Fr g L h' m → News g L h' (news ++ ex) → PairAt a pv ex → Q pv { s with heap := h', toks := tk' }) : wpAny M A (call f args) Q E s := by
  refine wpAny_mono h1 ?_ fun _ _ x => x
  rintro v s' ⟨ex, h', tk', rfl, F', N', hp⟩
  exact h2 v ex h' tk' F' N' hp
set_option hygiene false in
local macro_rules | `(tactic| walk_at "call ref") => `(tactic| (k_here; (with_reducible refine refIs 176 ?_); (fail_if_success (have := hj)); refine Stop.out ?_))
theorem st10 {w : World} {mean : ExcName → Option Value} {mg mb : Str → Option Value} {dp un : Nat} {fr : Option (List Env)} {gd : Option (List Code)} {g : Heap} {L fa cd : Addr} {qual : Str} {cdv : Value} {m : Str → Option Value} {s : Shared} {Q : Flow → Shared → Prop} {c2 : Nat} {ws : List Value} {cs : List Int}
    (B : Amb2 w mean mg mb dp un g) (F : Fr g L s.heap m) (N : News g L s.heap [(cd, listOf (List.toArray ws) c2)]) (hm1 : m (Str.ofString "codes") = some (.ref cd)) (hJ : IntsAre ws cs) (hcl : cs.length ≤ 7) (hcb : ∀ c ∈ cs, 0 ≤ c ∧ c < 100000)
    (k : ∀ h' tk' m', Fr g L h' m' → Q .next { s with heap := h', toks := tk' }) :
    wpAny (model PySem.Challenge.rw_pb0193_01.row.prog w) (mkA dp un fr gd) (exec (lawSt w 10) (lawEnv w qual L fa cdv)) Q (fun _ _ => False) s := by
  obtain ⟨X, T, hdp, hun⟩ := id B
  have hwl : ws.length = cs.length := IntsAre.length hJ
  have hsl : (slicePick (List.toArray ws) (some 1) none none).toList = ws.drop 1 ∨ ws = [] := by
    rcases Nat.eq_zero_or_pos ws.length with h0 | h0
    · exact .inr (List.length_eq_zero_iff.mp h0)
    · exact .inl (slice_from (a := 1) (by decide) (by (first | lia | omega)))
  have hsl2 : (slicePick (List.toArray ws) (some 1) none none).toList = ws.drop 1 := by
    rcases hsl with h | h
    · exact h
    · subst h; rfl
  clear hsl
  show wpAny _ _ (exec (Stmt.For _ _ _ _ _) (envOfC _ (Scope.mk _ _ _ _ _) _ _ _)) _ _ _
  k_steps
  all_goals (try k_data)
  show wpAny _ _ _ _ _ _
  rename_i D1 h1 l1 D2 h2 l2 D3 h3 F3 N3 l3
  have hJ2 : IntsAre (ws.drop 1 ++ [Value.int 65 (s.toks + 1)]) (cs.drop 1 ++ [65]) := intsAre_snoc (intsAre_drop 1 hJ)
  refine zip_J rfl F3 N3 (xs := ws) (ys := ws.drop 1 ++ [Value.int 65 (s.toks + 1)]) (.tail _ (.tail _ (.tail _ (.head _)))) (.head _) ?_ (fun m₁ h tk F' => k h tk m₁ F')
  intro i v u m1 h tk T' I o1 o2 o3 o4 o5 hv hu hT F1 N1
  show wpAny _ _ _ _ _ _
  (try k_fold)
  obtain ⟨a, ta, e5, ha⟩ := IntsAre.at hJ i v hv
  subst e5
  obtain ⟨b, tb, e5, hb⟩ := IntsAre.at hJ2 i u hu
  subst e5
  obtain ⟨a0, a1⟩ := hcb a (List.mem_of_getElem? ha)
  have hbb : 0 ≤ b ∧ b < 100000 := by
    rcases List.mem_append.mp (List.mem_of_getElem? hb) with h | h
    · exact hcb b (List.mem_of_mem_drop h)
    · rw [List.mem_singleton.mp h]; exact ⟨by decide, by decide⟩
  obtain ⟨b0, b1⟩ := hbb
  have hw : hwhole a b = ljoined a b := (ljoined_eq a0 b0).symm
  have w0 : 0 ≤ ljoined a b := hw ▸ hwhole_nn
  have w1 : ljoined a b < 100000 := hw ▸ hwhole_lt
  have hpw : 0 < ljoined a b → hparts (ljoined a b) = some (a, b) := fun h => by rw [← hw] at h ⊢; exact hparts_hwhole h
  clear hv hu ha hb hJ2 N3 F3 l1 l2 l3
  have hSC := sort_SC a0
  show wpAny _ _ _ _ _ _
  (try k_fold)
  k_steps
  rename Fr g L _ _ => FA
  rename News g L _ _ => NA
  show wpAny _ _ _ _ _ _
  refine call_pair FA NA a ?_ ?_
  · cases hp : hparts a with
    | none =>
      have hj : True := trivial
      show wpAny _ _ _ _ _ _
      k_fold
      k_steps
      (try k_unfold)
      exact PairV.none (by k_asm) (by k_asm) hp
    | some pq =>
      obtain ⟨p, q⟩ := pq
      have hj : True := trivial
      show wpAny _ _ _ _ _ _
      k_fold
      k_steps
      (try k_unfold)
      exact PairV.some (by k_asm) (by k_asm) hp
  · intro pv ex h4 tk4 F4 N4 hpv
    clear FA NA
    (try dsimp only [List.cons_append, List.nil_append] at N4)
    (try dsimp only)
    show wpAny _ _ _ _ _ _
    k_steps
    rename Fr g L _ _ => FA
    rename News g L _ _ => NA
    show wpAny _ _ _ _ _ _
    refine if_pass FA NA ?_ ?_
    · refine wpAny_If ?_
      by_cases hj : 0 < ljoined a b
      · have hpj := hpw hj
        clear hpw
        show wpAny _ _ _ _ _ _
        k_steps
        all_goals (try k_data)
        all_goals (try exact absurd hw (by assumption))
        all_goals exact PassQ.mk (by k_asm) (by k_asm) (fun p hp => by first | exact hp | (repeat (first | exact hp | refine List.Mem.tail _ ?_)))
      · clear hpw
        show wpAny _ _ _ _ _ _
        k_steps
        all_goals (try k_data)
        all_goals (try exact absurd hw (by assumption))
        all_goals exact PassQ.mk (by k_asm) (by k_asm) (fun p hp => by first | exact hp | (repeat (first | exact hp | refine List.Mem.tail _ ?_)))
    · intro h5 tk5 F5 N5
      clear hpw FA NA
      have hj : True := trivial
      (try dsimp only)
      rcases hpv with ⟨hp, rfl⟩ | ⟨p, q, xp, tp, tq, hp, rfl, hx⟩
      · have hsc : ([Str.ofString "S", Str.ofString "C"].any fun x => x == lsort a) = false := by
          cases q : ([Str.ofString "S", Str.ofString "C"].any fun x => x == lsort a) with
          | false => rfl
          | true => exact absurd (hSC.mp q) (hparts_none_iff.mp hp)
        clear hSC
        show wpAny _ _ _ _ _ _
        k_steps
        all_goals (try k_data)
        all_goals (try exact absurd hw (by assumption))
        all_goals (try (exfalso; (rename (_ != _) = true => hz); rw [hsc] at hz; revert hz; decide))
        all_goals exact ZEnd.next (by k_asm) (by k_asm) (by lcg_sub)
      · obtain ⟨hpq, ⟨p0, p1⟩, ⟨q0, q1⟩, hra⟩ := hparts_some hp
        have hsc : ([Str.ofString "S", Str.ofString "C"].any fun x => x == lsort a) = true := hSC.mpr hra
        clear hSC
        have N6 := News.add N5 (show (xp, tup2 p tp q tq) ∈ _ by (repeat first | exact hx | refine List.Mem.tail _ ?_))
        clear N5
        show wpAny _ _ _ _ _ _
        k_steps
        all_goals (try k_data)
        all_goals (try exact absurd hpq (by assumption))
        all_goals (try exact absurd hw (by assumption))
        all_goals (try (exfalso; (rename (_ != _) = true => hz); rw [hsc] at hz; revert hz; decide))
        all_goals exact ZEnd.next (by k_asm) (by k_asm) (by lcg_sub)
end PSt10
section PLFin
def KnownOk (ks : List Int) : Prop := ∀ c, (c = 65 ∨ (4352 ≤ c ∧ c < 4371) ∨ (4449 ≤ c ∧ c < 4470) ∨ (4520 ≤ c ∧ c < 4547)) → (ks.any fun x => x == c) = true
def pcs (ks : List Int) (c : Int) : List Int :=
  if (ks.any fun x => x == c) = true then [c]
  else if 0 < (c - 44032) % 28 then [4352 + (c - 44032) / 588, 4449 + (c - 44032) / 28 % 21, 4519 + (c - 44032) % 28]
  else [4352 + (c - 44032) / 588, 4449 + (c - 44032) / 28 % 21]
theorem good_un {ks : List Int} (hk : KnownOk ks) {c : Int} (hg : Good c) (h : ¬ (ks.any fun x => x == c) = true) : 44032 ≤ c ∧ c < 55204 := by
  rcases hg with h1 | h1 | h1 | h1 | h1
  · exact absurd (hk c (.inr (.inl h1))) h
  · exact absurd (hk c (.inr (.inr (.inl h1)))) h
  · exact absurd (hk c (.inr (.inr (.inr (by (first | lia | omega)))))) h
  · exact h1
  · exact absurd (hk c (.inl h1)) h
theorem pcs_pieces {ks : List Int} (hk : KnownOk ks) {c : Int} (hg : Good c) : Pieces ks c (pcs ks c) := by
  have hcb : 0 ≤ c ∧ c < 100000 := hg.bd
  refine ⟨hcb, ?_⟩
  unfold pcs
  by_cases h : (ks.any fun x => x == c) = true
  · exact .inl ⟨h, if_pos h⟩
  rw [if_neg h]
  have hf : (ks.any fun x => x == c) = false := by
    cases q : (ks.any fun x => x == c) with
    | false => rfl
    | true => exact absurd q h
  have hr := good_un hk hg h
  obtain ⟨l, v, t, hc, ⟨l0, l1⟩, ⟨v0, v1⟩, ⟨t0, t1⟩, e1, e2, e3⟩ := syl hr
  have hp := hparts_at hc l0 l1 v0 v1 t0 t1
  rw [e1, e2, e3]
  have kl : (ks.any fun x => x == 4352 + l) = true := hk _ (.inr (.inl ⟨by (first | lia | omega), by (first | lia | omega)⟩))
  have kv : (ks.any fun x => x == 4449 + v) = true := hk _ (.inr (.inr (.inl ⟨by (first | lia | omega), by (first | lia | omega)⟩)))
  have nl : hparts (4352 + l) = none := hparts_none_iff.mpr fun e => absurd e.1 (by (first | lia | omega))
  by_cases h2 : 0 < t
  · rw [if_pos h2]
    rw [if_pos h2] at hp
    have hq := hparts_at (c := c - t) (l := l) (v := v) (t := 0) (by (first | lia | omega)) l0 l1 v0 v1 (by decide) (by decide)
    rw [if_neg (by decide)] at hq
    exact .inr (.inr ⟨hf, c - t, 4519 + t, 4352 + l, 4449 + v, rfl, by (first | lia | omega), by (first | lia | omega), by (first | lia | omega), by (first | lia | omega), hp, by (first | lia | omega), by (first | lia | omega), hq, by (first | lia | omega), by (first | lia | omega), by (first | lia | omega), nl, kl, kv, hk _ (.inr (.inr (.inr ⟨by (first | lia | omega), by (first | lia | omega)⟩)))⟩)
  · rw [if_neg h2]
    rw [if_neg h2] at hp
    exact .inr (.inl ⟨hf, 4352 + l, 4449 + v, rfl, by (first | lia | omega), by (first | lia | omega), hp, by (first | lia | omega), by (first | lia | omega), nl, kl, kv⟩)
/-- a code's pieces: bounded; where there are several, the first is no vowel and no tail -/
def BlkOk (b : List Int) : Prop := (∀ c ∈ b, 0 ≤ c ∧ c < 100000) ∧ ∀ x y r, b = x :: y :: r → ¬ isVT x
theorem pcs_blk {ks : List Int} (hk : KnownOk ks) {c : Int} (hg : Good c) : BlkOk (pcs ks c) := by
  have hcb : 0 ≤ c ∧ c < 100000 := hg.bd
  unfold pcs
  by_cases h : (ks.any fun x => x == c) = true
  · rw [if_pos h]
    exact ⟨fun x hx => by rw [List.mem_singleton.mp hx]; exact hcb, fun x y r e => by cases e⟩
  rw [if_neg h]
  have hr := good_un hk hg h
  obtain ⟨l, v, t, hc, ⟨l0, l1⟩, ⟨v0, v1⟩, ⟨t0, t1⟩, e1, e2, e3⟩ := syl hr
  rw [e1, e2, e3]
  have hv : ¬ isVT (4352 + l) := by unfold isVT; (first | lia | omega)
  have bl : 0 ≤ 4352 + l ∧ 4352 + l < 100000 := ⟨by (first | lia | omega), by (first | lia | omega)⟩
  have bv : 0 ≤ 4449 + v ∧ 4449 + v < 100000 := ⟨by (first | lia | omega), by (first | lia | omega)⟩
  split
  · refine ⟨fun x hx => ?_, fun x y r e => by cases e; exact hv⟩
    rcases List.mem_cons.mp hx with rfl | hx
    · exact bl
    rcases List.mem_cons.mp hx with rfl | hx
    · exact bv
    · rw [List.mem_singleton.mp hx]; exact ⟨by (first | lia | omega), by (first | lia | omega)⟩
  · refine ⟨fun x hx => ?_, fun x y r e => by cases e; exact hv⟩
    rcases List.mem_cons.mp hx with rfl | hx
    · exact bl
    · rw [List.mem_singleton.mp hx]; exact bv
def blk : Nat → List (List Int) → List (Int × Int)
  | _, [] => []
  | n, b :: r => (b.map fun c => (c, (n : Int))) ++ blk (n + 1) r
theorem blk_ge : ∀ {bs : List (List Int)} {n : Nat}, ∀ p ∈ blk n bs, (n : Int) ≤ p.2
  | [], _, _, h => nomatch h
  | b :: r, n, p, h => by
    rcases List.mem_append.mp h with h | h
    · obtain ⟨c, _, rfl⟩ := List.mem_map.mp h
      exact Int.le_refl _
    · have := blk_ge p h
      (first | lia | omega)
theorem blk_putok : ∀ {bs : List (List Int)} {n : Nat}, (∀ b ∈ bs, BlkOk b) → PutOk (blk n bs) 0
  | [], _, _ => ⟨fun p hp => (nomatch hp), List.Pairwise.nil, fun i j p q _ _ hp => by
      have hp : ([] : List (Int × Int))[i]? = some p := hp
      simp at hp⟩
  | b :: r, n, h => by
    have ih := blk_putok (bs := r) (n := n + 1) fun x hx => h x (.tail _ hx)
    obtain ⟨hb1, hb2⟩ := h b (.head _)
    have hlen : (b.map fun c => (c, (n : Int))).length = b.length := List.length_map _
    refine ⟨fun p hp => ?_, ?_, fun i j p q _ hij hp hq he hv => ?_⟩
    · rcases List.mem_append.mp hp with hp | hp
      · obtain ⟨c, hc, rfl⟩ := List.mem_map.mp hp
        exact hb1 c hc
      · exact ih.codes p hp
    · refine List.pairwise_append.mpr ⟨?_, ih.mono, fun p hp q hq => ?_⟩
      · refine List.pairwise_map.mpr ?_
        exact List.pairwise_of_forall fun _ _ => Int.le_refl _
      · obtain ⟨c, _, rfl⟩ := List.mem_map.mp hp
        have := blk_ge q hq
        show (n : Int) ≤ q.2
        (first | lia | omega)
    · have hp : ((b.map fun c => (c, (n : Int))) ++ blk (n + 1) r)[i]? = some p := hp
      have hq : ((b.map fun c => (c, (n : Int))) ++ blk (n + 1) r)[j]? = some q := hq
      show ∃ i' o, i = i' + 1 ∧ ((b.map fun c => (c, (n : Int))) ++ blk (n + 1) r)[i']? = some o ∧ o.2 = p.2
      rcases Nat.lt_or_ge i b.length with hi | hi
      · rw [List.getElem?_append_left (by rw [hlen]; exact hi), List.getElem?_map] at hp
        cases hbi : b[i]? with
        | none => rw [hbi] at hp; cases hp
        | some c =>
          rw [hbi] at hp
          have hpe : p = (c, (n : Int)) := (Option.some.inj hp).symm
          subst hpe
          have hj : j < b.length := by
            rcases Nat.lt_or_ge j b.length with hj | hj
            · exact hj
            · rw [List.getElem?_append_right (by rw [hlen]; exact hj)] at hq
              have := blk_ge q (List.mem_of_getElem? hq)
              have he : (n : Int) = q.2 := he
              (first | lia | omega)
          cases i with
          | zero =>
            match b, hbi, hj with
            | x :: y :: r', hbi, _ =>
              have hx : x = c := by simpa using hbi
              exact absurd hv (hx ▸ hb2 x y r' rfl)
            | [x], _, hj => simp at hj; (first | lia | omega)
            | [], hbi, _ => simp at hbi
          | succ i' =>
            refine ⟨i', (b[i'], (n : Int)), rfl, ?_, rfl⟩
            rw [List.getElem?_append_left (by rw [hlen]; (first | lia | omega)), List.getElem?_map, List.getElem?_eq_getElem (by (first | lia | omega))]
            rfl
      · rw [List.getElem?_append_right (by rw [hlen]; exact hi), hlen] at hp
        rw [List.getElem?_append_right (by rw [hlen]; (first | lia | omega)), hlen] at hq
        obtain ⟨i', o, e1, e2, e3⟩ := ih.sib (i - b.length) (j - b.length) p q (Nat.zero_le _) (by (first | lia | omega)) hp hq he hv
        refine ⟨i' + b.length, o, by (first | lia | omega), ?_, e3⟩
        rw [List.getElem?_append_right (by rw [hlen]; (first | lia | omega)), hlen, show i' + b.length - b.length = i' by (first | lia | omega)]
        exact e2
theorem blk_of {f : Int → List Int} : ∀ {cs : List Int} {n : Nat}, (cs.zipIdx n).flatMap (fun p => (f p.1).map fun c => (c, (p.2 : Int))) = blk n (cs.map f)
  | [], _ => rfl
  | c :: r, n => by
    rw [List.zipIdx_cons, List.flatMap_cons, List.map_cons]
    show _ = (f c).map _ ++ blk (n + 1) (r.map f)
    rw [← blk_of]
structure Inv (n : Int) (d : List (Int × Int)) : Prop where
  c : ∀ q ∈ d, 0 ≤ q.1 ∧ q.1 < 100000 ∧ q.2 ≤ n
  m : d.Pairwise fun p q => p.2 ≤ q.2
theorem wHere_bd {ks : List Int} {a b : Int} : 0 ≤ wHere ks a b ∧ wHere ks a b < 100000 := by
  unfold wHere
  split
  · exact ⟨hwhole_nn, hwhole_lt⟩
  · exact ⟨by decide, by decide⟩
theorem pstep_nil {ks : List Int} {p : Int × Int} : pstep ks [] p = [p] := rfl
theorem pstep_snoc {ks : List Int} {d : List (Int × Int)} {l p : Int × Int} : pstep ks (d ++ [l]) p = if 0 < wHere ks l.1 p.1 then d ++ [(wHere ks l.1 p.1, l.2)] else d ++ [l] ++ [p] := by
  unfold pstep
  rw [List.getLast?_concat]
  show (if 0 < wHere ks l.1 p.1 then (d ++ [l]).dropLast ++ [(wHere ks l.1 p.1, l.2)] else d ++ [l] ++ [p]) = _
  rw [List.dropLast_concat]
theorem lstep_nil {ks : List Int} {p : Int × Int} : lstep ks [] p = [p] := rfl
theorem lstep_snoc {ks : List Int} {d : List (Int × Int)} {l p : Int × Int} : lstep ks (d ++ [l]) p = if 0 < ljoined l.1 p.1 ∧ (ks.any fun x => x == ljoined l.1 p.1) = true then (d.map fun q => (q.1, if l.2 ≤ q.2 then l.2 else q.2)) ++ [(ljoined l.1 p.1, l.2)] else d ++ [l] ++ [p] := by
  unfold lstep
  rw [List.getLast?_concat]
  show (if _ then ((d ++ [l]).dropLast.map _) ++ _ else _) = _
  rw [List.dropLast_concat]
theorem Inv.app {n : Int} {d : List (Int × Int)} (h : Inv n d) {x : Int} (hx : 0 ≤ x ∧ x < 100000) : Inv n (d ++ [(x, n)]) := by
  refine ⟨fun q hq => ?_, List.pairwise_append.mpr ⟨h.m, List.pairwise_singleton _ _, fun p hp q hq => ?_⟩⟩
  · rcases List.mem_append.mp hq with hq | hq
    · exact h.c q hq
    · rw [List.mem_singleton.mp hq]; exact ⟨hx.1, hx.2, Int.le_refl _⟩
  · rw [List.mem_singleton.mp hq]; exact (h.c p hp).2.2
theorem Inv.step {n : Int} {ks : List Int} {d : List (Int × Int)} (h : Inv n d) {x : Int} (hx : 0 ≤ x ∧ x < 100000) : Inv n (pstep ks d (x, n)) := by
  rcases List.eq_nil_or_concat d with rfl | ⟨e, l, rfl⟩
  · exact Inv.app h hx
  rw [List.concat_eq_append] at *
  rw [pstep_snoc]
  split
  · have hp := List.pairwise_append.mp h.m
    refine ⟨fun q hq => ?_, List.pairwise_append.mpr ⟨hp.1, List.pairwise_singleton _ _, fun p hp2 q hq => ?_⟩⟩
    · rcases List.mem_append.mp hq with hq | hq
      · exact h.c q (List.mem_append_left _ hq)
      · rw [List.mem_singleton.mp hq]; exact ⟨wHere_bd.1, wHere_bd.2, (h.c l (List.mem_append_right _ (.head _))).2.2⟩
    · rw [List.mem_singleton.mp hq]; exact hp.2.2 p hp2 l (.head _)
  · exact Inv.app h hx
theorem step_eq {n : Int} {ks : List Int} {d : List (Int × Int)} (h : Inv n d) {x : Int} (hx : 0 ≤ x) : pstep ks d (x, n) = lstep ks d (x, n) := by
  rcases List.eq_nil_or_concat d with rfl | ⟨e, l, rfl⟩
  · rfl
  rw [List.concat_eq_append] at *
  rw [pstep_snoc, lstep_snoc]
  have hl := (h.c l (List.mem_append_right _ (.head _))).1
  have e1 : ljoined l.1 x = hwhole l.1 x := ljoined_eq hl hx
  show (if 0 < wHere ks l.1 x then e ++ [(wHere ks l.1 x, l.2)] else _) = if 0 < ljoined l.1 x ∧ (ks.any fun y => y == ljoined l.1 x) = true then (e.map fun q => (q.1, if l.2 ≤ q.2 then l.2 else q.2)) ++ [(ljoined l.1 x, l.2)] else _
  rw [e1]
  by_cases hc : 0 < hwhole l.1 x ∧ (ks.any fun y => y == hwhole l.1 x) = true
  · have hw : wHere ks l.1 x = hwhole l.1 x := if_pos hc
    rw [if_pos hc, hw, if_pos hc.1]
    have hp := List.pairwise_append.mp h.m
    have hm : e.map (fun q => (q.1, if l.2 ≤ q.2 then l.2 else q.2)) = e := by
      conv => rhs; rw [← List.map_id e]
      refine List.map_congr_left fun q hq => ?_
      have := hp.2.2 q hq l (.head _)
      show (q.1, if l.2 ≤ q.2 then l.2 else q.2) = q
      split
      · exact Prod.ext rfl (by show l.2 = q.2; (first | lia | omega))
      · rfl
    rw [hm]
  · have hw : wHere ks l.1 x = 0 := if_neg hc
    rw [if_neg hc, hw, if_neg (by decide)]
theorem pstep_app {n : Int} {ks : List Int} {d : List (Int × Int)} {x : Int} (hv : ¬ isVT x) : pstep ks d (x, n) = d ++ [(x, n)] := by
  rcases List.eq_nil_or_concat d with rfl | ⟨e, l, rfl⟩
  · rfl
  rw [List.concat_eq_append] at *
  rw [pstep_snoc]
  refine if_neg fun h => hv (hwhole_vt (wHere_le h).1)
theorem fold_eq {n : Int} {ks : List Int} : ∀ {b : List Int} {d : List (Int × Int)}, Inv n d → (∀ c ∈ b, 0 ≤ c ∧ c < 100000) → (b.map fun c => (c, n)).foldl (pstep ks) d = (b.map fun c => (c, n)).foldl (lstep ks) d ∧ Inv n ((b.map fun c => (c, n)).foldl (pstep ks) d)
  | [], _, h, _ => ⟨rfl, h⟩
  | c :: r, d, h, hb => by
    have hc := hb c (.head _)
    rw [List.map_cons, List.foldl_cons, List.foldl_cons, ← step_eq h hc.1]
    exact fold_eq (h.step hc) fun x hx => hb x (.tail _ hx)
theorem wHere_join {ks : List Int} {a b w : Int} (h : hwhole a b = w) (hw : 0 < w) (hk : (ks.any fun x => x == w) = true) : wHere ks a b = w := by
  unfold wHere
  rw [h, if_pos ⟨hw, hk⟩]
theorem one_eq {n : Int} {ks : List Int} (hk : KnownOk ks) {c : Int} (hg : Good c) {d : List (Int × Int)} (h : Inv n d) :
    ((pcs ks c).map fun x => (x, n)).foldl (pstep ks) d = ((lapart ks c).map fun x => (x, n)).foldl (lstep ks) d ∧ Inv n (((pcs ks c).map fun x => (x, n)).foldl (pstep ks) d) := by
  have hcb : 0 ≤ c ∧ c < 100000 := hg.bd
  have hb := (pcs_blk hk hg).1
  have key := fold_eq (ks := ks) h hb
  refine ⟨?_, key.2⟩
  by_cases hkc : (ks.any fun x => x == c) = true
  · have e1 : pcs ks c = [c] := if_pos hkc
    have e2 : lapart ks c = [c] := if_pos hkc
    rw [key.1, e1, e2]
  have hr := good_un hk hg hkc
  have hs := (sort_SC hcb.1).mpr hr
  have e2 : lapart ks c = if 0 < (c - 44032) % 28 then if (ks.any fun x => x == c - (c - 44032) % 28) = true then [c - (c - 44032) % 28, 4519 + (c - 44032) % 28] else [4352 + (c - 44032) / 588, 4449 + (c - 44032) / 28 % 21, 4519 + (c - 44032) % 28] else [4352 + (c - 44032) / 588, 4449 + (c - 44032) / 28 % 21] := by
    unfold lapart
    rw [if_neg hkc, if_pos hs, fm28, show (c - 44032).fdiv 588 = (c - 44032) / 588 from Int.fdiv_eq_ediv_of_nonneg _ (by decide), fd28, fm21]
  obtain ⟨l, v, t, hc, ⟨l0, l1⟩, ⟨v0, v1⟩, ⟨t0, t1⟩, q1, q2, q3⟩ := syl hr
  rw [q1, q2, q3] at e2
  by_cases h2 : 0 < t
  · by_cases h3 : (ks.any fun x => x == c - t) = true
    · have e1 : pcs ks c = [4352 + l, 4449 + v, 4519 + t] := by unfold pcs; rw [if_neg hkc, q1, q2, q3, if_pos h2]
      rw [if_pos h2, if_pos h3] at e2
      rw [e1, e2]
      have hpos : 0 < c - t := by (first | lia | omega)
      have hv1 : ¬ isVT (4352 + l) := by unfold isVT; (first | lia | omega)
      have hv2 : ¬ isVT (c - t) := by unfold isVT; (first | lia | omega)
      have hw : hwhole (4352 + l) (4449 + v) = c - t := by
        exact (hwhole_1 (by (first | lia | omega)) (by (first | lia | omega)) (by (first | lia | omega)) (by (first | lia | omega))).trans (by (first | lia | omega))
      show pstep ks (pstep ks (pstep ks d (4352 + l, n)) (4449 + v, n)) (4519 + t, n) = lstep ks (lstep ks d (c - t, n)) (4519 + t, n)
      have s1 : pstep ks (pstep ks d (4352 + l, n)) (4449 + v, n) = d ++ [(c - t, n)] := by
        rw [pstep_app hv1, pstep_snoc]
        show (if 0 < wHere ks (4352 + l) (4449 + v) then d ++ [(wHere ks (4352 + l) (4449 + v), n)] else _) = _
        rw [wHere_join hw hpos h3, if_pos hpos]
      have s2 : lstep ks d (c - t, n) = d ++ [(c - t, n)] := by
        rw [← step_eq h (Int.le_of_lt hpos), pstep_app hv2]
      rw [s1, s2]
      exact step_eq (h.app ⟨Int.le_of_lt hpos, by (first | lia | omega)⟩) (by (first | lia | omega))
    · have e1 : pcs ks c = [4352 + l, 4449 + v, 4519 + t] := by unfold pcs; rw [if_neg hkc, q1, q2, q3, if_pos h2]
      rw [if_pos h2, if_neg h3] at e2
      rw [key.1, e1, e2]
  · have e1 : pcs ks c = [4352 + l, 4449 + v] := by unfold pcs; rw [if_neg hkc, q1, q2, q3, if_neg h2]
    rw [if_neg h2] at e2
    rw [key.1, e1, e2]
theorem all_eq {ks : List Int} (hk : KnownOk ks) : ∀ {cs : List Int} {n : Nat} {d : List (Int × Int)}, (∀ c ∈ cs, Good c) → Inv n d →
    ((cs.zipIdx n).flatMap fun p => (pcs ks p.1).map fun c => (c, (p.2 : Int))).foldl (pstep ks) d = ((cs.zipIdx n).flatMap fun p => (lapart ks p.1).map fun c => (c, (p.2 : Int))).foldl (lstep ks) d
  | [], _, _, _, _ => rfl
  | c :: r, n, d, hg, h => by
    have h1 := one_eq hk (hg c (.head _)) h
    rw [List.zipIdx_cons, List.flatMap_cons, List.flatMap_cons, List.foldl_append, List.foldl_append]
    show List.foldl (pstep ks) (((pcs ks c).map fun x => (x, (n : Int))).foldl (pstep ks) d) _ = List.foldl (lstep ks) (((lapart ks c).map fun x => (x, (n : Int))).foldl (lstep ks) d) _
    rw [← h1.1]
    refine all_eq hk (fun x hx => hg x (.tail _ hx)) ⟨fun q hq => ?_, h1.2.m⟩
    have := h1.2.c q hq
    exact ⟨this.1, this.2.1, by (first | lia | omega)⟩
theorem law_eq {ks cs : List Int} (hk : KnownOk ks) (hg : ∀ c ∈ cs, Good c) :
    putAll ks ((cc0 cs).flatMap (fun p => (pcs ks p.1).map fun c => (c, p.2))) = (cs.zipIdx.flatMap fun p => (lapart ks p.1).map fun c => (c, (p.2 : Int))).foldl (lstep ks) [] := by
  have e : (cc0 cs).flatMap (fun p => (pcs ks p.1).map fun c => (c, p.2)) = cs.zipIdx.flatMap fun p => (pcs ks p.1).map fun c => (c, (p.2 : Int)) := by
    unfold cc0
    rw [List.flatMap_map]
  rw [e]
  exact all_eq hk hg ⟨fun q hq => (nomatch hq), List.Pairwise.nil⟩
theorem law_put {ks cs : List Int} (hk : KnownOk ks) (hg : ∀ c ∈ cs, Good c) : PutOk ((cc0 cs).flatMap (fun p => (pcs ks p.1).map fun c => (c, p.2))) 0 := by
  have e : (cc0 cs).flatMap (fun p => (pcs ks p.1).map fun c => (c, p.2)) = blk 0 (cs.map (pcs ks)) := by
    unfold cc0
    rw [List.flatMap_map]
    exact blk_of
  rw [e]
  refine blk_putok fun b hb => ?_
  obtain ⟨c, hc, rfl⟩ := List.mem_map.mp hb
  exact pcs_blk hk (hg c hc)
theorem law_pieces {ks cs : List Int} (hk : KnownOk ks) (hg : ∀ c ∈ cs, Good c) : ∀ p ∈ cc0 cs, Pieces ks p.1 (pcs ks p.1) := fun p hp => by
  obtain ⟨q, hq, rfl⟩ := List.mem_map.mp hp
  exact pcs_pieces hk (hg _ (List.fst_mem_of_mem_zipIdx hq))
end PLFin
section PLaw
theorem off_Law : True := by
  w_top off
  exact trivial
theorem st11 {w : World} {mean : ExcName → Option Value} {mg mb : Str → Option Value} {dp un : Nat} {fr : Option (List Env)} {gd : Option (List Code)} {g : Heap} {L fa : Addr} {qual : Str} {cdv : Value} {m : Str → Option Value} {s : Shared} {Q : Flow → Shared → Prop}
    (B : Amb2 w mean mg mb dp un g) (F : Fr g L s.heap m) (k : ∀ tk', Q (.ret (.bool true)) { s with toks := tk' }) :
    wpAny (model PySem.Challenge.rw_pb0193_01.row.prog w) (mkA dp un fr gd) (exec (lawSt w 11) (lawEnv w qual L fa cdv)) Q (fun _ _ => False) s := by
  obtain ⟨X, T, hdp, hun⟩ := id B
  show wpAny _ _ (exec (Stmt.Return _ _) (envOfC _ (Scope.mk _ _ _ _ _) _ _ _)) _ _ _
  k_steps
  all_goals (try k_data)
  exact k _
theorem law_c {w : World} {mean : ExcName → Option Value} {mg mb : Str → Option Value} {sc : Addr} {vs : List Value} {ns : List Int} (hn : ns.length ≤ 63) :
    Ctr w mean mg mb 200 2000 (.ref 363) [.ref sc] [] (fun g => g.IsList sc vs.toArray ∧ IntsAre vs ns) (fun r led' own => r = .bool true) := by
  (k_dflt refine' Ctr.enterC ?k6 ?k7 ?k9 ?kB ?kD ?c2 ?c3 ?c4 ?_)
  case k6 => k_dflt k_is
  case k7 => k_dflt k_is
  case k9 => k_dflt (intro s9 X9; first | exact BindsTo.of_eq rfl | exact binds_K X9 rfl (by k_is) rfl rfl rfl)
  case kB => k_dflt exact rfl
  case kD => decide +kernel
  case c2 => exact rfl
  case c3 => exact rfl
  case c4 => exact rfl
  rintro dp un fr gd g L h₁ tk₁ s Q cells hdp hun F N Y hlL X T hP9 hret
  (try dsimp only)
  show wpAny _ _ _ _ _ _
  k_fold
  obtain ⟨hl, hI⟩ := hP9
  k_cells Y
  (try simp only [List.cons_append, List.nil_append] at N)
  rename_i oL oP dL dP
  have cL : oL.data = .cell none := dL
  have cP : oP.data = .cell none := dP
  have B : Amb2 w mean mg mb dp un g := ⟨X, T, by (first | lia | omega), by (first | lia | omega)⟩
  show wpAny _ _ (execs [lawSt w 0, lawSt w 1, lawSt w 2, lawSt w 3, lawSt w 4, lawSt w 5, lawSt w 6, lawSt w 7, lawSt w 8, lawSt w 9, lawSt w 10, lawSt w 11] (lawEnv w (Str.ofString "law") L 363 (.ref 362))) _ _ _
  refine wpAny_execs_cons ?_
  refine @st0 w mean mg mb dp un fr gd g L 363 sc _ _ _ _ _ _ vs ns B F N rfl hl hI hn ?_
  intro h2 tk2 cl vs2 cap m2 F2 N2 m2c ⟨ns2, hI2, hl2⟩
  clear N F
  show wpAny _ _ (execs [lawSt w 1, lawSt w 2, lawSt w 3, lawSt w 4, lawSt w 5, lawSt w 6, lawSt w 7, lawSt w 8, lawSt w 9, lawSt w 10, lawSt w 11] (lawEnv w (Str.ofString "law") L 363 (.ref 362))) _ _ _
  refine wpAny_execs_cons ?_
  refine @st1 w mean mg mb dp un fr gd g L 363 cl _ _ m2 _ _ vs2 ns2 cap oP oL B F2 N2 m2c hI2 hl2 cP ?_
  intro h3 tk3 pn oP2 tk0 t tt F3 N3 cP2 ht0 ht1 n1 n2 n3
  clear N2 F2
  show wpAny _ _ (execs [lawSt w 2, lawSt w 3, lawSt w 4, lawSt w 5, lawSt w 6, lawSt w 7, lawSt w 8, lawSt w 9, lawSt w 10, lawSt w 11] (lawEnv w (Str.ofString "law") L 363 (.ref 362))) _ _ _
  refine wpAny_execs_cons ?_
  refine @st2 w mean mg mb dp un fr gd g L 363 cl pn _ _ m2 _ _ vs2 ns2 cap oP2 oL tk0 tt t B F3 N3 hI2 hl2 cP2 ht0 ht1 n1 n2 n3 ?_
  intro h4 tk4 cd ws c2 i tk1 m4 F4 m4c N4 n4 i0 i1 ⟨cs, hJ, hcl, hg⟩
  clear N3 F3
  show wpAny _ _ (execs [lawSt w 3, lawSt w 4, lawSt w 5, lawSt w 6, lawSt w 7, lawSt w 8, lawSt w 9, lawSt w 10, lawSt w 11] (lawEnv w (Str.ofString "law") L 363 (.ref 362))) _ _ _
  refine wpAny_execs_cons ?_
  refine @st3 w mean mg mb dp un fr gd g L 363 _ _ m4 _ _ _ B F4 N4 ?_
  intro h5 tk5 kn us c3 m5 F5 m5k m5f N5 lt5 ⟨ks, hks, hkl, hsub⟩
  have m5c : m5 (Str.ofString "codes") = some (.ref cd) := (m5f _ (by decide)).trans m4c
  clear N4 F4
  show wpAny _ _ (execs [lawSt w 4, lawSt w 5, lawSt w 6, lawSt w 7, lawSt w 8, lawSt w 9, lawSt w 10, lawSt w 11] (lawEnv w (Str.ofString "law") L 363 (.ref 362))) _ _ _
  refine wpAny_execs_cons ?_
  refine st4 B F5 N5 hI2 hl2 cP2 ht0 ht1 n1 n2 n3 n4 (Nat.ne_of_gt (lt5 (pn, _) (.tail _ (.head _)))) m5k i0 (by (first | lia | omega)) hks (by (first | lia | omega)) ?_
  intro h6 tk6 kn2 us2 c32 i2 tk12 m6 F6 m6k m6f N6 ⟨ks2, hks2, hkl2, hsub2⟩
  have m6c : m6 (Str.ofString "codes") = some (.ref cd) := m6f.trans m5c
  have hK : KnownOk ks2 := fun c hc => List.any_eq_true.mpr ⟨c, hsub2 c (hsub c hc), by simp⟩
  have hcb : ∀ c ∈ cs, 0 ≤ c ∧ c < 100000 := fun c hc => (hg c hc).bd
  have cell_ne : ∀ {a : Addr} {vs' : List Value} {n' : Nat}, (a, listOf (List.toArray vs') n') ∈ [(kn2, listOf (List.toArray us2) c32), (cd, listOf (List.toArray ws) c2), (pn, listOf #[.ref cl, .int i2 tk12, .int t tt] 0), (cl, listOf (List.toArray vs2) cap), (L + 1 + 1, oL), (L + 1, oP2)] → @Ne Nat a (L + 1 + 1) := fun hm e => by
    have e1 := (N6 _ hm).1
    have e2 := (N6 (L + 1 + 1, oL) (.tail _ (.tail _ (.tail _ (.tail _ (.head _)))))).1
    have e : (_ : Addr) = L + 1 + 1 := e
    rw [e] at e1
    have e3 := congrArg Obj.data (Option.some.inj (e1.symm.trans e2))
    rw [cL] at e3
    cases e3
  have z1 := cell_ne (.head _)
  have z2 := cell_ne (.tail _ (.head _))
  have N6' : News g L h6 [(kn2, listOf (List.toArray us2) c32), (L + 1 + 1, oL), (cd, listOf (List.toArray ws) c2)] := fun p hp => N6 p (by
    rcases List.mem_cons.mp hp with e | hp
    · rw [e]; exact .head _
    rcases List.mem_cons.mp hp with e | hp
    · rw [e]; exact .tail _ (.tail _ (.tail _ (.tail _ (.head _))))
    · rw [List.mem_singleton.mp hp]; exact .tail _ (.head _))
  clear N5 F5 N6 cell_ne
  show wpAny _ _ (execs [lawSt w 5, lawSt w 6, lawSt w 7, lawSt w 8, lawSt w 9, lawSt w 10, lawSt w 11] (lawEnv w (Str.ofString "law") L 363 (.ref 362))) _ _ _
  refine wpAny_execs_cons ?_
  refine st5 B F6 N6' ?_
  intro h7 tk7 D m7 F7 m7d m7f N7 lt7
  have m7c : m7 (Str.ofString "codes") = some (.ref cd) := (m7f _ (by decide)).trans m6c
  have m7k : m7 (Str.ofString "known") = some (.ref kn2) := (m7f _ (by decide)).trans m6k
  clear N6' F6
  show wpAny _ _ (execs [lawSt w 6, lawSt w 7, lawSt w 8, lawSt w 9, lawSt w 10, lawSt w 11] (lawEnv w (Str.ofString "law") L 363 (.ref 362))) _ _ _
  refine wpAny_execs_cons ?_
  refine st6 B F7 N7 m7c m7k m7d hks2 (by (first | lia | omega)) hJ hcl hcb (Ne.symm z1) (Nat.ne_of_lt (lt7 (kn2, _) (.head _))) (Nat.ne_of_lt (lt7 (L + 1 + 1, _) (.tail _ (.head _)))) (Nat.ne_of_lt (lt7 (cd, _) (.tail _ (.tail _ (.head _))))) z2 cL ?_
  intro h8 tk8 D2 n8 ts m8 F8 m8d m8k m8c N8 hcc htl
  have N8' : News g L h8 ((cd, listOf (List.toArray ws) c2) :: (D2, listOf (List.toArray (ts.map TP.ref)) n8) :: (kn2, listOf (List.toArray us2) c32) :: tupsL ts) := fun p hp => N8 p (by
    rcases List.mem_cons.mp hp with e | hp
    · rw [e]; exact .tail _ (.tail _ (.head _))
    rcases List.mem_cons.mp hp with e | hp
    · rw [e]; exact .head _
    rcases List.mem_cons.mp hp with e | hp
    · rw [e]; exact .tail _ (.head _)
    · exact .tail _ (.tail _ (.tail _ hp)))
  clear N7 F7 N8
  show wpAny _ _ (execs [lawSt w 7, lawSt w 8, lawSt w 9, lawSt w 10, lawSt w 11] (lawEnv w (Str.ofString "law") L 363 (.ref 362))) _ _ _
  refine wpAny_execs_cons ?_
  refine st7 B F8 N8' m8c hJ (by (first | lia | omega)) ?_
  intro h9 tk9 bf db row b1 b2 b3 b4 k1 k2 k3 k4 t3 t4 n9 is m9 F9 m9b m9f N9 r1 r2 r3 hcc0
  have m9c : m9 (Str.ofString "codes") = some (.ref cd) := (m9f _ (by decide)).trans m8c
  have m9k : m9 (Str.ofString "known") = some (.ref kn2) := (m9f _ (by decide)).trans m8k
  have m9d : m9 (Str.ofString "done") = some (.ref D2) := (m9f _ (by decide)).trans m8d
  have hil : is.length = cs.length := by
    have := congrArg List.length hcc0
    unfold cc0 at this
    rw [List.length_map, List.length_map, List.length_zipIdx] at this
    exact this
  have N9' : News g L h9 ((bf, instObj 105 db) :: (db, bufD b1 b2 b3 b4 k1 k2 k3 k4 t3 t4 row) :: (row, listOf (List.toArray (is.map Inf.ref)) n9) :: (kn2, listOf (List.toArray us2) c32) :: (infosL is ++ (cd, listOf (List.toArray ws) c2) :: (D2, listOf (List.toArray (ts.map TP.ref)) n8) :: tupsL ts)) := fun p hp => N9 p (by
    rcases List.mem_cons.mp hp with e | hp
    · rw [e]; exact .head _
    rcases List.mem_cons.mp hp with e | hp
    · rw [e]; exact .tail _ (.head _)
    rcases List.mem_cons.mp hp with e | hp
    · rw [e]; exact .tail _ (.tail _ (.head _))
    rcases List.mem_cons.mp hp with e | hp
    · rw [e]; exact List.mem_append_right _ (.tail _ (.tail _ (.head _)))
    rcases List.mem_append.mp hp with hp | hp
    · exact List.mem_append_left _ (.tail _ (.tail _ (.tail _ hp)))
    rcases List.mem_cons.mp hp with e | hp
    · rw [e]; exact List.mem_append_right _ (.head _)
    rcases List.mem_cons.mp hp with e | hp
    · rw [e]; exact List.mem_append_right _ (.tail _ (.head _))
    · exact List.mem_append_right _ (.tail _ (.tail _ (.tail _ hp))))
  clear N8' F8 N9
  show wpAny _ _ (execs [lawSt w 8, lawSt w 9, lawSt w 10, lawSt w 11] (lawEnv w (Str.ofString "law") L 363 (.ref 362))) _ _ _
  refine wpAny_execs_cons ?_
  refine st8 B F9 N9' m9b m9k hks2 (by (first | lia | omega)) (by (first | lia | omega)) (fun p hp => List.mem_append_left _ hp) r2 (r3 (row, _) (.head _)) (r1 (kn2, _) (.tail _ (.tail _ (.head _)))) (fun p hp => ?_) (pc := pcs ks2) (by rw [hcc0]; exact law_pieces hK hg) (by rw [hcc0]; exact law_put hK hg) ?_
  · rcases List.mem_append.mp hp with hp | hp
    · exact r3 p (.tail _ hp)
    rcases List.mem_cons.mp hp with e | hp
    · rw [e]; exact r1 (cd, _) (.head _)
    rcases List.mem_cons.mp hp with e | hp
    · rw [e]; exact r1 (D2, listOf (List.toArray (ts.map TP.ref)) n8) (.tail _ (.head _))
    · exact r1 p (.tail _ (.tail _ (.tail _ hp)))
  intro h10 tk10 row2 n10 fin F10 N10 hfin
  have heq : fin.map Inf.cc = ts.map TP.cc := by rw [hfin, hcc0, hcc]; exact law_eq hK hg
  have hfl : fin.length = ts.length := by have := congrArg List.length heq; rw [List.length_map, List.length_map] at this; exact this
  have N10' : News g L h10 ((bf, instObj 105 db) :: (db, bufD b1 b2 b3 b4 k1 k2 k3 k4 t3 t4 row2) :: (row2, listOf (List.toArray (fin.map Inf.ref)) n10) :: (D2, listOf (List.toArray (ts.map TP.ref)) n8) :: (infosL fin ++ (cd, listOf (List.toArray ws) c2) :: tupsL ts)) := fun p hp => N10 p (by
    rcases List.mem_cons.mp hp with e | hp
    · rw [e]; exact .head _
    rcases List.mem_cons.mp hp with e | hp
    · rw [e]; exact .tail _ (.head _)
    rcases List.mem_cons.mp hp with e | hp
    · rw [e]; exact .tail _ (.tail _ (.head _))
    rcases List.mem_cons.mp hp with e | hp
    · rw [e]; exact .tail _ (.tail _ (.tail _ (List.mem_append_right _ (List.mem_append_right _ (.tail _ (.head _))))))
    rcases List.mem_append.mp hp with hp | hp
    · exact .tail _ (.tail _ (.tail _ (List.mem_append_left _ hp)))
    rcases List.mem_cons.mp hp with e | hp
    · rw [e]; exact .tail _ (.tail _ (.tail _ (List.mem_append_right _ (List.mem_append_right _ (.head _)))))
    · exact .tail _ (.tail _ (.tail _ (List.mem_append_right _ (List.mem_append_right _ (.tail _ (.tail _ hp)))))))
  clear N9' F9 N10
  show wpAny _ _ (execs [lawSt w 9, lawSt w 10, lawSt w 11] (lawEnv w (Str.ofString "law") L 363 (.ref 362))) _ _ _
  refine wpAny_execs_cons ?_
  refine @st9 w mean mg mb dp un fr gd g L 363 D2 bf db row2 _ _ m9 _ _ _ n8 n10 b1 b2 b3 b4 k1 k2 k3 k4 t3 t4 fin ts B F10 N10' m9b m9d (fun p hp => List.mem_append_left _ hp) (fun t ht => List.mem_append_right _ (.tail _ (tupsL_mem ht))) (by (first | lia | omega)) heq ?_
  intro h11 tk11 F11 N11
  clear N10' F10
  show wpAny _ _ (execs [lawSt w 10, lawSt w 11] (lawEnv w (Str.ofString "law") L 363 (.ref 362))) _ _ _
  refine wpAny_execs_cons ?_
  refine st10 B F11 (fun p hp => N11 p (by rw [List.mem_singleton.mp hp]; exact List.mem_append_right _ (.head _))) m9c hJ hcl hcb ?_
  intro h12 tk12' m12 F12
  show wpAny _ _ (execs [lawSt w 11] (lawEnv w (Str.ofString "law") L 363 (.ref 362))) _ _ _
  refine wpAny_execs_cons ?_
  refine st11 B F12 ?_
  intro tk13
  exact hret _ _ _ (fin0 (led' := []) (own := []) F12 (News.nil (h₀ := g) (L := L)) (fun p hp => (nomatch hp)) (fun p hp => (nomatch hp)) (fun p hp => (nomatch hp)) rfl rfl)
end PLaw
end Mine
theorem PySem.Challenge.cw_pb0193_01_holds : PySem.Challenge.rw_pb0193_01.Holds :=
  Mine.hd (by
  w_strict (
    k_fill
    intro w s₀ s₁ mg mb G Y fa o pm cd doc dV kV ho hd hcd hD hmg hg args vals as hpre hlay hrd hwl hlo
    have KX := kIn_of Y
    have X := (Ground.X G).1
    have V := (Ground.X G).2
    refine Ground.open G ?_
    intro T B D TE TW
    try (refine guard_noD D (by decide +kernel) ?_; clear D)
    wrow_args hpre hlay hrd hwl hlo
    have e1 := mg_of KX (Top.g T) (n := Str.ofString "law") (v := .ref 363) (by kernel_rfl)
    have e2 : some (Value.ref fa) = some (Value.ref 363) := hmg.symm.trans e1
    injection e2 with e2
    injection e2 with e2
    subst e2
    rename IntsAre _ _ => hI
    rename Heap.IsList _ _ _ => hl
    rename ¬ _ => hlen
    refine enter_call ?_
    refine Mine.law_c (by (first | lia | omega)) callerA.depth callerA.units callerA.frames callerA.guards s₁.heap s₁ _ ?_ ?_ ⟨KX, T⟩ (fun _ _ e => e) (fun p hp => nomatch hp) ⟨hl, hI⟩ ?_
    · decide +kernel
    · decide +kernel
    · rintro r h' tk' led' own hk - - - rfl
      exact GoodW.toG ⟨.inl ⟨_, .bool true, [], rfl, raisesW_false (by wrow_none_raised), .bool true, by wrow_post, unshared_nil⟩, fun b o e => hk b o e (fun z => nomatch z), rfl, hg⟩))
