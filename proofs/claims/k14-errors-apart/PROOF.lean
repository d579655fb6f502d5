import PyProof.Rows.All
import Wide.All
import OpenK.AllK
import Wide.FinOn
import HandS.ForMost
import HandS.ForExc
import HandS.Defaults
import HandS.Style
import HandS.IsInst
import HandS.HeadHook1
import HandS.HeadHook2
import HandS.Property
import HandS.Wide
import HandS.Walk
import HandS.SortInts
import HandS.DictComp
import PyProof.ListStr
import HandS.Conv
import PyProof.EnumMake
import PyProof.Draws
import KE.GoesMore
import PyProof.InstEq
import HandS.Exc
import HandS.ExcInit
import HandS.ExcOwn
import HandS.ExcValue
import HandS.ExcField
import HandS.TryOnly
import HandS.WordsExc
import HandS.RaiseMore
import KE.KExcIs
import HandS.HeadHook3
import HandS.HeadHook4
import HandS.Lambda
import HandS.EndTab
import HandS.HeadWalk
import HandS.More
import PyProof.ReprRoads
import HandS.HeadEnd
import PyProof.StrLawsRepr
import PyProof.Rows.RegStrFacts
import HandS.DeepEq
import HandS.Flow
import PyProof.NeKinds
import PyProof.LongRange
import PyProof.ListRange
import PyProof.JoinWalk
import PyProof.DictWalks
import PyProof.CollectIter
import HandS.MapObj
import HandS.Deep
import HandS.Keys
import PySem.Challenge.RW_newsinorder_k14_errors_apart
import KE.KStateDown
import Lean
import HandS.Head0
import HandS.Head1
import HandS.Head2
set_option Elab.async false
set_option linter.all false
set_option maxRecDepth 100000
set_option maxHeartbeats 0
namespace Nw
open PySem PySem.Spec PyProof.Rows L2

/-! ### heaps: what a part of a run does to the view I (what stands for good) and the heap H -/
structure Grow (T : Addr → Prop) (I H I' H' : Hp) : Prop where
  view : Same I I'
  sub : Same I' H'
  keep : ∀ b o, ¬ T b → H b = some o → H' b = some o
  live : ∀ b, H b ≠ none → H' b ≠ none
  fresh : ∀ b, I b = none → H b ≠ none → I' b = none
  tbl : ∀ b ps, I' b = some (.tbl ps) → I b = some (.tbl ps)
/-- no table of code objects -/
abbrev NTb (o : HO) : Prop := ∀ ps, o ≠ .tbl ps
abbrev No : Addr → Prop := fun _ => False
variable {T : Addr → Prop} {I H I' H' I0 H0 I1 H1 I2 H2 J : Hp} {p l m : Addr} {o o' : HO}
theorem Same.up (h : H p = none) : Same H (upd H p o) := fun b u e => by
  rw [upd_ne (ne_of_none e h)]
  exact e
theorem Grow.refl (h : Same I H) : Grow T I H I H := ⟨Same.refl I, h, fun _ _ _ e => e, fun _ e => e, fun _ e _ => e, fun _ _ e => e⟩
theorem Grow.trans (a : Grow T I H I1 H1) (b : Grow T I1 H1 I2 H2) : Grow T I H I2 H2 :=
  ⟨a.view.trans b.view, b.sub, fun x o n e => b.keep x o n (a.keep x o n e), fun x e => b.live x (a.live x e), fun x e n => b.fresh x (a.fresh x e n) (a.live x n), fun x ps e => a.tbl x ps (b.tbl x ps e)⟩
theorem Grow.to {T' : Addr → Prop} (h : ∀ x, T x → T' x) (g : Grow T I H I' H') : Grow T' I H I' H' :=
  ⟨g.view, g.sub, fun x o n e => g.keep x o (fun t => n (h x t)) e, g.live, g.fresh, g.tbl⟩
theorem Grow.no (g : Grow No I H I' H') : Grow T I H I' H' := g.to fun _ z => z.elim
theorem Grow.same (g : Grow No I H I' H') : Same H H' := fun b o e => g.keep b o (fun z => z) e
theorem upd_tbl {b : Addr} {ps : Array Value} (n : NTb o) (e : upd H p o b = some (.tbl ps)) : H b = some (.tbl ps) := by
  unfold upd at e
  split at e
  · exact absurd (Option.some.inj e) (n ps)
  · exact e
theorem upd_live {b : Addr} (h : H b ≠ none) : upd H p o b ≠ none := by
  unfold upd
  split
  · exact fun z => nomatch z
  · exact h
/-- a new object, for good -/
theorem Grow.new (h : Same I H) (hp : H p = none) (nt : NTb o := by intro _ z; cases z) : Grow T I H (upd I p o) (upd H p o) where
  view := Same.up (h.free hp)
  sub := fun b u e => by
    by_cases q : b = p
    · subst q; rw [upd_same] at e ⊢; exact e
    · rw [upd_ne q] at e ⊢; exact h b u e
  keep := fun b u _ e => Same.up hp b u e
  live := fun b e => upd_live e
  fresh := fun b e n => by
    rw [upd_ne (fun z => n (by rw [z]; exact hp))]
    exact e
  tbl := fun b ps e => upd_tbl nt e
/-- a new object of one's own, that may change yet -/
theorem Grow.mine (h : Same I H) (hp : H p = none) : Grow T I H I (upd H p o) where
  view := Same.refl I
  sub := h.trans (Same.up hp)
  keep := fun b u _ e => Same.up hp b u e
  live := fun b e => upd_live e
  fresh := fun b e _ => e
  tbl := fun _ _ e => e
/-- an object of one's own -/
structure Own (T : Addr → Prop) (H0 : Hp) (l : Addr) (o : HO) (I H : Hp) : Prop where
  nt : ¬ T l
  n0 : H0 l = none
  ni : I l = none
  at_ : H l = some o
theorem Own.new (hs : Same I H) (h : Same H0 H ∨ (∀ b, H0 b ≠ none → H b ≠ none)) (ht : ∀ b, T b → H b ≠ none) (hp : H p = none) : Own T H0 p o I (upd H p o) := by
  refine ⟨fun t => ht p t hp, ?_, hs.free hp, upd_same⟩
  cases q : H0 p with
  | none => rfl
  | some u =>
    rcases h with h | h
    · have z := h p u q
      rw [hp] at z; cases z
    · exact absurd hp (h p (by rw [q]; exact fun z => nomatch z))
theorem Own.grow (w : Own T H0 l o I H) (g : Grow T I H I' H') : Own T H0 l o I' H' :=
  ⟨w.nt, w.n0, g.fresh l w.ni (by rw [w.at_]; exact fun z => nomatch z), g.keep l o w.nt w.at_⟩
theorem Own.put (w : Own T H0 l o I H) : Own T H0 l o' I (upd H l o') := ⟨w.nt, w.n0, w.ni, upd_same⟩
theorem Own.other (w : Own T H0 l o I H) (ne : l ≠ m) : Own T H0 l o I (upd H m o') := ⟨w.nt, w.n0, w.ni, by rw [upd_ne ne]; exact w.at_⟩
theorem Grow.put (g : Grow T I0 H0 I H) (w : Own T H0 l o I H) : Grow T I0 H0 I (upd H l o') where
  view := g.view
  sub := fun b u e => by
    rw [upd_ne (ne_of_none e w.ni)]
    exact g.sub b u e
  keep := fun b u n e => by
    rw [upd_ne (ne_of_none e w.n0)]
    exact g.keep b u n e
  live := fun b e => upd_live (g.live b e)
  fresh := g.fresh
  tbl := g.tbl
/-- it is given out: it will not change any more -/
theorem Grow.give (g : Grow T I0 H0 I H) (w : Own T H0 l o I H) (nt : NTb o := by intro _ z; cases z) : Grow T I0 H0 (upd I l o) H where
  view := g.view.trans (Same.up w.ni)
  sub := fun b u e => by
    by_cases q : b = l
    · subst q; rw [upd_same] at e; rw [w.at_]; exact e
    · rw [upd_ne q] at e; exact g.sub b u e
  keep := g.keep
  live := g.live
  fresh := fun b e n => by
    rw [upd_ne (fun z => n (by rw [z]; exact w.n0))]
    exact g.fresh b e n
  tbl := fun b ps e => g.tbl b ps (upd_tbl nt e)

/-- what was changed is younger than where one looks from -/
theorem Grow.drop (g0 : Grow T I0 H0 I H) {T' : Addr → Prop} (g : Grow T' I H I' H') (hT : ∀ b, T' b → T b ∨ H0 b = none) : Grow T I0 H0 I' H' where
  view := g0.view.trans g.view
  sub := g.sub
  keep := fun b u n e => g.keep b u (fun t => by
    rcases hT b t with z | z
    · exact n z
    · rw [z] at e; cases e) (g0.keep b u n e)
  live := fun b e => g.live b (g0.live b e)
  fresh := fun b e n => g.fresh b (g0.fresh b e n) (g0.live b n)
  tbl := fun b ps e => g0.tbl b ps (g.tbl b ps e)
/-- x is given out, with what it holds now -/
theorem Grow.give' (g : Grow T I0 H0 I H) (n0 : H0 l = none) (ni : I l = none) (h : H l = some o) (nt : NTb o := by intro _ z; cases z) : Grow T I0 H0 (upd I l o) H where
  view := g.view.trans (Same.up ni)
  sub := fun b u e => by
    by_cases q : b = l
    · subst q; rw [upd_same] at e; rw [h]; exact e
    · rw [upd_ne q] at e; exact g.sub b u e
  keep := g.keep
  live := g.live
  fresh := fun b e n => by
    rw [upd_ne (fun z => n (by rw [z]; exact n0))]
    exact g.fresh b e n
  tbl := fun b ps e => g.tbl b ps (upd_tbl nt e)

/-- an object that T names is changed -/
theorem Grow.chg (g : Grow T I0 H0 I H) (t : T p) (ni : I p = none) : Grow T I0 H0 I (upd H p o') where
  view := g.view
  sub := fun b u e => by
    rw [upd_ne (ne_of_none e ni)]
    exact g.sub b u e
  keep := fun b u n e => by
    rw [upd_ne (fun z => n (by rw [z]; exact t))]
    exact g.keep b u n e
  live := fun b e => upd_live (g.live b e)
  fresh := g.fresh
  tbl := g.tbl

/-! ### data and what stands for it -/
class Rep (α : Type) where
  is : Hp → V → α → Prop
  mono : ∀ {H H' : Hp} {v : V} {x : α}, Same H H' → is H v x → is H' v x
instance : Rep V := ⟨fun _ v x => v = x, fun _ h => h⟩
instance : Rep Int := ⟨fun _ v x => v = .int x, fun _ h => h⟩
instance : Rep Bool := ⟨fun _ v x => v = .bl x, fun _ h => h⟩
instance : Rep Str := ⟨fun _ v x => v = .str x, fun _ h => h⟩
instance : Rep Unit := ⟨fun _ v _ => v = .non, fun _ h => h⟩
theorem Paired.mono' {α β : Type} {F G : α → β → Prop} (h : ∀ a b, F a b → G a b) : ∀ {xs : List α} {ys : List β}, Paired F xs ys → Paired G xs ys
  | _, _, .nil => .nil
  | _, _, .cons a t => .cons (h _ _ a) (Paired.mono' h t)
/-- a list -/
def isL {α : Type} [Rep α] (I : Hp) (v : V) (xs : List α) : Prop := ∃ a vs, v = .ref a ∧ I a = some (.lst vs) ∧ Paired (Rep.is I) vs xs
/-- a tuple of any length, of things of one kind -/
structure Tup (α : Type) where
  l : List α
def isU {α : Type} [Rep α] (I : Hp) (v : V) (xs : List α) : Prop := ∃ a vs, v = .ref a ∧ I a = some (.tup vs) ∧ Paired (Rep.is I) vs xs
instance {α : Type} [Rep α] : Rep (List α) := ⟨isL, fun e ⟨a, vs, h1, h2, h3⟩ => ⟨a, vs, h1, e _ _ h2, Paired.mono' (fun _ _ z => Rep.mono e z) h3⟩⟩
instance {α : Type} [Rep α] : Rep (Tup α) := ⟨fun I v x => isU I v x.l, fun e ⟨a, vs, h1, h2, h3⟩ => ⟨a, vs, h1, e _ _ h2, Paired.mono' (fun _ _ z => Rep.mono e z) h3⟩⟩
/-- a pair -/
def isP {α β : Type} [Rep α] [Rep β] (I : Hp) (v : V) (x : α × β) : Prop := ∃ a v1 v2, v = .ref a ∧ I a = some (.tup [v1, v2]) ∧ Rep.is I v1 x.1 ∧ Rep.is I v2 x.2
instance {α β : Type} [Rep α] [Rep β] : Rep (α × β) := ⟨isP, fun e ⟨a, v1, v2, h1, h2, h3, h4⟩ => ⟨a, v1, v2, h1, e _ _ h2, Rep.mono e h3, Rep.mono e h4⟩⟩

/-! ### what an expression gives -/
def EvR {α : Type} [Rep α] (te : TE) (σ : L2.St) (I : Hp) (x : α) : Prop := ∀ H, Same I H → ∀ Q : VK, (∀ v I' H', Grow No I H I' H' → Rep.is I' v x → Q v H') → te σ H Q
def EvT (tt : TT) (σ : L2.St) (I : Hp) (b : Bool) : Prop := ∀ H, Same I H → ∀ Q : Bool → Hp → Prop, (∀ I' H', Grow No I H I' H' → Q b H') → tt σ H Q
def un (J I : Hp) : Hp := fun b => match J b with
  | some o => some o
  | none => I b
theorem un_l : Same J (un J I) := fun b o e => by
  unfold un
  rw [e]
theorem un_none {b : Addr} (h : J b = none) : un J I b = I b := by
  unfold un
  rw [h]
theorem Grow.join {e : Same I J} {s : Same J H} (g : Grow No I H I' H') : Grow No J H (un J I') H' ∧ Same I' (un J I') := by
  have k : Same J H' := fun b o q => g.keep b o (fun z => z) (s b o q)
  refine ⟨⟨un_l, fun b o q => ?_, g.keep, g.live, fun b n q => ?_, fun b ps q => ?_⟩, fun b o q => ?_⟩
  · cases h : J b with
    | none => rw [un_none h] at q; exact g.sub b o q
    | some u =>
      have z : un J I' b = some u := un_l b u h
      rw [z] at q; cases q
      exact k b o h
  · rw [un_none n]
    exact g.fresh b (e.free n) q
  · cases h : J b with
    | none =>
      rw [un_none h] at q
      have z := e b _ (g.tbl b ps q)
      rw [h] at z; cases z
    | some u =>
      have z : un J I' b = some u := un_l b u h
      rw [z] at q
      exact q
  · cases h : J b with
    | none => rw [un_none h]; exact q
    | some u =>
      have z : un J I' b = some u := un_l b u h
      have h1 := k b u h
      rw [g.sub b o q] at h1
      rw [z, h1]
section
variable {α β γ : Type} [Rep α] [Rep β] [Rep γ] {te ta tb tc : TE} {tt t u : TT} {σ : L2.St} {x : α} {y : β} {z : γ} {v w : V} {K : PySem.W.Frag}
theorem EvR.mono (h : EvR te σ I x) (e : Same I J) : EvR te σ J x := fun H s Q k => h H (e.trans s) Q fun v I' H' g r =>
  let ⟨g', e'⟩ := g.join (e := e) (s := s)
  k v _ H' g' (Rep.mono e' r)
theorem EvT.mono {b : Bool} (h : EvT tt σ I b) (e : Same I J) : EvT tt σ J b := fun H s Q k => h H (e.trans s) Q fun I' H' g =>
  let ⟨g', _⟩ := g.join (e := e) (s := s)
  k _ H' g'
/-- the rest of an evaluation: from the view and the heap as they stand -/
theorem EvR.go (h : EvR te σ I x) (s : Same I H) {Q : VK} (k : ∀ v I' H', Grow No I H I' H' → Rep.is I' v x → Q v H') : te σ H Q := h H s Q k
theorem evr_var {i : Nat} (h : σ[i]? = some (some v)) (r : Rep.is I v x) : EvR (tVar i) σ I x := fun H s Q k => ⟨v, h, k v I H (Grow.refl s) r⟩
theorem evr_c (r : Rep.is I v x) : EvR (tC v) σ I x := fun H s Q k => k v I H (Grow.refl s) r
theorem evr_int {i : Int} : EvR (tC (.int i)) σ I i := evr_c rfl
theorem evr_str {s : Str} : EvR (tC (.str s)) σ I s := evr_c rfl
theorem evr_bl {b : Bool} : EvR (tC (.bl b)) σ I b := evr_c rfl
theorem evr_non : EvR (tC .non) σ I () := evr_c rfl
/-- what an operator makes of two values -/
def RvR (r : R2) (I : Hp) (v w : V) (z : γ) : Prop := ∀ H, Same I H → ∀ Q : VK, (∀ u I' H', Grow No I H I' H' → Rep.is I' u z → Q u H') → r v w H Q
theorem evr_op {r : R2} (ha : EvR ta σ I x) (hb : EvR tb σ I y) (hr : ∀ J v w, Same I J → Rep.is J v x → Rep.is J w y → RvR r J v w z) : EvR (tOp r ta tb) σ I z := fun H s Q k =>
  ha H s _ fun v I1 H1 g1 r1 => (hb.mono g1.view) H1 g1.sub _ fun w I2 H2 g2 r2 => hr I2 v w (g1.view.trans g2.view) (Rep.mono g2.view r1) r2 H2 g2.sub Q fun u I3 H3 g3 r3 => k u I3 H3 ((g1.trans g2).trans g3) r3
theorem evr_opI {r : R2} {i j : Int} {z : γ} (ha : EvR ta σ I i) (hb : EvR tb σ I j) (hr : ∀ J, RvR r J (.int i) (.int j) z) : EvR (tOp r ta tb) σ I z :=
  evr_op ha hb fun J v w _ h1 h2 => by
    cases h1; cases h2
    exact hr J
theorem rvr_I0 {g : Int → Int → V} {i j : Int} (h : ∀ J, Rep.is J (g i j) z) : RvR (rI0 g) I (.int i) (.int j) z := fun H s Q k => ⟨i, j, rfl, rfl, k _ I H (Grow.refl s) (h I)⟩
theorem rvr_I {C : Int → Int → Prop} {g : Int → Int → V} {i j : Int} (hc : C i j) (h : ∀ J, Rep.is J (g i j) z) : RvR (rI C g) I (.int i) (.int j) z := fun H s Q k => ⟨i, j, rfl, rfl, hc, k _ I H (Grow.refl s) (h I)⟩
end
end Nw

namespace Nw
open PySem PySem.Spec PyProof.Rows L2

/-! ### a def and its promise, by the def's address -/
structure Ok (P : Program) (w : World) (K : PySem.W.Frag) (mg : Str → Option Value) (base : Heap) (CX : CXT) (k : Nat) (f : Addr) (ps : List Str) (sp : Sp) : Prop where
  ok : ∃ fd, FnOk P w K mg base CX k f fd ps sp ∧ Binds K fd ps [] ∧ PySem.W.keepIn K (.ref f) = true ∧ ∃ oc od osl, K.lookup f = some ⟨oc, od, .func fd, osl⟩
abbrev FnAt (K : PySem.W.Frag) (x qual : Str) (st : Stmt) (f : Addr) : Prop := ∃ fd, FunD K x qual (defArgs st) (defBody st) (defScope st) [] [] f fd
section
variable {P : Program} {w : World} {K : PySem.W.Frag} {mg : Str → Option Value} {base : Heap} {X : Cx} {CX : CXT} {k : Nat} {f C p g : Addr} {ps : List Str} {sp : Sp} {E : XK} {x m : Str} {pos ppos apos : Pos} {e o : Expr} {es : List Expr} {ta : TE} {t : TA}
theorem Ok.imp {sp' : Sp} (G : Ok P w K mg base CX k f ps sp) (h : ∀ vs H Q E, sp' vs H Q E → sp vs H Q E) : Ok P w K mg base CX k f ps sp' := by
  obtain ⟨fd, F, b, kp⟩ := G.ok
  exact ⟨fd, F.imp h, b, kp⟩
theorem Ok.up {j : Nat} (G : Ok P w K mg base CX k f ps sp) (h : k ≤ j) : Ok P w K mg base CX j f ps sp := by
  obtain ⟨fd, F, b, kp⟩ := G.ok
  exact ⟨fd, F.mono h, b, kp⟩
/-- a def that lets no exception out keeps its promise -/
theorem ok_of {qual : Str} {st : Stmt} {N : List Str} (F : FnAt K x qual st f) (S : FnScope N ps (defScope st))
    (hb : ∀ (kV doc pm : Value) (an : Option Addr) (cdv ct : Value) (us : List Value), us.length = ps.length → bindArgs (PySem.W.fnOf x qual (defArgs st) (defBody st) (defScope st) .none kV doc pm an cdv ct) ⟨us, []⟩ = pure (ps.zip us))
    (len : ∀ vs H Q E, sp vs H Q E → vs.length = ps.length)
    (hbody : ∀ (cdv : Value) (A : Around) (outer : List Env) (s : Shared) (H : Hp) (vs : List V) (Q : VK) (E : XK), Room k (A.deeper (envOfC qual (defScope st) s.heap.objs.size f cdv)) → sp vs H Q E →
      ∃ t, PSs (cxOf CX0 P w K mg base N qual (defScope st) f cdv A outer s H E).nox (defBody st) t ∧ t { nx := fun _ H' => Q .non H', rt := Q } (start N vs) H) : Ok P w K mg base CX0 (k + 1) f ps sp := by
  obtain ⟨fd, F⟩ := F
  refine ⟨fd, F.ok S len fun cdv A outer s H vs Q E hr h => ?_, F.bindsN hb, F.kp, let ⟨oc, od, _, _, _, _, _, _, _, osl, _, lk, _⟩ := F.ex; ⟨oc, od, osl, lk⟩⟩
  obtain ⟨t, h1, h2⟩ := hbody cdv A outer s H vs Q E hr h
  exact ⟨t, h1.nox, h2⟩
/-- a def that lets none out, where some may be let out -/
theorem Ok.toX {CX' : CXT} (G : Ok P w K mg base CX0 k f ps sp) : Ok P w K mg base CX' k f ps sp := by
  obtain ⟨fd, F, r⟩ := G.ok
  refine ⟨fd, ⟨F.len, fun A outer s H args us vs Q E hr e0 hb rv h => codeAny_mono (F.run A outer s H args us vs Q E hr e0 hb rv h) fun r s' hq => ?_⟩, r⟩
  cases r with
  | error e => exact (show False from hq).elim
  | ok fl => cases fl <;> exact hq
/-- both of two promises -/
theorem Ok.or {sp' : Sp} (G : Ok P w K mg base CX k f ps sp) (G' : Ok P w K mg base CX k f ps sp') : Ok P w K mg base CX k f ps (fun vs H Q E => sp vs H Q E ∨ sp' vs H Q E) := by
  obtain ⟨fd, F, b, kp, oc, od, osl, lk⟩ := G.ok
  obtain ⟨fd', F', _, _, oc', od', osl', lk'⟩ := G'.ok
  rw [lk] at lk'
  cases lk'
  refine ⟨fd, ⟨fun vs H Q E h => h.elim (F.len vs H Q E) (F'.len vs H Q E), fun A outer s H args us vs Q E hr e0 hb rv h => ?_⟩, b, kp, oc, od, osl, lk⟩
  rcases h with h | h
  · exact F.run A outer s H args us vs Q E hr e0 hb rv h
  · exact F'.run A outer s H args us vs Q E hr e0 hb rv h
theorem pe_callC (G : Ok X.prog X.w X.K X.mg X.base CX0 k f ps sp) (hr : Room k X.A) (hm : X.mg x = some (.ref f)) (ha : PA X (e :: es) t) (hg : Gl X x := by rfl) (hdb : (x == ("__debug__" : Str)) = false := by decide)
    (he : starEach (e :: es) X.env = (false, eval e X.env) :: starEach es X.env := by rfl) (hpl : (backTo pos (starEach es X.env)).any (·.1) = false := by rfl) : PE X (.Call (.Name x ppos) (e :: es) [] pos) (tCall sp [] E0 t) := by
  obtain ⟨fd, F, b, kp, _⟩ := G.ok
  exact pe_call F hr hg hm kp b .nil pass0 ha hdb he hpl
theorem pe_makeC (M : Mk X.K C f) (G : Ok X.prog X.w X.K X.mg X.base CX0 k f ps sp) (hr : Room (k + 1) X.A) (hm : X.mg x = some (.ref C)) (ha : PA X (e :: es) t) (hg : Gl X x := by rfl) (hdb : (x == ("__debug__" : Str)) = false := by decide)
    (he : starEach (e :: es) X.env = (false, eval e X.env) :: starEach es X.env := by rfl) (hpl : (backTo pos (starEach es X.env)).any (·.1) = false := by rfl) : PE X (.Call (.Name x ppos) (e :: es) [] pos) (tMake C sp [] E0 t) := by
  obtain ⟨fd, F, b, kp, _⟩ := G.ok
  exact pe_make M F hr hg hm b .nil pass0 ha hdb he hpl
theorem pe_gint {i : Int} (h : ∃ t, X.mg x = some (.int i t)) (hg : Gl X x := by rfl) (hd : (x == ("__debug__" : Str)) = false := by decide) : PE X (.Name x pos) (tC (.int i)) := by
  obtain ⟨t, h⟩ := h
  exact pe_glob hg h ⟨t, rfl⟩ hd
theorem pe_gstr {i : Str} (h : ∃ t, X.mg x = some (.str i t)) (hg : Gl X x := by rfl) (hd : (x == ("__debug__" : Str)) = false := by decide) : PE X (.Name x pos) (tC (.str i)) := by
  obtain ⟨t, h⟩ := h
  exact pe_glob hg h ⟨t, rfl⟩ hd
/-- a statement, then the others, by what holds between them -/
def tMid (t u : TS) : TS := fun D σ H => ∃ M : L2.St → Hp → Prop, t { D with nx := M } σ H ∧ ∀ σ1 H1, M σ1 H1 → u D σ1 H1
theorem pss_mid {st : Stmt} {sts : List Stmt} {t u : TS} (a : PS X st t) (b : PSs X sts u) : PSs X (st :: sts) (tMid t u) :=
  ⟨fun pins s σ H D I ⟨M, h1, h2⟩ => wpAny_execs_cons (wpAny_mono (a.run pins s σ H { D with nx := M } I h1) (fun f s1 q => by
    cases f with
    | next => exact let ⟨σ1, H1, I1, q1⟩ := q; b.run pins s1 σ1 H1 D I1 (h2 σ1 H1 q1)
    | ret v => exact q
    | brk => exact q
    | cont => exact q) fun _ _ z => z)⟩
/-- what isinstance leans on, of an own class -/
structure InsF (K : PySem.W.Frag) (C : Addr) : Prop where
  ha : PySem.W.findIn K (.ref C) "__class__" = some (some (.builtin "object.__class__"))
  hn : PySem.W.specialIn K (.builtin "object.__class__") "__get__" = some (some (.builtin "getset_descriptor.__get__"))
  htk : PySem.W.takesIn K (.builtin "object.__class__") = some true
  hm : PySem.W.mroIn K C (.type "object") = some true
def insB (K : PySem.W.Frag) (C : Addr) : Bool := decide (PySem.W.findIn K (.ref C) "__class__" = some (some (.builtin "object.__class__"))) && (decide (PySem.W.specialIn K (.builtin "object.__class__") "__get__" = some (some (.builtin "getset_descriptor.__get__"))) && (decide (PySem.W.takesIn K (.builtin "object.__class__") = some true) && decide (PySem.W.mroIn K C (.type "object") = some true)))
theorem insB_ok {K : PySem.W.Frag} {C : Addr} (h : insB K C = true) : InsF K C := by
  unfold insB at h
  simp only [Bool.and_eq_true, decide_eq_true_eq] at h
  exact ⟨h.1, h.2.1, h.2.2.1, h.2.2.2⟩
theorem InsF.ty {K : PySem.W.Frag} {H : Hp} {a C dx : Addr} {fs : List (Str × V)} (F : InsF K C) (c : Cls K C) (h : H a = some (.ins C dx fs)) : TyX K H (.ref a) (.ref C) := .base (.ins h c F.ha F.hn F.htk F.hm)
theorem kit_self {K : PySem.W.Frag} {C : Addr} : PySem.W.kitOne K (.ref C) (.ref C) = some true := by
  unfold PySem.W.kitOne
  rw [if_pos (by simp)]
theorem kit_refl {K : PySem.W.Frag} {t : Value} (h : (t == t) = true := by rfl) : PySem.W.kitOne K t t = some true := by
  unfold PySem.W.kitOne
  rw [if_pos h]
theorem kit_any_hd {K : PySem.W.Frag} {t : Value} {r : List Value} (h : (t == t) = true := by rfl) : PySem.W.kitAny K t (t :: r) = some true := by
  unfold PySem.W.kitAny
  rw [kit_refl h]
/-- xs == [] and xs != [], whatever stands in xs -/
def rNilE (K : PySem.W.Frag) : R2 := fun x y H Q => ∃ a b xs, x = .ref a ∧ y = .ref b ∧ SqL K H a xs ∧ SqL K H b [] ∧ Q (.bl xs.isEmpty) H
def rNilN (K : PySem.W.Frag) : R2 := fun x y H Q => ∃ a b xs, x = .ref a ∧ y = .ref b ∧ SqL K H a xs ∧ SqL K H b [] ∧ Q (.bl (!xs.isEmpty)) H
theorem op_eqNil (hu : X.A.units + 64 < cLine) : OpR X (compareOp .Eq) (rNilE X.K) := by
  intro pins s σ H x y v u Q I rx ry h
  obtain ⟨a, b, xs, rfl, rfl, ha, hb, q⟩ := h
  cases rx
  cases ry
  obtain ⟨its, r1, t1, z1⟩ := I.list ha
  obtain ⟨its2, r2, t2, z2⟩ := I.list hb
  cases r2
  have hu' : X.A.units < cLine := Nat.lt_of_le_of_lt (Nat.le_add_right _ _) hu
  cases r1 with
  | nil =>
    refine SeqAt.eq_listAt (e := fun _ => true) t1.isList t2.isList rfl hu' (fun j h1 => ?_) ⟨.bl true, H, I, rfl, q⟩
    exact absurd h1 (by simp)
  | cons p r => exact SeqAt.eq_list_lengthsAt t1.isList t2.isList (by simp) hu' ⟨.bl false, H, I, rfl, q⟩
theorem op_neNil (hu : X.A.units + 64 < cLine) : OpR X (compareOp .NotEq) (rNilN X.K) := by
  intro pins s σ H x y v u Q I rx ry h
  obtain ⟨a, b, xs, rfl, rfl, ha, hb, q⟩ := h
  cases rx
  cases ry
  obtain ⟨its, r1, t1, z1⟩ := I.list ha
  obtain ⟨its2, r2, t2, z2⟩ := I.list hb
  cases r2
  have hu' : X.A.units < cLine := Nat.lt_of_le_of_lt (Nat.le_add_right _ _) hu
  cases r1 with
  | nil =>
    refine SeqAt.RcNeAt.lists (e := fun _ => true) t1.isList t2.isList rfl hu' (fun j h1 => ?_) _ _ _ _ ⟨.bl false, H, I, rfl, q⟩
    exact absurd h1 (by simp)
  | cons p r => exact SeqAt.RcNeAt.lists_lengths t1.isList t2.isList (by simp) hu' _ _ _ _ ⟨.bl true, H, I, rfl, q⟩
end
end Nw

namespace Nw
open PySem PySem.Spec PyProof.Rows L2
/-! ### the source of draws: a dict, two lists -/
structure DA where
  d : Addr
  g : Addr
  l : Addr
def TD (D : DA) : Addr → Prop := fun b => b = D.d ∨ b = D.g ∨ b = D.l
abbrev drK (D : DA) (dig tn : Int) : List (Key × V) := [(.inr "digits", .int dig), (.inr "great", .ref D.g), (.inr "lumps", .ref D.l), (.inr "turn", .int tn)]
structure DrS (D : DA) (dig tn : Int) (gs ls : List Int) (I H : Hp) : Prop where
  sub : Same I H
  vd : I D.d = none
  vg : I D.g = none
  vl : I D.l = none
  dg : D.d ≠ D.g
  dl : D.d ≠ D.l
  gl : D.g ≠ D.l
  hd : H D.d = some (.dK (drK D dig tn))
  hg : H D.g = some (.lst (gs.map V.int))
  hl : H D.l = some (.lst (ls.map V.int))
structure Drw (D : DA) (n : Nat) (I H : Hp) : Prop where
  ex : ∃ (dig tn : Int) (gs ls : List Int), DrS D dig tn gs ls I H ∧ 0 ≤ dig ∧ 0 ≤ tn ∧ tn ≤ n ∧ (∀ g ∈ gs, 0 ≤ g) ∧ (∀ l ∈ ls, 0 ≤ l)
section
variable {D : DA} {dig tn : Int} {gs ls : List Int} {n : Nat} {T : Addr → Prop} {I H I' H' I0 H0 : Hp} {p l m : Addr} {o o' : HO}
theorem DrS.live (s : DrS D dig tn gs ls I H) : ∀ b, TD D b → H b ≠ none := fun b t => by
  rcases t with rfl | rfl | rfl
  · rw [s.hd]; exact fun z => nomatch z
  · rw [s.hg]; exact fun z => nomatch z
  · rw [s.hl]; exact fun z => nomatch z
theorem Drw.live (w : Drw D n I H) : ∀ b, TD D b → H b ≠ none := let ⟨_, _, _, _, s, _⟩ := w.ex; s.live
theorem Drw.sub (w : Drw D n I H) : Same I H := let ⟨_, _, _, _, s, _⟩ := w.ex; s.sub
theorem DrS.grow (s : DrS D dig tn gs ls I H) (g : Grow No I H I' H') : DrS D dig tn gs ls I' H' :=
  ⟨g.sub, g.fresh _ s.vd (s.live _ (.inl rfl)), g.fresh _ s.vg (s.live _ (.inr (.inl rfl))), g.fresh _ s.vl (s.live _ (.inr (.inr rfl))), s.dg, s.dl, s.gl, g.keep _ _ (fun z => z) s.hd, g.keep _ _ (fun z => z) s.hg, g.keep _ _ (fun z => z) s.hl⟩
theorem Drw.grow (w : Drw D n I H) (g : Grow No I H I' H') : Drw D n I' H' := let ⟨a, b, c, d, s, r⟩ := w.ex; ⟨a, b, c, d, s.grow g, r⟩
theorem DrS.put (s : DrS D dig tn gs ls I H) (nt : ¬ TD D m) (ni : I m = none) : DrS D dig tn gs ls I (upd H m o) :=
  ⟨fun b u e => by rw [upd_ne (ne_of_none e ni)]; exact s.sub b u e, s.vd, s.vg, s.vl, s.dg, s.dl, s.gl, by rw [upd_ne fun z => nt (.inl z.symm)]; exact s.hd, by rw [upd_ne fun z => nt (.inr (.inl z.symm))]; exact s.hg, by rw [upd_ne fun z => nt (.inr (.inr z.symm))]; exact s.hl⟩
theorem Drw.put (w : Drw D n I H) (x : Own (TD D) H0 m o I H) : Drw D n I (upd H m o') := let ⟨a, b, c, d, s, r⟩ := w.ex; ⟨a, b, c, d, s.put x.nt x.ni, r⟩
theorem Drw.give (w : Drw D n I H) (x : Own (TD D) H0 m o I H) : Drw D n (upd I m o) H := by
  obtain ⟨a, b, c, d, s, r⟩ := w.ex
  refine ⟨a, b, c, d, ⟨fun q u e => ?_, ?_, ?_, ?_, s.dg, s.dl, s.gl, s.hd, s.hg, s.hl⟩, r⟩
  · by_cases z : q = m
    · subst z; rw [upd_same] at e; rw [x.at_]; exact e
    · rw [upd_ne z] at e; exact s.sub q u e
  · rw [upd_ne fun z => x.nt (.inl z.symm)]; exact s.vd
  · rw [upd_ne fun z => x.nt (.inr (.inl z.symm))]; exact s.vg
  · rw [upd_ne fun z => x.nt (.inr (.inr z.symm))]; exact s.vl
theorem Drw.mono {m : Nat} (w : Drw D n I H) (h : n ≤ m) : Drw D m I H := by
  obtain ⟨a, b, c, d, s, h1, h2, h3, h4⟩ := w.ex
  exact ⟨a, b, c, d, s, h1, h2, by omega, h4⟩
theorem DrS.up (s : DrS D dig tn gs ls I H) {d2 t2 : Int} (hH : Same I H') (h1 : H' D.d = some (.dK (drK D d2 t2))) {gs2 : List Int} (h2 : H' D.g = some (.lst (gs2.map V.int))) (h3 : H' D.l = some (.lst (ls.map V.int))) : DrS D d2 t2 gs2 ls I H' :=
  ⟨hH, s.vd, s.vg, s.vl, s.dg, s.dl, s.gl, h1, h2, h3⟩
/-- only the source's own objects change -/
theorem DrS.gd (s : DrS D dig tn gs ls I H) (g : Grow (TD D) I0 H0 I H) : Grow (TD D) I0 H0 I (upd H D.d o) where
  view := g.view
  sub := fun b u e => by rw [upd_ne (ne_of_none e s.vd)]; exact g.sub b u e
  keep := fun b u n e => by rw [upd_ne fun z => n (.inl z)]; exact g.keep b u n e
  live := fun b e => upd_live (g.live b e)
  fresh := g.fresh
  tbl := g.tbl
theorem DrS.gg (s : DrS D dig tn gs ls I H) (g : Grow (TD D) I0 H0 I H) : Grow (TD D) I0 H0 I (upd H D.g o) where
  view := g.view
  sub := fun b u e => by rw [upd_ne (ne_of_none e s.vg)]; exact g.sub b u e
  keep := fun b u n e => by rw [upd_ne fun z => n (.inr (.inl z))]; exact g.keep b u n e
  live := fun b e => upd_live (g.live b e)
  fresh := g.fresh
  tbl := g.tbl
end
theorem putK_new {κ : Type} [DecidableEq κ] {kvs : List (κ × V)} {k : κ} {v : V} (h : k ∉ kvs.map (·.1)) : putK kvs k v = kvs ++ [(k, v)] := by
  unfold putK
  have e : (kvs.any fun kv => decide (kv.1 = k)) = false := by
    rw [List.any_eq_false]
    intro kv hkv z
    exact h (List.mem_map.mpr ⟨kv, hkv, of_decide_eq_true z⟩)
  rw [e, if_neg Bool.false_ne_true]
theorem merge_app : ∀ {more acc : List (Key × V)}, (∀ k ∈ more.map (·.1), k ∉ acc.map (·.1)) → (more.map (·.1)).Nodup → mergeK acc more = acc ++ more
  | [], acc, _, _ => (List.append_nil acc).symm
  | q :: r, acc, h, nd => by
    have h1 : putK acc q.1 q.2 = acc ++ [q] := putK_new (h q.1 (List.mem_cons_self ..))
    have nd' := List.nodup_cons.mp nd
    have ih := merge_app (more := r) (acc := acc ++ [q]) (fun k hk => by
      rw [List.map_append, List.mem_append]
      rintro (z | z)
      · exact h k (List.mem_cons_of_mem _ hk) z
      · simp at z; subst z; exact nd'.1 hk) nd'.2
    show mergeK (putK acc q.1 q.2) r = acc ++ q :: r
    rw [h1, ih, List.append_assoc] <;> rfl
theorem merge_nodup {kvs : List (Key × V)} (h : (kvs.map (·.1)).Nodup) : mergeK [] kvs = kvs := merge_app (fun _ _ z => by cases z) h
theorem k12 : ¬ ((Sum.inr "digits" : Key) = (Sum.inr "great" : Key)) := by decide +kernel
theorem k13 : ¬ ((Sum.inr "digits" : Key) = (Sum.inr "lumps" : Key)) := by decide +kernel
theorem k14 : ¬ ((Sum.inr "digits" : Key) = (Sum.inr "turn" : Key)) := by decide +kernel
theorem k23 : ¬ ((Sum.inr "great" : Key) = (Sum.inr "lumps" : Key)) := by decide +kernel
theorem k24 : ¬ ((Sum.inr "great" : Key) = (Sum.inr "turn" : Key)) := by decide +kernel
theorem k34 : ¬ ((Sum.inr "lumps" : Key) = (Sum.inr "turn" : Key)) := by decide +kernel
variable {D : DA} {dig tn i : Int}
theorem val_dig : valV (drK D dig tn) (Sum.inr "digits") = some (.int dig) := valV_pos rfl
theorem val_great : valV (drK D dig tn) (Sum.inr "great") = some (.ref D.g) := (valV_neg k12).trans (valV_pos rfl)
theorem val_lumps : valV (drK D dig tn) (Sum.inr "lumps") = some (.ref D.l) := (valV_neg k13).trans ((valV_neg k23).trans (valV_pos rfl))
theorem val_turn : valV (drK D dig tn) (Sum.inr "turn") = some (.int tn) := (valV_neg k14).trans ((valV_neg k24).trans ((valV_neg k34).trans (valV_pos rfl)))
theorem put_dig : putK (drK D dig tn) (Sum.inr "digits") (.int i) = drK D i tn := by
  unfold putK
  rw [valV_any, val_dig]
  show (if true = true then _ else _) = _
  rw [if_pos rfl]
  simp only [List.map_cons, List.map_nil]
  rw [if_pos trivial, if_neg (Ne.symm k12), if_neg (Ne.symm k13), if_neg (Ne.symm k14)]
theorem put_turn : putK (drK D dig tn) (Sum.inr "turn") (.int i) = drK D dig i := by
  unfold putK
  rw [valV_any, val_turn]
  show (if true = true then _ else _) = _
  rw [if_pos rfl]
  simp only [List.map_cons, List.map_nil]
  rw [if_neg k14, if_neg k24, if_neg k34, if_pos trivial]
def lim : Nat := 1099511627776
/-- a number below many -/
def spNext : Sp := fun vs H Q _ => ∃ (I : Hp) (D : DA) (n : Nat) (many : Int), vs = [.ref D.d, .int many] ∧ Drw D n I H ∧ 0 < many ∧ many < 1073741824 ∧ n < lim ∧
  ∀ (r : Int) (H' : Hp), 0 ≤ r → r < many → Grow (TD D) I H I H' → Drw D (n + 1) I H' → Q (.int r) H'
theorem DrS.get_dig {gs ls : List Int} {I H : Hp} (s : DrS D dig tn gs ls I H) : DGet H D.d (.str "digits") (some (.int dig)) := by
  have z := DGet.k (k := .inr "digits") s.hd
  rw [val_dig] at z
  exact z
theorem DrS.get_great {gs ls : List Int} {I H : Hp} (s : DrS D dig tn gs ls I H) : DGet H D.d (.str "great") (some (.ref D.g)) := by
  have z := DGet.k (k := .inr "great") s.hd
  rw [val_great] at z
  exact z
theorem DrS.get_lumps {gs ls : List Int} {I H : Hp} (s : DrS D dig tn gs ls I H) : DGet H D.d (.str "lumps") (some (.ref D.l)) := by
  have z := DGet.k (k := .inr "lumps") s.hd
  rw [val_lumps] at z
  exact z
theorem DrS.get_turn {gs ls : List Int} {I H : Hp} (s : DrS D dig tn gs ls I H) : DGet H D.d (.str "turn") (some (.int tn)) := by
  have z := DGet.k (k := .inr "turn") s.hd
  rw [val_turn] at z
  exact z
theorem DrS.put_dig {gs ls : List Int} {I H : Hp} (s : DrS D dig tn gs ls I H) : DPut H D.d (.str "digits") (.int i) (upd H D.d (.dK (drK D i tn))) := by
  have z := DPut.k (k := .inr "digits") (v := .int i) s.hd (by show 4 < sizeLine; decide)
  rw [Nw.put_dig] at z
  exact z
theorem DrS.put_turn {gs ls : List Int} {I H : Hp} (s : DrS D dig tn gs ls I H) : DPut H D.d (.str "turn") (.int i) (upd H D.d (.dK (drK D dig i))) := by
  have z := DPut.k (k := .inr "turn") (v := .int i) s.hd (by show 4 < sizeLine; decide)
  rw [Nw.put_turn] at z
  exact z
end Nw

namespace Nw
open PySem PySem.Spec PyProof.Rows L2
/-- what is said of the heap stands through the making and changing of other things -/
structure Stable (T : Addr → Prop) (R : Hp → Hp → Prop) : Prop where
  grow : ∀ {I H I' H' : Hp}, R I H → Grow No I H I' H' → R I' H'
  put : ∀ {H0 : Hp} {m : Addr} {o o' : HO} {I H : Hp}, R I H → Own T H0 m o I H → R I (upd H m o')
  give : ∀ {H0 : Hp} {m : Addr} {o : HO} {I H : Hp}, R I H → Own T H0 m o I H → R (upd I m o) H
theorem Stable.triv {T : Addr → Prop} : Stable T fun _ _ => True := ⟨fun _ _ => trivial, fun _ _ => trivial, fun _ _ => trivial⟩
theorem Stable.drw {D : DA} {n : Nat} : Stable (TD D) (Drw D n) := ⟨fun w g => w.grow g, fun w x => w.put x, fun w x => w.give x⟩
theorem Paired.snoc {α β : Type} {F : α → β → Prop} : ∀ {xs : List α} {ys : List β} {x : α} {y : β}, Paired F xs ys → F x y → Paired F (xs ++ [x]) (ys ++ [y])
  | _, _, _, _, .nil, h => .cons h .nil
  | _, _, _, _, .cons a t, h => .cons a (Paired.snoc t h)
theorem Paired.at {α β : Type} {F : α → β → Prop} : ∀ {xs : List α} {ys : List β} {i : Nat} {y : β}, Paired F xs ys → ys[i]? = some y → ∃ x, xs[i]? = some x ∧ F x y
  | _, _, _, _, .nil, h => by simp at h
  | _, _, 0, _, .cons a t, h => by simp at h; subst h; exact ⟨_, rfl, a⟩
  | _, _, i + 1, _, .cons a t, h => by
    obtain ⟨x, h1, h2⟩ := Paired.at (i := i) t (by simpa using h)
    exact ⟨x, by simpa using h1, h2⟩
theorem Paired.at' {α β : Type} {F : α → β → Prop} : ∀ {xs : List α} {ys : List β} {i : Nat} {x : α}, Paired F xs ys → xs[i]? = some x → ∃ y, ys[i]? = some y ∧ F x y
  | _, _, _, _, .nil, h => by simp at h
  | _, _, 0, _, .cons a t, h => by simp at h; subst h; exact ⟨_, rfl, a⟩
  | _, _, i + 1, _, .cons a t, h => by
    obtain ⟨x, h1, h2⟩ := Paired.at' (i := i) t (by simpa using h)
    exact ⟨x, by simpa using h1, h2⟩
theorem Paired.len {α β : Type} {F : α → β → Prop} : ∀ {xs : List α} {ys : List β}, Paired F xs ys → xs.length = ys.length
  | _, _, .nil => rfl
  | _, _, .cons a t => congrArg (· + 1) (Paired.len t)
theorem lc_yes {te : TE} {σ : L2.St} {H : Hp} {Ky : VK} {Kn : Hp → Prop} (h : te σ H Ky) : tYes σ H (fun b H3 => if b = true then te σ H3 Ky else Kn H3) := by
  show (if true = true then te σ H Ky else Kn H)
  rw [if_pos rfl]
  exact h
section
variable {β : Type} [Rep β] {J : It} {n : Nat} {G : Hp → Prop} {Y : Nat → Hp → V → Hp → Prop} {T : Addr → Prop} {I H1 : Hp} {L : Addr} {g : TG} {tt : TT} {te : TE} {vs : List Nat} {σ : L2.St} {Qd : Hp → Prop}
/-- a comprehension over anything that is walked -/
theorem lc_gen (w : Walk J n G Y) (R : Nat → Hp → Hp → Prop) (hR : ∀ i, Stable T (R i)) (sub : Same I H1) (hT : ∀ b, T b → H1 b ≠ none) (hL : H1 L = none) (r0 : R 0 I H1) (hn : n ≤ 16777216)
    (hG : ∀ i I' H', Grow T I H1 I' H' → R i I' H' → G H') (P : Nat → Option β → Prop)
    (step : ∀ i x I' H' H'', i < n → Grow T I H1 I' H' → R i I' H' → Y i H' x H'' → ∀ (Kn : Hp → Prop) (Ky : V → Hp → Prop), (P i none → ∀ I2 H2, Grow T I' H' I2 H2 → R (i + 1) I2 H2 → Kn H2) →
      (∀ y, P i (some y) → ∀ v I2 H2, Grow T I' H' I2 H2 → R (i + 1) I2 H2 → Rep.is I2 v y → Ky v H2) →
      g x (wipe σ vs) H'' fun σ2 H2 => wipe σ2 vs = wipe σ vs ∧ tt σ2 H2 fun b H3 => if b = true then te σ2 H3 Ky else Kn H3)
    (done : ∀ (os : List (Option β)) I' H' vs', os.length = n → (∀ i o, os[i]? = some o → P i o) → Grow T I H1 I' H' → R n I' H' → Own T H1 L (.lst vs') I' H' → Paired (Rep.is I') vs' (os.filterMap id) → Qd H') :
    ∃ W : Nat → Nat → Hp → Prop, (∃ m, W 0 m (upd H1 L (.lst []))) ∧ ∀ i m H, W i m H →
      (J.stop i H ∧ Qd H) ∨ (J.go i H ∧ ∃ Nx : Hp → Prop, (∀ H', Nx H' → ∃ m', m' < m ∧ W (i + 1) m' H') ∧ ∀ x H', J.yld i H x H' → g x (wipe σ vs) H' fun σ2 H2 => wipe σ2 vs = wipe σ vs ∧ tt σ2 H2 fun b H3 =>
        if b = true then te σ2 H3 fun y H4 => ∃ acc, H4 L = some (.lst acc) ∧ acc.length < sizeLine ∧ Nx (upd H4 L (.lst (acc ++ [y]))) else Nx H3) := by
  refine lc_it w (fun i H => i ≤ n ∧ ∃ I' acc, ∃ os : List (Option β), Grow T I H1 I' H ∧ R i I' H ∧ Own T H1 L (.lst acc) I' H ∧ os.length = i ∧ acc.length ≤ i ∧ (∀ j o, os[j]? = some o → P j o) ∧ Paired (Rep.is I') acc (os.filterMap id))
    ⟨Nat.zero_le _, I, [], [], Grow.mine sub hL, (hR 0).grow r0 (Grow.mine sub hL), Own.new sub (.inl (Same.refl H1)) hT hL, rfl, Nat.le_refl _, fun j o e => by simp at e, .nil⟩ (fun i H _ ⟨_, I', _, _, g1, r1, _⟩ => hG i I' H g1 r1) ?_ ?_
  · rintro i x H H' hi ⟨_, I', acc, os, g1, r1, ow, hl, ha, hP, hp⟩ y
    have hz : acc.length < sizeLine := by rw [sizeLine_eq]; omega
    refine step i x I' H H' hi g1 r1 y (fun H3 => i + 1 ≤ n ∧ ∃ I' acc, ∃ os : List (Option β), Grow T I H1 I' H3 ∧ R (i + 1) I' H3 ∧ Own T H1 L (.lst acc) I' H3 ∧ os.length = i + 1 ∧ acc.length ≤ i + 1 ∧ (∀ j o, os[j]? = some o → P j o) ∧ Paired (Rep.is I') acc (os.filterMap id)) _ (fun h0 I2 H2 g2 r2 => ?_) (fun z hz2 v I2 H2 g2 r2 hv => ?_)
    · refine ⟨hi, I2, acc, os ++ [none], g1.trans g2, r2, ow.grow g2, by simp [hl], by omega, fun j o e => ?_, ?_⟩
      · rw [List.getElem?_append] at e
        split at e
        · exact hP j o e
        · rename_i hj
          cases q : j - os.length with
          | zero =>
            rw [q] at e
            simp at e; subst e
            have : j = i := by omega
            rw [this]; exact h0
          | succ k => rw [q] at e; simp at e
      · rw [List.filterMap_append]
        simp only [List.filterMap_cons, List.filterMap_nil, id, List.append_nil]
        exact Paired.mono' (fun _ _ z => Rep.mono g2.view z) hp
    · have ow2 := ow.grow g2
      refine ⟨acc, ow2.at_, hz, hi, I2, acc ++ [v], os ++ [some z], (g1.trans g2).put ow2, (hR _).put r2 ow2, ow2.put, by simp [hl], by simp; omega, fun j o e => ?_, ?_⟩
      · rw [List.getElem?_append] at e
        split at e
        · exact hP j o e
        · rename_i hj
          cases q : j - os.length with
          | zero =>
            rw [q] at e
            simp at e; subst e
            have : j = i := by omega
            rw [this]; exact hz2
          | succ k => rw [q] at e; simp at e
      · rw [List.filterMap_append]
        exact Paired.snoc (Paired.mono' (fun _ _ z => Rep.mono g2.view z) hp) hv
  · rintro H ⟨_, I', acc, os, g1, r1, ow, hl, ha, hP, hp⟩
    exact done os I' H acc hl hP g1 r1 ow hp
end
theorem os_eq {α β : Type} {f : α → β} : ∀ {xs : List α} {os : List β}, os.length = xs.length → (∀ (i : Nat) (o : β), os[i]? = some o → ∃ x, xs[i]? = some x ∧ o = f x) → os = xs.map f
  | [], [], _, _ => rfl
  | [], _ :: _, h, _ => by simp at h
  | _ :: _, [], h, _ => by simp at h
  | x :: xs, o :: os, h, hP => by
    obtain ⟨z, h1, h2⟩ := hP 0 o rfl
    simp at h1
    subst h1
    rw [List.map_cons, h2, os_eq (f := f) (xs := xs) (os := os) (by simpa using h) fun i o' e => hP (i + 1) o' (by simpa using e)]
theorem fm_id {α β : Type} {f : α → Option β} (xs : List α) : (xs.map f).filterMap id = xs.filterMap f := by
  rw [List.filterMap_map]
  rfl
theorem Paired.ints {I : Hp} : ∀ {vs : List V} {ns : List Int}, Paired (Rep.is I) vs ns → vs = ns.map V.int
  | _, _, .nil => rfl
  | _, _, .cons h t => by
    have e : _ = V.int _ := h
    rw [List.map_cons, e, Paired.ints t]
theorem Paired.bls {I : Hp} : ∀ {vs : List V} {ns : List Bool}, Paired (Rep.is I) vs ns → vs = ns.map V.bl
  | _, _, .nil => rfl
  | _, _, .cons h t => by
    have e : _ = V.bl _ := h
    rw [List.map_cons, e, Paired.bls t]
theorem Paired.strs {I : Hp} : ∀ {vs : List V} {ns : List Str}, Paired (Rep.is I) vs ns → vs = ns.map V.str
  | _, _, .nil => rfl
  | _, _, .cons h t => by
    have e : _ = V.str _ := h
    rw [List.map_cons, e, Paired.strs t]
section
variable {α β : Type} [Rep β] {J : It} {n : Nat} {G : Hp → Prop} {Y : Nat → Hp → V → Hp → Prop} {I H1 : Hp} {L : Addr} {g : TG} {tt : TT} {te : TE} {vs : List Nat} {σ : L2.St} {Qd : Hp → Prop}
/-- a comprehension that only makes: its list is xs.filterMap f -/
theorem lc_pure (w : Walk J n G Y) (xs : List α) (f : α → Option β) (hx : xs.length = n) (sub : Same I H1) (hL : H1 L = none) (hn : n ≤ 16777216) (hG : ∀ I' H', Grow No I H1 I' H' → G H')
    (step : ∀ i x v I' H' H'', xs[i]? = some x → Grow No I H1 I' H' → Y i H' v H'' → ∀ (Kn : Hp → Prop) (Ky : V → Hp → Prop), (f x = none → ∀ I2 H2, Grow No I' H' I2 H2 → Kn H2) →
      (∀ y, f x = some y → ∀ v I2 H2, Grow No I' H' I2 H2 → Rep.is I2 v y → Ky v H2) →
      g v (wipe σ vs) H'' fun σ2 H2 => wipe σ2 vs = wipe σ vs ∧ tt σ2 H2 fun b H3 => if b = true then te σ2 H3 Ky else Kn H3)
    (done : ∀ I' H' vs', Grow No I H1 I' H' → Own No H1 L (.lst vs') I' H' → Paired (Rep.is I') vs' (xs.filterMap f) → Qd H') :
    ∃ W : Nat → Nat → Hp → Prop, (∃ m, W 0 m (upd H1 L (.lst []))) ∧ ∀ i m H, W i m H →
      (J.stop i H ∧ Qd H) ∨ (J.go i H ∧ ∃ Nx : Hp → Prop, (∀ H', Nx H' → ∃ m', m' < m ∧ W (i + 1) m' H') ∧ ∀ x H', J.yld i H x H' → g x (wipe σ vs) H' fun σ2 H2 => wipe σ2 vs = wipe σ vs ∧ tt σ2 H2 fun b H3 =>
        if b = true then te σ2 H3 fun y H4 => ∃ acc, H4 L = some (.lst acc) ∧ acc.length < sizeLine ∧ Nx (upd H4 L (.lst (acc ++ [y]))) else Nx H3) := by
  refine lc_gen (T := No) w (fun _ _ _ => True) (fun _ => Stable.triv) sub (fun _ z => z.elim) hL trivial hn (fun _ I' H' g _ => hG I' H' g) (fun i o => ∃ x, xs[i]? = some x ∧ o = f x) ?_ ?_
  · intro i v I' H' H'' hi g1 _ y Kn Ky kn ky
    have hi' : i < xs.length := by omega
    have hx' : xs[i]? = some xs[i] := List.getElem?_eq_getElem hi'
    exact step i _ v I' H' H'' hx' g1 y Kn Ky (fun e I2 H2 g2 => kn ⟨_, hx', e.symm⟩ I2 H2 g2 trivial) fun z e v I2 H2 g2 r => ky z ⟨_, hx', e.symm⟩ v I2 H2 g2 trivial r
  · intro os I' H' vs' hl hP g1 _ ow hp
    have e : os.filterMap id = xs.filterMap f := by
      rw [os_eq (f := f) (by omega) hP, fm_id]
    rw [e] at hp
    exact done I' H' vs' g1 ow hp
end
theorem sum_ones {α : Type} : ∀ l : List α, (l.map (fun _ => 1)).sum = l.length
  | [] => rfl
  | x :: r => by
    rw [List.map_cons, List.sum_cons, sum_ones r, List.length_cons]
    omega
theorem fm_some {α β : Type} {f : α → β} (xs : List α) : xs.filterMap (fun x => some (f x)) = xs.map f := by
  induction xs with
  | nil => rfl
  | cons x r ih => rw [List.filterMap_cons, List.map_cons, ih]
theorem take_fold {α β : Type} {f : β → α → β} {b : β} {l : List α} {i : Nat} {x : α} (h : l[i]? = some x) : (l.take (i + 1)).foldl f b = f ((l.take i).foldl f b) x := by
  rw [List.take_add_one, h, List.foldl_append]
  rfl
theorem mem_take {α : Type} {l : List α} {i : Nat} {r : α} (h : l[i]? = some r) {x : α} : x ∈ l.take (i + 1) ↔ x ∈ l.take i ∨ x = r := by
  rw [List.take_add_one, h, List.mem_append]
  simp
end Nw

namespace Nw
open PySem PySem.Spec PyProof.Rows L2
/-! ### texts as lists of signs -/
def mk (l : List Nat) : Str := ⟨l.toArray⟩
abbrev sg (c : Nat) : Str := ⟨#[c]⟩
theorem mk_sg (c : Nat) : mk [c] = sg c := rfl
theorem mk_list (s : Str) : mk s.cps.toList = s := rfl
theorem mk_app (a b : List Nat) : mk a ++ mk b = mk (a ++ b) := by
  show (⟨a.toArray ++ b.toArray⟩ : Str) = ⟨(a ++ b).toArray⟩
  simp
theorem mk_inj {a b : List Nat} (h : mk a = mk b) : a = b := by
  have z := congrArg (fun s : Str => s.cps.toList) h
  simpa [mk] using z
theorem mk_len (a : List Nat) : (mk a).length = a.length := by simp [mk, Str.length]
theorem mk_cps (a : List Nat) : (mk a).cps.toList = a := by simp [mk]
theorem mk_nil : mk [] = ("" : Str) := rfl
theorem join_signs : ∀ cs : List Nat, Txt.join ("" : Str) (cs.map sg) = mk cs := by
  intro cs
  unfold Txt.join
  rw [StrLaws.glued_eq_join]
  induction cs with
  | nil => rfl
  | cons c r ih =>
    cases r with
    | nil => rfl
    | cons d t =>
      show sg c ++ ("" : Str) ++ Str.join ("" : Str) ((d :: t).map sg) = mk (c :: d :: t)
      rw [ih]
      rw [← mk_nil, ← mk_sg, mk_app, mk_app] <;> rfl
theorem upper_sg {c : Nat} (h : c < 128) : Txt.upper (sg c) = sg (up1 c) := by
  rw [upper_ascii (by intro d hd; simp at hd; omega)]
  simp [sg]
theorem lower_sg {c : Nat} (h : c < 128) : Txt.lower (sg c) = sg (lo1 c) := by
  rw [lower_ascii (by intro d hd; simp at hd; omega)]
  simp [sg]
theorem upper_mk {l : List Nat} (h : ∀ c ∈ l, c < 128) : Txt.upper (mk l) = mk (l.map up1) := by
  rw [upper_ascii (by rw [mk_cps]; exact h)]
  simp [mk]
/-! ### z[::-1] -/
def tRevS (te : TE) : TE := fun σ H Q => te σ H fun x H1 => ∃ l : List Nat, x = .str (mk l) ∧ l.length ≤ 16777216 ∧ Q (.str (mk l.reverse)) H1
theorem rev_pick (z : Str) : (Builtin.Str.strSliceIndices none none (-1) z.length).filterMap (z.cps[·]?) = z.cps.toList.reverse := by
  have e : Builtin.Str.strSliceIndices none none (-1) z.length = (List.range z.cps.size).reverse := by
    unfold Builtin.Str.strSliceIndices
    show sliceRange ((z.cps.size : Int) - 1) (-1) (-1) = _
    rw [PySem.W.krv_sliceRange, PySem.W.krv_range]
  rw [e, List.filterMap_reverse, PySem.W.krv_all]
theorem pe_revS {X : Cx} {e : Expr} {te : TE} {k : Nat} {p1 p2 p3 pos : Pos} (he : PE X e te) : PE X (.Subscript e (.Slice none none (some (.UnaryOp .USub (.Constant (.int 1) k p1) p2)) p3) pos) (tRevS te) := by
  refine ⟨fun pins s σ H Q I h => Subscript_ (wpAny_mono (he.run pins s σ H _ I h) (fun v s1 hv => ?_) fun _ _ z => z)⟩
  obtain ⟨x, H1, I1, r1, l, ex, hz, q⟩ := hv
  subst ex
  obtain ⟨t, rfl⟩ := r1
  have hst : PO X (some (.UnaryOp .USub (.Constant (.int 1) k p1) p2)) (tPart (tUn (rU fun i => .int (-i)) (tC (.int 1)))) := po_some (pe_un un_neg pe_int)
  refine wpAny_Slice (wpAny_mono (po_none.run pins s1 σ H1 (fun o H2 => o = none ∧ H2 = H1) I1 ⟨rfl, rfl⟩) (fun vl s2 h2 => ?_) fun _ _ z => z)
  obtain ⟨lo, H2, I2, pl, el, e2⟩ := h2
  subst el e2
  refine wpAny_mono (po_none.run pins s2 σ H2 (fun o H3 => o = none ∧ H3 = H2) I2 ⟨rfl, rfl⟩) (fun vu s3 h3 => ?_) fun _ _ z => z
  obtain ⟨hi, H3, I3, pu, eu, e3⟩ := h3
  subst eu e3
  refine wpAny_mono (hst.run pins s3 σ H3 (fun o H4 => o = some (-1) ∧ H4 = H3) I3 ⟨1, rfl, -1, rfl, rfl, rfl⟩) (fun vs s4 h4 => ?_) fun _ _ z => z
  obtain ⟨o, H4, I4, ps, eo, e4⟩ := h4
  subst eo e4
  obtain ⟨l1, rfl, e1⟩ := IsPart.raw pl
  obtain ⟨u1, rfl, e2⟩ := IsPart.raw pu
  obtain ⟨t1, rfl, e3⟩ := IsPart.raw ps
  have I5 : Inv X pins σ H4 { s4 with heap := s4.heap.push { cls := .type "slice", data := .fields #[partValue l1, partValue u1, partValue t1] } } := I4.kept (t' := s4.toks) fun b ob q => Heap.get?_push_of_some _ q
  refine tail_any (ops := [.ref s4.heap.objs.size, .str (mk l) t]) (typeIs_str _ _ _) PySem.F.slot_str_getitem.lookup ?_ (by with_unfolding_all rfl)
  refine wpAny_getItem_str_slice (l := l1) (u := u1) (st := t1) ⟨_, Heap.get?_push_size _ rfl, rfl, rfl⟩ (by rw [e3]; rfl) ?_
  unfold sliceMade slicePicked
  rw [e3, e1, e2]
  rw [if_neg (by intro z; exact Bool.noConfusion z)]
  show Made.post (Made.str ⟨((Builtin.Str.strSliceIndices none none (-1) (mk l).length).filterMap ((mk l).cps[·]?)).toArray⟩) (EP X pins σ Q) _
  rw [rev_pick, mk_cps]
  refine ⟨?_, .str (mk l.reverse), H4, I5.tok _, ⟨_, rfl⟩, q⟩
  show (mk l.reverse).length ≤ sizeLine
  rw [mk_len, List.length_reverse, sizeLine_eq]
  exact hz
end Nw

namespace Nw
open PySem PySem.Spec PyProof.Rows L2
theorem atI_rev {α : Type} (st : List α) (j : Nat) (i : Int) (hi : i = -(j : Int) - 1) : atI st.reverse i = st[j]? := by
  subst hi
  unfold atI ixN
  rw [if_neg (by omega), List.length_reverse]
  by_cases h : j < st.length
  · rw [if_pos (by omega)]
    have e : (-(j : Int) - 1 + (st.length : Int)).toNat = st.length - 1 - j := by omega
    rw [e]
    show st.reverse[st.length - 1 - j]? = st[j]?
    rw [List.getElem?_reverse (by omega)]
    congr 1
    omega
  · rw [if_neg (by omega), List.getElem?_eq_none (by omega)]
    rfl
theorem atI_nat' {α : Type} {xs : List α} {j : Nat} {i : Int} (hi : i = (j : Int)) : atI xs i = xs[j]? := by
  subst hi
  unfold atI ixN
  rw [if_pos (by omega)]
  by_cases h : j < xs.length
  · rw [if_pos (by omega)]
    rfl
  · rw [if_neg (by omega), List.getElem?_eq_none (by omega)]
    rfl
theorem cut_rev2 (st : List V) (h : 2 ≤ st.length) : cutV st.reverse none (some (-2)) = (st.drop 2).reverse := by
  unfold cutV
  have e1 : HT.sIx st.reverse.length st.reverse.length (some (-2)) = ((-2 : Int) + (st.reverse.length : Int)).toNat := by
    show (if (-2 : Int) < 0 then ((-2 : Int) + (st.reverse.length : Int)).toNat else min (-2 : Int).toNat st.reverse.length) = _
    rw [if_pos (by decide)]
  have e2 : HT.sIx st.reverse.length 0 none = 0 := rfl
  rw [e1, e2, List.drop_zero, List.length_reverse, Nat.sub_zero]
  have e : ((-2 : Int) + (st.length : Int)).toNat = st.length - 2 := by omega
  rw [e, List.take_reverse]
  congr 1
  congr 1
  omega
/-- a dict comprehension over anything that is walked -/
theorem dc_it {J : It} {n : Nat} {G : Hp → Prop} {Y : Nat → Hp → V → Hp → Prop} (w : Walk J n G Y) {g : TG} {tt : TT} {tk tv : TE} {vs : List Nat} {σ : L2.St} {H1 : Hp} {D : Addr} {Qd : Hp → Prop} (Pv : Nat → Hp → Prop) (h0 : Pv 0 (upd H1 D (.dK []))) (hG : ∀ i H, i ≤ n → Pv i H → G H)
    (hs : ∀ i x H H', i < n → Pv i H → Y i H x H' → g x (wipe σ vs) H' fun σ2 H2 => wipe σ2 vs = wipe σ vs ∧ tt σ2 H2 fun b H3 =>
      if b = true then tk σ2 H3 fun y H4 => tv σ2 H4 fun z H5 => ∃ kvs k, y = kV k ∧ H5 D = some (.dK kvs) ∧ kvs.length < sizeLine ∧ Pv (i + 1) (upd H5 D (.dK (putK kvs k z))) else Pv (i + 1) H3) (hd : ∀ H, Pv n H → Qd H) :
    ∃ W : Nat → Nat → Hp → Prop, (∃ m, W 0 m (upd H1 D (.dK []))) ∧ ∀ i m H, W i m H →
      (J.stop i H ∧ Qd H) ∨ (J.go i H ∧ ∃ Nx : Hp → Prop, (∀ H', Nx H' → ∃ m', m' < m ∧ W (i + 1) m' H') ∧ ∀ x H', J.yld i H x H' → g x (wipe σ vs) H' fun σ2 H2 => wipe σ2 vs = wipe σ vs ∧ tt σ2 H2 fun b H3 =>
        if b = true then tk σ2 H3 fun y H4 => tv σ2 H4 fun z H5 => ∃ kvs k, y = kV k ∧ H5 D = some (.dK kvs) ∧ kvs.length < sizeLine ∧ Nx (upd H5 D (.dK (putK kvs k z))) else Nx H3) := by
  refine ⟨fun i m H => m = n - i ∧ i ≤ n ∧ Pv i H, ⟨n, (Nat.sub_zero n).symm, Nat.zero_le n, h0⟩, ?_⟩
  rintro i m H ⟨em, hi, p⟩
  have q := hG i H hi p
  rcases Nat.lt_or_ge i n with hlt | hge
  · refine .inr ⟨w.goes i H hlt q, Pv (i + 1), fun H' p' => ⟨n - (i + 1), by omega, rfl, hlt, p'⟩, fun x H' y => ?_⟩
    exact hs i x H H' hlt p (w.yields i H x H' hlt q y)
  · have e : i = n := by omega
    subst e
    exact .inl ⟨w.stops H q, hd H p⟩
/-- d == {} -/
def rDNilE : R2 := fun x y H Q => ∃ a b ks, x = .ref a ∧ y = .ref b ∧ H a = some (.dK ks) ∧ H b = some (.dK []) ∧ Q (.bl ks.isEmpty) H
theorem op_eqDNil {X : Cx} (hu : X.A.units + 64 < cLine) : OpR X (compareOp .Eq) rDNilE := by
  intro pins s σ H x y v u Q I rx ry h
  obtain ⟨a, b, ks, rfl, rfl, ea, eb, q⟩ := h
  obtain rfl : v = Value.ref a := rx
  obtain rfl : u = Value.ref b := ry
  obtain ⟨_, ya, va, ra, da⟩ := (show ObjOk X.prog X.w H s.heap a (.dK ks) from I.hok a _ ea)
  obtain ⟨_, yb, vb, rb, db⟩ := (show ObjOk X.prog X.w H s.heap b (.dK []) from I.hok b _ eb)
  cases rb
  have hu' : X.A.units < cLine := Nat.lt_of_le_of_lt (Nat.le_add_right _ _) hu
  refine PySem.W.keq_eq (knd := mixKind X.prog X.w) (r := true) ya yb da db hu' (fun e => ?_) (fin_bl I q ?_)
  · cases ra with
    | nil => exact .nil
    | cons p t => cases e
  · cases ra with
    | nil => rfl
    | cons p t => rfl
end Nw

namespace Nw
open PySem PySem.Spec PyProof.Rows L2
variable {X : Cx}
theorem pe_gref {x : Str} {pos : Pos} {f : Addr} (h : X.mg x = some (.ref f)) (hg : Gl X x := by rfl) (hd : (x == ("__debug__" : Str)) = false := by decide) : PE X (.Name x pos) (tC (.ref f)) := pe_glob hg h rfl hd
/-! the rules that name the written part, for a comprehension's block -/
section
variable {K : PySem.W.Frag} (h : X.K = K)
include h
theorem call_isiK : CallR X (.builtin "isinstance") (rIsi K) := h ▸ call_isi
theorem ix_listK : IxR X (rIxL K) := h ▸ ix_list
theorem ix_tupK : IxR X (rIxT K) := h ▸ ix_tup
theorem op_in_seqK : OpR X (compareOp .In) (rIn K false) := h ▸ op_in_seq
theorem op_notIn_seqK : OpR X (compareOp .NotIn) (rIn K true) := h ▸ op_notIn_seq
theorem cr_allK (hc : X.calm = true) : CallR X (.builtin "all") (rAll K) := h ▸ cr_all hc
theorem cr_anyK (hc : X.calm = true) : CallR X (.builtin "any") (rAny K) := h ▸ cr_any hc
theorem call_len_seqK : CallR X (.builtin "len") (fun xs H Q => ∃ p ys, xs = [.ref p] ∧ (SqL K H p ys ∨ SqT K H p ys) ∧ Q (.int ys.length) H) := h ▸ call_len_seq
theorem pe_fldK {e : Expr} {f : Str} {pos : Pos} {ta : TE} (he : PE X e ta) (hb : attributeBase e f X.env (eval e X.env) = eval e X.env) : PE X (.Attribute e f pos) (tFld K ta f) := h ▸ pe_fld he hb
end
/-- list(text): its signs -/
theorem call_list_sg (hc : X.calm = true) : CallR X (.type "list") (fun xs H Q => ∃ l : List Nat, xs = [.str (mk l)] ∧ l.length ≤ 16777216 ∧ ∀ p, H p = none → Q (.ref p) (upd H p (.lst (l.map fun c => V.str (sg c))))) := by
  intro pins s σ H xs us Q I r h
  obtain ⟨l, rfl, hz, q⟩ := h
  obtain ⟨u, rfl, t, rfl⟩ := vals1 r
  have hsz : (mk l).cps.size = l.length := by simp [mk]
  refine PySem.call_list_str (I.ok.hd hc) (mk l) t (fun h' tk acc' c' hkeep hS hacc => ?_) (by rw [hsz, sizeLine_eq]; exact hz)
  refine ⟨.ref s.heap.objs.size, upd H s.heap.objs.size (.lst (l.map fun c => V.str (sg c))), I.laid hkeep (Nat.le_refl _) ⟨?_, acc'.toList, c', ?_, ?_⟩, rfl, q _ (I.hok.fresh (Nat.le_refl _))⟩
  · rw [List.length_map, sizeLine_eq]; exact hz
  · have h0 : acc'.size = l.length := hacc.1.trans hsz
    refine vals_of_at (by rw [List.length_map]; exact h0.symm.trans (Array.length_toList (xs := acc')).symm) fun j x w h1 h2 => ?_
    have h3 := hacc.2 j w (by rw [← Array.getElem?_toList]; exact h2)
    obtain ⟨c, t', e1, rfl⟩ := h3
    have e2 : l[j]? = some c := by simpa [mk] using e1
    have e3 : x = .str (sg c) := by
      have z : (l.map fun c => V.str (sg c))[j]? = some (.str (sg c)) := by rw [List.getElem?_map, e2]; rfl
      rw [z] at h1
      cases h1
      rfl
    rw [e3]
    exact ⟨t', rfl⟩
  · simpa using hS
end Nw

namespace Nw
open PySem PySem.Spec PyProof.Rows L2
/-! ### an object that is made, then given out -/
section
variable {D : DA} {n : Nat} {T T' : Addr → Prop} {I H I' H' I0 H0 I3 H3 : Hp} {x dx : Addr} {o o1 o2 : HO}
theorem DrS.growT {dig tn : Int} {gs ls : List Int} (s : DrS D dig tn gs ls I H) (g : Grow T I H I' H') (h : ∀ b, TD D b → ¬ T b) : DrS D dig tn gs ls I' H' :=
  ⟨g.sub, g.fresh _ s.vd (s.live _ (.inl rfl)), g.fresh _ s.vg (s.live _ (.inr (.inl rfl))), g.fresh _ s.vl (s.live _ (.inr (.inr rfl))), s.dg, s.dl, s.gl, g.keep _ _ (h _ (.inl rfl)) s.hd, g.keep _ _ (h _ (.inr (.inl rfl))) s.hg, g.keep _ _ (h _ (.inr (.inr rfl))) s.hl⟩
theorem Drw.growT (w : Drw D n I H) (g : Grow T I H I' H') (h : ∀ b, TD D b → ¬ T b) : Drw D n I' H' := let ⟨a, b, c, d, s, r⟩ := w.ex; ⟨a, b, c, d, s.growT g h, r⟩
theorem Drw.view (w : Drw D n I H) (nt : ¬ TD D x) (h : H x = some o) : Drw D n (upd I x o) H := by
  obtain ⟨a, b, c, d, s, r⟩ := w.ex
  refine ⟨a, b, c, d, ⟨fun q u e => ?_, ?_, ?_, ?_, s.dg, s.dl, s.gl, s.hd, s.hg, s.hl⟩, r⟩
  · by_cases z : q = x
    · subst z; rw [upd_same] at e; rw [h]; exact e
    · rw [upd_ne z] at e; exact s.sub q u e
  · rw [upd_ne fun z => nt (.inl z.symm)]; exact s.vd
  · rw [upd_ne fun z => nt (.inr (.inl z.symm))]; exact s.vg
  · rw [upd_ne fun z => nt (.inr (.inr z.symm))]; exact s.vl
theorem Drw.chg (w : Drw D n I H) (nt : ¬ TD D x) (ni : I x = none) : Drw D n I (upd H x o) := let ⟨a, b, c, d, s, r⟩ := w.ex; ⟨a, b, c, d, s.put nt ni, r⟩
theorem Drw.mine (w : Drw D n I H) (h : H x = none) : Drw D n I (upd H x o) := w.grow (Grow.mine w.sub h)
theorem Drw.not (w : Drw D n I H) (h : H x = none) : ¬ TD D x := fun t => w.live x t h
theorem grow_made (sb : Same I H) (hx : H x = none) (hdx : H dx = none) (ne : dx ≠ x) : Grow T I H I (upd (upd H dx o1) x o2) :=
  (Grow.mine sb hdx).trans (Grow.mine (Grow.mine (T := T) (o := o1) sb hdx).sub (by rw [upd_ne ne.symm]; exact hx))
theorem live_none {T : Addr → Prop} (g : Grow T I0 H0 I H) (h : H x = none) : H0 x = none := by
  cases e : H0 x with
  | none => rfl
  | some u => exact absurd h (g.live x (by rw [e]; exact fun z => nomatch z))
/-- what C(..) does, seen from H0 -/
theorem Grow.make (g : Grow T I0 H0 I H) (hx : H x = none) (hdx : H dx = none) (ne : dx ≠ x) (g3 : Grow T' I (upd (upd H dx o1) x o2) I3 H3) (hT : ∀ b, T' b → T b ∨ H0 b = none) (h : H3 x = some o) (nt : NTb o := by intro _ z; cases z) : Grow T I0 H0 (upd I3 x o) H3 ∧ I3 x = none := by
  have gm : Grow T I0 H0 I (upd (upd H dx o1) x o2) := g.trans (grow_made g.sub hx hdx ne)
  have gd := gm.drop g3 hT
  have n3 : I3 x = none := g3.fresh x (g.sub.free hx) (by rw [upd_same]; exact fun z => nomatch z)
  exact ⟨gd.give' (live_none g hx) n3 h nt, n3⟩
theorem Drw.make (w : Drw D n I H) (hx : H x = none) (hdx : H dx = none) (ne : dx ≠ x) (g3 : Grow T' I (upd (upd H dx o1) x o2) I3 H3) (hT : ∀ b, TD D b → ¬ T' b) (h : H3 x = some o) : Drw D n (upd I3 x o) H3 :=
  (((w.mine hdx).mine (by rw [upd_ne ne.symm]; exact hx)).growT g3 hT).view (w.not hx) h
end
/-- a def that is asked by its own data -/
theorem okd_of {P : Program} {w : World} {K : PySem.W.Frag} {mg : Str → Option Value} {base : Heap} {k : Nat} {f : Addr} {fd : FuncData} {ps : List Str} {sp : Sp} {x qual : Str} {st : Stmt} {N : List Str}
    (F : FunD K x qual (defArgs st) (defBody st) (defScope st) [] [] f fd) (S : FnScope N ps (defScope st)) (len : ∀ vs H Q E, sp vs H Q E → vs.length = ps.length)
    (hbody : ∀ (cdv : Value) (A : Around) (outer : List Env) (s : Shared) (H : Hp) (vs : List V) (Q : VK) (E : XK), Room k (A.deeper (envOfC qual (defScope st) s.heap.objs.size f cdv)) → sp vs H Q E →
      ∃ t, PSs (cxOf CX0 P w K mg base N qual (defScope st) f cdv A outer s H E).nox (defBody st) t ∧ t { nx := fun _ H' => Q .non H', rt := Q } (start N vs) H) : FnOk P w K mg base CX0 (k + 1) f fd ps sp :=
  F.ok S len fun cdv A outer s H vs Q E hr h => by
    obtain ⟨t, h1, h2⟩ := hbody cdv A outer s H vs Q E hr h
    exact ⟨t, h1.nox, h2⟩
end Nw

namespace Nw
open PySem PySem.Spec PyProof.Rows L2
/-! ### operators that a class of the text has itself -/
section
variable {X : Cx} {k : Nat} {f C : Addr} {fd : FuncData} {ps : List Str} {sp : Sp}
/-- two instances of one class -/
def rOwn (C : Addr) (sp : Sp) : R2 := fun x y H Q => ∃ a b dx dy fs gs, x = .ref a ∧ y = .ref b ∧ H a = some (.ins C dx fs) ∧ H b = some (.ins C dy gs) ∧ sp [.ref a, .ref b] H (fun v H' => ∃ p, v = .ref p ∧ Q v H') E0
theorem op_own {op : Operator} {nm : Str} (M : Meth X.K C nm f) (he : PySem.dunder op.info.2 = nm) (hc : PySem.W.selfFirst X.K C = true) (F : FnOk X.prog X.w X.K X.mg X.base CX0 k f fd ps sp) (hr : Room k X.A) (hb : Binds X.K fd ps []) : OpR X (binaryOp op) (rOwn C sp) := by
  intro pins s σ H x y v u Q I rx ry h
  obtain ⟨a, b, dx, dy, fs, gs, rfl, rfl, ha, hb', q⟩ := h
  cases rx
  cases ry
  obtain ⟨mA, J, _⟩ := ins_get I.hok ha
  obtain ⟨mB, J', _⟩ := ins_get I.hok hb'
  obtain ⟨od, J, _⟩ := J.look
  obtain ⟨od', J', _⟩ := J'.look
  obtain ⟨m, hF⟩ := I.fr
  refine PySem.W.binop_K hF I.ok.mod.kin J J'.type hc (by rw [he]; exact M.at_) M.fn ?_
  have r2 : Vals [V.ref a, V.ref b] [Value.ref a, Value.ref b] := .cons rfl (.cons rfl .nil)
  refine wpAny_mono (run_fn (dvs := []) (ds := []) (E := E0) F hr hb .nil pass0 I r2 q) (fun v s' hq => ?_) fun _ _ e => e
  obtain ⟨z, H', I', rz, p, rfl, q⟩ := hq
  cases rz
  exact ⟨.ref p, _, I', rfl, q⟩
def rOwn1 (C : Addr) (sp : Sp) : V → Hp → VK → Prop := fun x H Q => ∃ a dx fs, x = .ref a ∧ H a = some (.ins C dx fs) ∧ sp [.ref a] H Q E0
theorem un_own_inv (M : Meth X.K C "__invert__" f) (F : FnOk X.prog X.w X.K X.mg X.base CX0 k f fd ps sp) (hr : Room k X.A) (hb : Binds X.K fd ps []) : UnR X (unaryOp .Invert) (rOwn1 C sp) := by
  intro pins s σ H x v Q I rx h
  obtain ⟨a, dx, fs, rfl, ha, q⟩ := h
  cases rx
  obtain ⟨mA, J, _⟩ := ins_get I.hok ha
  obtain ⟨od, J, _⟩ := J.look
  obtain ⟨m, hF⟩ := I.fr
  refine PySem.W.ksp_inv hF I.ok.mod.kin J M.at_ M.fn ?_
  have r2 : Vals [V.ref a] [Value.ref a] := .cons rfl .nil
  exact run_fn (dvs := []) (ds := []) (E := E0) F hr hb .nil pass0 I r2 q
/-- a comparison that the class has itself: a truth -/
theorem op_own_le (M : Meth X.K C "__le__" f) (F : FnOk X.prog X.w X.K X.mg X.base CX0 k f fd ps sp) (hr : Room k X.A) (hb : Binds X.K fd ps []) :
    OpR X (compareOp .LtE) (fun x y H Q => ∃ a b dx dy fs gs, x = .ref a ∧ y = .ref b ∧ H a = some (.ins C dx fs) ∧ H b = some (.ins C dy gs) ∧ sp [.ref a, .ref b] H (fun v H' => ∃ t, v = .bl t ∧ Q v H') E0) := by
  intro pins s σ H x y v u Q I rx ry h
  obtain ⟨a, b, dx, dy, fs, gs, rfl, rfl, ha, hb', q⟩ := h
  cases rx
  cases ry
  obtain ⟨mA, J, _⟩ := ins_get I.hok ha
  obtain ⟨mB, J', _⟩ := ins_get I.hok hb'
  obtain ⟨od, J, _⟩ := J.look
  obtain ⟨od', J', _⟩ := J'.look
  obtain ⟨m, hF⟩ := I.fr
  show wpAny (model X.prog X.w) X.A (richCompare .LtE (.ref a) (.ref b)) (EP X pins σ Q) X.xe s
  refine PySem.W.cmp_K (op := .LtE) (tb := .ref C) hr.units0 hF I.ok.mod.kin J J'.type (by simp [PySem.W.notFirst]) M.at_ M.fn ?_
  have r2 : Vals [V.ref a, V.ref b] [Value.ref a, Value.ref b] := .cons rfl (.cons rfl .nil)
  refine wpAny_mono (run_fn (dvs := []) (ds := []) (E := E0) F hr hb .nil pass0 I r2 q) (fun v s' hq => ?_) fun _ _ e => e
  obtain ⟨z, H', I', rz, p, rfl, q⟩ := hq
  cases rz
  exact ⟨.bl p, _, I', rfl, q⟩
end
end Nw

namespace Nw
open PySem PySem.Spec PyProof.Rows L2
open AutoSeq1 (wpAny_loadPart')
/-! ### enumerate(tuple) -/
theorem meets_enumT (l : Addr) (items : Array Value) (n : Nat) (dct : Option Addr) (sl : Array (Option Value)) :
    Meets (Builtin.«enumerate.__new__» ⟨[.type "enumerate", .ref l], []⟩) (fun _ R s => s.heap.get? l = some { cls := .type "tuple", dict := dct, data := .seq items n, slots := sl } ∧
      R (.ok (.ret (.ref (s.heap.push { cls := .type "tuple_iterator", data := .fields #[.ref l, .int 0 0] }).objs.size)))
        { s with heap := (s.heap.push { cls := .type "tuple_iterator", data := .fields #[.ref l, .int 0 0] }).push { cls := .type "enumerate", data := .fields #[.none, .bool false, .ref s.heap.objs.size, rawInt 0, .none, .none] } }) :=
  .of_wp fun prog w A R s h => by
    obtain ⟨hp, g, d, tk, os⟩ := s; obtain ⟨hl, h⟩ := h
    have hsub := sub_enumerate
    have hL : Heap.IsTuple (Shared.heap ⟨hp, g, d, tk, os⟩) l items := ⟨_, hl, rfl, n, rfl⟩
    wp_walk using wpAny_loadPart' hl
    refine wpAny_stack_any fun st => wpAny_pure ?_
    split
    · rename_i c _ _ _ _ _
      cases (c == Value.type "enumerate")
      · wp_walk using wpAny_loadPart' hl, wpAny_pyIter_tuple hL
        exact ⟨_, rfl, h⟩
      · wp_walk using wpAny_loadPart' hl, wpAny_pyIter_tuple hL
        exact ⟨_, rfl, h⟩
    · wp_walk using wpAny_loadPart' hl, wpAny_pyIter_tuple hL
      exact ⟨_, rfl, h⟩
section
variable {prog : Program} {w : World} {A : Around} {E : Value → Shared → Prop} {s : Shared}
theorem call_enumT {l : Addr} {items : Array Value} {Q : Value → Shared → Prop} (hL : s.heap.IsTuple l items)
    (h : ∀ h', IsEnum h' (s.heap.objs.size + 1) s.heap.objs.size 0 .none → h'.IsTupleIter s.heap.objs.size l 0 → h'.objs.size = s.heap.objs.size + 2 →
      (∀ b o, s.heap.get? b = some o → h'.get? b = some o) → Q (.ref (s.heap.objs.size + 1)) { s with heap := h' }) :
    wpAny (model prog w) A (call (.type "enumerate") [.ref l]) Q E s := by
  obtain ⟨⟨c, dct, dt, sl⟩, hl, hc, n, hd⟩ := hL
  replace hc : c = .type "tuple" := hc
  replace hd : dt = .seq items n := hd
  subst hc hd
  refine callType_new F.called_enumerate (by decide) (F.typeCall_enumerate_1 _) (F.newCall_enumerate_1 _) (fun obj => F.args_object_init_2 obj _) F.entry_enumerate_new
    (meets_enumT l items n dct sl) ⟨hl, ?_⟩
  have hz : (s.heap.push { cls := .type "tuple_iterator", data := .fields #[.ref l, .int 0 0] }).objs.size = s.heap.objs.size + 1 := Heap.size_push ..
  show _ ∧ _
  rw [hz]
  have he : IsEnum ((s.heap.push { cls := .type "tuple_iterator", data := .fields #[.ref l, .int 0 0] }).push
      { cls := .type "enumerate", data := .fields #[.none, .bool false, .ref s.heap.objs.size, rawInt 0, .none, .none] }) (s.heap.objs.size + 1) s.heap.objs.size 0 .none := by
    have := Heap.get?_push_size (s.heap.push { cls := .type "tuple_iterator", data := .fields #[.ref l, .int 0 0] })
      (o := { cls := .type "enumerate", data := .fields #[.none, .bool false, .ref s.heap.objs.size, rawInt 0, .none, .none] }) rfl
    rw [hz] at this; exact this
  refine ⟨⟨_, he, rfl⟩, h _ he ⟨_, Heap.get?_push_of_some _ (Heap.get?_push_size _ rfl), rfl, rfl⟩ (by rw [Heap.size_push, hz]) fun b o x => Heap.get?_push_of_some _ (Heap.get?_push_of_some _ x)⟩
theorem draws_tup (hh : A.handled = none) {it t : Addr} (hne : t ≠ it) (items : Array Value) : Draws prog w A it [it, t] items.size (fun i v => items[i]? = some v) (fun i h => h.IsTupleIter it t i ∧ h.IsTuple t items) where
  live := fun i h st => let ⟨⟨o, e, _⟩, _⟩ := st; ⟨o, e⟩
  frame := fun i h h' st k => ⟨st.1.at fun o e => k it (by simp) o e, let ⟨o, e, z⟩ := st.2; ⟨o, k t (by simp) o e, z⟩⟩
  item := fun i s Q E hi st hQ => by
    refine wpAny_nextOf_tuple_item st.1 st.2 (x := items[i]) (by simp [hi]) fun h' st' sb => ?_
    refine hQ _ h' s.toks (by simp [hi]) ⟨st', ?_⟩ sb
    obtain ⟨o, e, z⟩ := st.2
    exact ⟨o, (sb.2 t hne).trans e, z⟩
  done := fun s Q E st hE => wpAny_nextOf_tuple_end hh st.1 st.2 (by simp) hE
end
def IteT (K : PySem.W.Frag) (a : Addr) : It :=
  ⟨fun i H => ∃ (xs : List V) (x : V), SqT K H a xs ∧ xs[i]? = some x, fun i H v H' => ∃ T x, v = .ref T ∧ H T = none ∧ H' = upd H T (.tup [.int (i : Nat), x]) ∧ ∀ xs, SqT K H a xs → xs[i]? = some x, fun i H => ∃ xs : List V, SqT K H a xs ∧ xs.length ≤ i⟩
theorem turn_enumT {P : Program} {w : World} {K : PySem.W.Frag} {elts : List Expr} {kk : Nat} {tpos : Pos} (a e it : Addr) :
    Turn P w K (.Tuple elts kk tpos) (IteT K a) [e, it] e (fun i h => (∃ old, IsEnum h e it ((i : Nat) : Int) old) ∧ h.IsTupleIter it a i ∧ e ≠ it) where
  mem := by simp
  obj := fun i h st b hb => by
    obtain ⟨⟨old, he⟩, ⟨o, ho, hc, hd⟩, _⟩ := st
    have e' : b = e ∨ b = it := by simpa using hb
    rcases e' with z | z
    · rw [z]; exact ⟨_, he, fun v q => nomatch q⟩
    · rw [z]; exact ⟨o, ho, fun v q => by rw [hd] at q; cases q⟩
  keep := fun i h h' st k => let ⟨⟨old, he⟩, hi, hne⟩ := st; ⟨⟨old, k e (by simp) _ he⟩, hi.at fun o q => k it (by simp) o q, hne⟩
  item := by
    intro X hP hw hK hc i pins s σ H E I hf st hg
    subst hP hw hK
    obtain ⟨⟨old, he⟩, hit, hne⟩ := st
    obtain ⟨xs, x, hq, hx⟩ := hg
    obtain ⟨its, rv, p, hz⟩ := I.tuple hq
    have p' : s.heap.IsTuple a its.toArray := p
    obtain ⟨u, hu, ru⟩ := rv.get hx
    have hel : e < s.heap.objs.size := Heap.lt_size he
    have hil : it < s.heap.objs.size := by obtain ⟨_, q, _⟩ := hit; exact Heap.lt_size q
    have nea : a ≠ it := by
      rintro rfl
      obtain ⟨o1, e1, c1, _⟩ := hit
      obtain ⟨o2, e2, c2, _⟩ := p'
      rw [e1] at e2
      cases e2
      rw [c1] at c2
      exact absurd c2 (by decide)
    have nee : a ≠ e := by
      rintro rfl
      obtain ⟨o2, e2, c2, _⟩ := p'
      rw [he] at e2
      cases e2
      exact absurd (show Value.type "enumerate" = Value.type "tuple" from c2) (by decide)
    have hlt : i < its.toArray.size := by
      rcases Nat.lt_or_ge i its.length with z | z
      · simpa using z
      · rw [List.getElem?_eq_none z] at hu; cases hu
    refine wpAny_pyNext_enum_itemD (draws_tup (by simpa using I.ok.hd hc) nea its.toArray) he ⟨hit, p'⟩ hlt hne (by simp [hne, Ne.symm nee]) fun y h' tk hy ho hst' hT hsz hk => ?_
    obtain ⟨hit', _⟩ := hst'
    have ey : y = u := by
      have z : its[i]? = some y := by simpa using hy
      rw [hu] at z
      exact (Option.some.inj z).symm
    subst ey
    refine ⟨_, rfl, wpAny_letOwnedTupleGo_enum (s := { s with heap := h', toks := tk + 1 }) ho fun h'' he' sb => ?_⟩
    have hT2 : h''.get? s.heap.objs.size = some { cls := .type "tuple", data := .seq #[.int i tk, y] } := (sb.2 _ (Nat.ne_of_gt hel)).trans hT
    have new : ObjOk X.prog X.w (upd H s.heap.objs.size (.tup [.int (i : Nat), x])) h'' s.heap.objs.size (.tup [.int (i : Nat), x]) :=
      ⟨by show 2 ≤ sizeLine; decide, [.int i tk, y], .cons ⟨_, rfl⟩ (.cons ru .nil), ⟨_, hT2, rfl, _, rfl⟩⟩
    have I1 : Inv X pins σ (upd H s.heap.objs.size (.tup [.int (i : Nat), x])) { s with heap := h'', toks := tk + 1 } :=
      I.turnedNew (ch := [e, it]) (fun b ob hb q => (sb.2 b (fun z => hb (by simp [z]))).trans (hk b ob (fun z => hb (by simp [z])) (fun z => hb (by simp [z])) q)) hf (Nat.le_refl _) new
    refine ⟨.ref s.heap.objs.size, _, I1, rfl, ⟨_, x, rfl, I.hok.fresh (Nat.le_refl _), rfl, fun ys hy => by rw [I.tuple_inj hy hq]; exact hx⟩, ⟨⟨y, ?_⟩, hit'.at fun o q => (sb.2 it (Ne.symm hne)).trans q, hne⟩, fun b hb => ?_⟩
    · have e1 : ((i + 1 : Nat) : Int) = (i : Int) + 1 := by omega
      rw [e1]; exact he'
    · have hb' : b < s.heap.objs.size := by
        have e' : b = e ∨ b = it := by simpa using hb
        rcases e' with z | z
        · rw [z]; exact hel
        · rw [z]; exact hil
      rw [upd_ne (Nat.ne_of_lt hb')]
      exact (hf b hb).1
  done := by
    intro X hP hw hK hc i pins s σ H E I hf st hg
    subst hP hw hK
    obtain ⟨⟨old, he⟩, hit, hne⟩ := st
    obtain ⟨xs, hq, hx⟩ := hg
    obtain ⟨its, rv, p, hz⟩ := I.tuple hq
    have p' : s.heap.IsTuple a its.toArray := p
    obtain ⟨f0, f1, f2, f3, f4, f5⟩ := hf it (by simp)
    have hl := rv.length
    have hT : s.TypeIs (.ref e) "enumerate" := ⟨_, he, rfl⟩
    unfold pyNext
    refine wpAny_bind (wpAny_attempt (wpAny_callSpecial?_slot (name := Str.ofString "__next__") hT F.slot_enumerate_next
      (wpAny_call_entry F.slot_enumerate_next hT F.entry_enumerate_next ?_ (F.args_enumerate_next_1 _))))
    show wpAny _ _ (field (.ref e) 2 >>= _) _ _ _
    refine wpAny_bind (wpAny_field he rfl (x := .ref it) rfl ?_)
    refine wpAny_bind (wpAny_nextOf_tuple_end (by simpa using I.ok.hd hc) hit p' (by simp; omega) fun h' x he' hx' => ?_)
    obtain ⟨o, ho, hc'⟩ := hx'
    refine wpAny_bind (wpAny_isInstance (T := "StopIteration") (b := true) ⟨o, ho, hc'⟩ isSubtype_stop ?_)
    exact wpAny_pure ⟨rfl, I.turned (t' := s.toks) (fun b o hb q => he' b o hb q) f0 f1 f3 f4 f5⟩
  self := fun A i s Q E st h => let ⟨⟨_, he⟩, _⟩ := st; wpAny_pyIter_enum he h
def iEnumT (K : PySem.W.Frag) (ta : TA) : TI := fun σ H R => ta σ H fun vs H1 => ∃ a xs, vs = [.ref a] ∧ SqT K H1 a xs ∧ R (IteT K a) H1
theorem pi_enumT {X : Cx} {e : Expr} {ta : TA} {p pos tpos : Pos} {elts : List Expr} {kk : Nat} (hg : Gl X "enumerate") (hm : X.mg "enumerate" = none) (ha : PA X [e] ta) (hs : starEach [e] X.env = [(false, eval e X.env)] := by rfl) :
    PI X (.Tuple elts kk tpos) (.Call (.Name "enumerate" p) [e] [] pos) (iEnumT X.K ta) := by
  refine ⟨fun pins s σ H R I h => ?_⟩
  refine Call_ (ld_blt I hg hm boot_enumerate (PyProof.Rows.callWith_type1 (thn (ha.run pos pins s σ H _ I h) fun us s1 ⟨vs, H1, I1, r1, q1⟩ => ?_) hs rfl))
  obtain ⟨a, xs, ex, hq, q⟩ := q1
  subst ex
  cases r1 with
  | cons r rr =>
    cases rr
    cases r
    obtain ⟨its, rv, p', hz⟩ := I1.tuple hq
    refine call_enumT (show s1.heap.IsTuple a its.toArray from p') fun h' he hit hsz hk => wpAny_pyIter_enum he ?_
    have I2 : Inv X pins σ H1 { s1 with heap := h' } := I1.kept (t' := s1.toks) hk
    refine ⟨s1.heap.objs.size + 1, [s1.heap.objs.size + 1, s1.heap.objs.size], _, _, H1, rfl, I2, turn_enumT a (s1.heap.objs.size + 1) s1.heap.objs.size, ⟨⟨.none, he⟩, hit, Nat.succ_ne_self _⟩, fun b hb => ?_, q⟩
    have e' : b = s1.heap.objs.size + 1 ∨ b = s1.heap.objs.size := by simpa using hb
    have hle : s1.heap.objs.size ≤ b := by
      rcases e' with z | z
      · rw [z]; exact Nat.le_add_right _ _
      · rw [z]; exact Nat.le_refl _
    exact I1.fpOk hle (I1.hok.fresh hle)
theorem walk_enumT {K : PySem.W.Frag} {a : Addr} {xs : List V} : Walk (IteT K a) xs.length (fun H => SqT K H a xs) (YPair (fun i => some (.int (i : Nat))) (fun i => xs[i]?)) := by
  refine ⟨fun i _ hi q => ⟨xs, xs[i], q, by simp [hi]⟩, fun _ q => ⟨xs, q, Nat.le_refl _⟩, fun i H v H' _ q y => ?_⟩
  obtain ⟨T, x, h1, h2, h3, h4⟩ := y
  exact ⟨T, .int (i : Nat), x, h1, h2, h3, rfl, h4 xs q⟩
end Nw

namespace Nw
open PySem PySem.Spec PyProof.Rows L2
/-! ### what may be a list or a tuple: t tells which -/
def ho (t : Bool) (vs : List V) : HO := match t with
  | false => .lst vs
  | true => .tup vs
def SqB (K : PySem.W.Frag) (t : Bool) (H : Hp) (a : Addr) (xs : List V) : Prop := match t with
  | false => SqL K H a xs
  | true => SqT K H a xs
theorem SqB.of {K : PySem.W.Frag} {t : Bool} {H : Hp} {a : Addr} {xs : List V} (h : H a = some (ho t xs)) : SqB K t H a xs := by
  cases t
  · exact SqL.of h
  · exact SqT.of h
def isS {α : Type} [Rep α] (t : Bool) (I : Hp) (v : V) (xs : List α) : Prop := ∃ a vs, v = .ref a ∧ I a = some (ho t vs) ∧ Paired (Rep.is I) vs xs
theorem isL.s {α : Type} [Rep α] {I : Hp} {v : V} {xs : List α} (h : isL I v xs) : isS false I v xs := h
theorem isU.s {α : Type} [Rep α] {I : Hp} {v : V} {xs : List α} (h : isU I v xs) : isS true I v xs := h
theorem isS.up {α : Type} [Rep α] {t : Bool} {I I' : Hp} {v : V} {xs : List α} (h : isS t I v xs) (e : Same I I') : isS t I' v xs :=
  let ⟨a, vs, h1, h2, h3⟩ := h
  ⟨a, vs, h1, e _ _ h2, Paired.mono' (fun _ _ z => Rep.mono e z) h3⟩
def Itq (K : PySem.W.Frag) (t : Bool) (a : Addr) : It := match t with
  | false => Itl K a
  | true => Itt K a
def iSeq (K : PySem.W.Frag) (tl : TE) : TI := fun σ H R => tl σ H fun x H1 => ∃ a t, x = .ref a ∧ (∃ xs, SqB K t H1 a xs) ∧ R (Itq K t a) H1
theorem pi_seq {X : Cx} {tg l : Expr} {tl : TE} (hl : PE X l tl) : PI X tg l (iSeq X.K tl) := by
  refine ⟨fun pins s σ H R I h => ?_⟩
  refine thn (hl.run pins s σ H _ I h) fun v s1 ⟨x, H1, I1, r1, q1⟩ => ?_
  obtain ⟨a, t, e, ⟨xs, hq⟩, q⟩ := q1
  subst e
  cases r1
  cases t
  · obtain ⟨its, rv, p, hz⟩ := I1.list hq
    refine wpAny_pyIter_list p.isList ?_
    refine ⟨s1.heap.objs.size, [s1.heap.objs.size], _, _, H1, rfl, I1.kept (t' := s1.toks) fun b o e => Heap.get?_push_of_some _ e, turn_list a _, ⟨_, Heap.get?_push_size _ rfl, rfl, rfl⟩, fun b hb => ?_, q⟩
    have e : b = s1.heap.objs.size := by simpa using hb
    subst e
    exact I1.fpOk (Nat.le_refl _) (I1.hok.fresh (Nat.le_refl _))
  · obtain ⟨its, rv, p, hz⟩ := I1.tuple hq
    refine wpAny_pyIter_tuple (show s1.heap.IsTuple a its.toArray from p) ?_
    refine ⟨s1.heap.objs.size, [s1.heap.objs.size], _, _, H1, rfl, I1.kept (t' := s1.toks) fun b o e => Heap.get?_push_of_some _ e, turn_tuple a _, ⟨_, Heap.get?_push_size _ rfl, rfl, rfl⟩, fun b hb => ?_, q⟩
    have e : b = s1.heap.objs.size := by simpa using hb
    subst e
    exact I1.fpOk (Nat.le_refl _) (I1.hok.fresh (Nat.le_refl _))
theorem walk_seq {K : PySem.W.Frag} {t : Bool} {a : Addr} {xs : List V} : Walk (Itq K t a) xs.length (fun H => SqB K t H a xs) (YAt xs) := by
  cases t
  · exact walk_list
  · exact walk_tup
def IteB (K : PySem.W.Frag) (t : Bool) (a : Addr) : It := match t with
  | false => Ite K a
  | true => IteT K a
def iEnumS (K : PySem.W.Frag) (ta : TA) : TI := fun σ H R => ta σ H fun vs H1 => ∃ a t xs, vs = [.ref a] ∧ SqB K t H1 a xs ∧ R (IteB K t a) H1
theorem pi_enumS {X : Cx} {e : Expr} {ta : TA} {p pos tpos : Pos} {elts : List Expr} {kk : Nat} (hg : Gl X "enumerate") (hm : X.mg "enumerate" = none) (ha : PA X [e] ta) (hs : starEach [e] X.env = [(false, eval e X.env)] := by rfl) :
    PI X (.Tuple elts kk tpos) (.Call (.Name "enumerate" p) [e] [] pos) (iEnumS X.K ta) := by
  refine ⟨fun pins s σ H R I h => ?_⟩
  refine Call_ (ld_blt I hg hm boot_enumerate (PyProof.Rows.callWith_type1 (thn (ha.run pos pins s σ H _ I h) fun us s1 ⟨vs, H1, I1, r1, q1⟩ => ?_) hs rfl))
  obtain ⟨a, t, xs, ex, hq, q⟩ := q1
  subst ex
  cases r1 with
  | cons r rr =>
    cases rr
    cases r
    have fin : ∀ b : Addr, b ∈ [s1.heap.objs.size + 1, s1.heap.objs.size] → s1.heap.objs.size ≤ b := fun b hb => by
      have e' : b = s1.heap.objs.size + 1 ∨ b = s1.heap.objs.size := by simpa using hb
      rcases e' with z | z
      · rw [z]; exact Nat.le_add_right _ _
      · rw [z]; exact Nat.le_refl _
    cases t
    · obtain ⟨its, rv, p', hz⟩ := I1.list hq
      refine call_enumerate_list p'.isList fun h' he hit hsz hk => wpAny_pyIter_enum he ?_
      have I2 : Inv X pins σ H1 { s1 with heap := h' } := I1.kept (t' := s1.toks) hk
      exact ⟨s1.heap.objs.size + 1, [s1.heap.objs.size + 1, s1.heap.objs.size], _, _, H1, rfl, I2, turn_enum a (s1.heap.objs.size + 1) s1.heap.objs.size, ⟨⟨.none, he⟩, hit, Nat.succ_ne_self _⟩, fun b hb => I1.fpOk (fin b hb) (I1.hok.fresh (fin b hb)), q⟩
    · obtain ⟨its, rv, p', hz⟩ := I1.tuple hq
      refine call_enumT (show s1.heap.IsTuple a its.toArray from p') fun h' he hit hsz hk => wpAny_pyIter_enum he ?_
      have I2 : Inv X pins σ H1 { s1 with heap := h' } := I1.kept (t' := s1.toks) hk
      exact ⟨s1.heap.objs.size + 1, [s1.heap.objs.size + 1, s1.heap.objs.size], _, _, H1, rfl, I2, turn_enumT a (s1.heap.objs.size + 1) s1.heap.objs.size, ⟨⟨.none, he⟩, hit, Nat.succ_ne_self _⟩, fun b hb => I1.fpOk (fin b hb) (I1.hok.fresh (fin b hb)), q⟩
theorem walk_enumS {K : PySem.W.Frag} {t : Bool} {a : Addr} {xs : List V} : Walk (IteB K t a) xs.length (fun H => SqB K t H a xs) (YPair (fun i => some (.int (i : Nat))) (fun i => xs[i]?)) := by
  cases t
  · exact walk_enum
  · exact walk_enumT
/-- its type, and what isinstance of (list, tuple) tells -/
theorem ty_seq {K : PySem.W.Frag} {t : Bool} {H : Hp} {a : Addr} {vs : List V} (h : H a = some (ho t vs)) : ∃ n, TyX K H (.ref a) (.type n) ∧ PySem.W.kitAny K (.type n) [.type "list", .type "tuple"] = some true := by
  cases t
  · exact ⟨_, .base (.lst h), kit_any_hd⟩
  · exact ⟨_, .base (.tup h), kitAny_cons (b := false) (kit_ty (by decide +kernel)) (fun _ => kit_any_hd) (fun z => nomatch z)⟩
end Nw

namespace Nw
open PySem PySem.Spec PyProof.Rows L2
section
variable {X : Cx} {k : Nat} {f C : Addr} {fd : FuncData} {ps : List Str} {sp : Sp}
def rOwnB (C : Addr) (sp : Sp) (g : Bool → Bool) : R2 := fun x y H Q => ∃ a b dx dy fs gs, x = .ref a ∧ y = .ref b ∧ H a = some (.ins C dx fs) ∧ H b = some (.ins C dy gs) ∧ sp [.ref a, .ref b] H (fun v H' => ∃ t, v = .bl t ∧ Q (.bl (g t)) H') E0
/-- == that the class has itself -/
theorem op_own_eq (M : Meth X.K C "__eq__" f) (F : FnOk X.prog X.w X.K X.mg X.base CX0 k f fd ps sp) (hr : Room k X.A) (hb : Binds X.K fd ps []) : OpR X (compareOp .Eq) (rOwnB C sp id) := by
  intro pins s σ H x y v u Q I rx ry h
  obtain ⟨a, b, dx, dy, fs, gs, rfl, rfl, ha, hb', q⟩ := h
  cases rx
  cases ry
  obtain ⟨mA, J, _⟩ := ins_get I.hok ha
  obtain ⟨mB, J', _⟩ := ins_get I.hok hb'
  obtain ⟨od, J, _⟩ := J.look
  obtain ⟨od', J', _⟩ := J'.look
  obtain ⟨m, hF⟩ := I.fr
  show wpAny (model X.prog X.w) X.A (richCompare .Eq (.ref a) (.ref b)) (EP X pins σ Q) X.xe s
  refine PySem.W.cmp_K (op := .Eq) (tb := .ref C) hr.units0 hF I.ok.mod.kin J J'.type (by simp [PySem.W.notFirst]) M.at_ M.fn ?_
  have r2 : Vals [V.ref a, V.ref b] [Value.ref a, Value.ref b] := .cons rfl (.cons rfl .nil)
  refine wpAny_mono (run_fn (dvs := []) (ds := []) (E := E0) F hr hb .nil pass0 I r2 q) (fun v s' hq => ?_) fun _ _ e => e
  obtain ⟨z, H', I', rz, p, rfl, q⟩ := hq
  cases rz
  exact ⟨.bl p, _, I', rfl, q⟩
theorem slot_ne : Slot "object" "__ne__" "object.__ne__" := F.cmp_object.ne
/-- a builtin's slot of an instance, found by the class's part -/
theorem ifBoundB_K {M : Model} {A : Around} {E : Value → Shared → Prop} {s : Shared} {K : PySem.W.Frag} {x C : Addr} {ox : Obj} {od : Option Obj} {name : Str} {T id : String} {args : List Value} {Q : Option Value → Shared → Prop} (Xk : K.In s.heap) (I : PySem.W.InstAt s.heap x ox C od)
    (hs : PySem.W.findIn K (.ref C) name = some (some (.builtin id))) (S : Slot T name id)
    (h : wpAny M A (call (.builtin id) (.ref x :: args)) (fun v => Q (some v)) E s) : wpAny M A (callSpecialIfBound? (.ref x) name args) Q E s := by
  simp only [callSpecialIfBound?, bindSpecialIfBound?]
  refine wpAny_holding (wpAny_bind (wpAny_bind (wpAny_bind (I.type.here ((PySem.W.looks_findIn Xk hs).here ?_)))))
  simp only [S.bind]
  refine wpAny_bind (wpAny_askSetting (wpAny_ite ?_))
  have fin : wpAny M A (call (.builtin id) ([.ref x] ++ args) >>= fun v => pure (some v)) Q E s := wpAny_bind (wpAny_mono h (fun v s' h' => wpAny_pure h') fun _ _ h' => h')
  split
  · exact wpAny_bind (wpAny_pure (wpAny_pure fin))
  · exact wpAny_tryCatch (wpAny_bind (wpAny_pure (wpAny_pure fin)))
theorem check_slotK {M : Model} {A : Around} {E : Value → Shared → Prop} {s : Shared} {K : PySem.W.Frag} {x C : Addr} {ox : Obj} {od : Option Obj} {id owner n : String} {rest : List Value} {Q : Unit → Shared → Prop} (Xk : K.In s.heap) (I : PySem.W.InstAt s.heap x ox C od) (hk : builtinKind id = some .slot) (hs : splitId id = some (owner, n))
    (ha : argsOk id ⟨.ref x :: rest, []⟩) (hsub : PySem.W.subIn K (.ref C) (.type owner) = some true) (hq : Q () s) : wpAny M A (checkBuiltinCall id ⟨.ref x :: rest, []⟩) Q E s := by
  simp only [checkBuiltinCall, hk, hs]
  refine wpAny_bind ?_
  unfold isInstance
  refine wpAny_bind (I.type.here ?_)
  refine (PySem.W.looks_subIn Xk hsub).here ?_
  cases hsig : Manifest.signature? id with
  | none => exact wpAny_pure hq
  | some sig =>
    simp only [argsOk, hsig] at ha
    have h2 : Bind.checkArgs id sig ⟨.ref x :: rest, []⟩ = pure () := ha
    show wpAny M A (Bind.checkArgs id sig ⟨.ref x :: rest, []⟩) Q E _
    rw [h2]; exact wpAny_pure hq
/-- != of a class with its own ==, that leaves __ne__ to object -/
theorem op_own_ne (M : Meth X.K C "__eq__" f) (hne : PySem.W.findIn X.K (.ref C) "__ne__" = some (some (.builtin "object.__ne__"))) (hob : PySem.W.subIn X.K (.ref C) (.type "object") = some true)
    (F : FnOk X.prog X.w X.K X.mg X.base CX0 k f fd ps sp) (hr : Room (k + 1) X.A) (hb : Binds X.K fd ps []) : OpR X (compareOp .NotEq) (rOwnB C sp not) := by
  intro pins s σ H x y v u Q I rx ry h
  obtain ⟨a, b, dx, dy, fs, gs, rfl, rfl, ha, hb', q⟩ := h
  cases rx
  cases ry
  obtain ⟨mA, J, _⟩ := ins_get I.hok ha
  obtain ⟨mB, J', _⟩ := ins_get I.hok hb'
  obtain ⟨od, J, _⟩ := J.look
  obtain ⟨od', J', _⟩ := J'.look
  obtain ⟨m, hF⟩ := I.fr
  have Xk := I.kIn
  show wpAny (model X.prog X.w) X.A (richCompare .NotEq (.ref a) (.ref b)) (EP X pins σ Q) X.xe s
  have r2 : Vals [V.ref a, V.ref b] [Value.ref a, Value.ref b] := .cons rfl (.cons rfl .nil)
  have e0 : Env0 X.prog X.w X.K X.mg X.base X.A.in1 X.stack s H := I.env0.in1
  have hl : (([.ref a, .ref b] : List Value) ++ []).length = ps.length := by
    have := F.len _ _ _ _ q
    simpa using this
  -- the own ==, one deeper
  have own : wpAny (model X.prog X.w) X.A.in1 (call (.ref f) [.ref a, .ref b]) (EP X pins σ (fun v H' => ∃ t, v = .bl t ∧ Q (.bl (!t)) H')) X.xe s := by
    refine wpAny_call (codeAny_mono (F.run X.A.in1 X.stack s H ⟨[.ref a, .ref b], []⟩ [.ref a, .ref b] [.ref a, .ref b] _ E0 hr.in1 e0 (by
      have := hb s [.ref a, .ref b] I.kIn hl
      simpa using this) r2 q) fun r s' hq => ?_)
    cases r with
    | error e => exact pass0 pins σ H s e s' I hq
    | ok fl =>
      cases fl with
      | ret w => exact I.after hq
      | next => exact False.elim hq
      | brk => exact False.elim hq
      | cont => exact False.elim hq
  have neq : wpAny (model X.prog X.w) X.A.in1 (Builtin.«object.__ne__» ⟨[.ref a, .ref b], []⟩) (fun fin s' => ∃ t, fin = .done (.ret (.bool t)) ∧ EP X pins σ Q (.bool t) s') X.xe s := by
    unfold Builtin.«object.__ne__»
    refine wpAny_bind (m := slotArgs "__ne__" 1 ⟨[.ref a, .ref b], []⟩) ?_
    refine (show wpAny _ _ (pure (Value.ref a, [Value.ref b])) _ _ _ from wpAny_pure ?_)
    refine wpAny_bind (wpAny_cRoomFor hr.in1.units0 ?_)
    refine wpAny_bind (PySem.W.ifBound_K Xk J M.at_ M.fn (wpAny_mono own (fun v s' hv => ?_) fun _ _ e => e))
    obtain ⟨z, H', I', rz, t, rfl, q'⟩ := hv
    cases rz
    refine wpAny_bind (wpAny_truthy_bool ?_)
    exact wpAny_pure ⟨!t, rfl, .bl (!t), H', I', rfl, q'⟩
  have one : wpAny (model X.prog X.w) X.A (tryCompare (.ref a) "__ne__" (.ref b)) (fun r s' => ∃ v, r = some v ∧ EP X pins σ Q v s') X.xe s := by
    unfold tryCompare
    refine wpAny_bind (ifBoundB_K Xk J hne slot_ne (wpAny_call (codeAny_call_builtin slot_ne.plain PySem.F.cmpEntry_ne (check_slotK Xk J PySem.F.cmpKind_ne PySem.F.cmpSplit_ne (PySem.F.cmpArgs_ne _ _) hob ?_))))
    refine wpAny_mono neq (fun fin s' hv => ?_) fun e s' z => z
    obtain ⟨t, rfl, q'⟩ := hv
    exact wpAny_pure ⟨_, rfl, q'⟩
  unfold richCompare
  simp only [oneThing_ref]
  refine wpAny_holding (wpAny_bind (wpAny_cRoomFor hr.units0 ?_))
  refine wpAny_bind (J.type.here (wpAny_bind (J'.type.here ?_)))
  simp only [bne_self_eq_false, Bool.false_eq_true, if_false]
  refine wpAny_bind (wpAny_pure ?_)
  simp only [Bool.false_eq_true, if_false]
  refine wpAny_bind (wpAny_mono one (fun r s' z => ?_) fun _ _ e => e)
  obtain ⟨v, rfl, hq⟩ := z
  exact wpAny_pure hq
end
end Nw

namespace Nw
open PySem PySem.Spec PyProof.Rows L2
/-! ### an exception that was caught and is held as a value -/
def ExV (cls : Value) (d : Option Addr) (a : Addr) : HO := .ext fun h => ∃ (oe : Obj) (vs : Array Value), h.get? a = some oe ∧ Zc cls d oe ∧ oe.data = .fields vs
theorem exv_at {P : Program} {w : World} {H : Hp} {h : Heap} {cls : Value} {d : Option Addr} {a : Addr} (hok : HOk P w H h) (e : H a = some (ExV cls d a)) : ∃ (oe : Obj) (vs : Array Value), h.get? a = some oe ∧ Zc cls d oe ∧ oe.data = .fields vs := by
  have z : ObjOk P w H h a (ExV cls d a) := hok a _ e
  exact z.1
section
variable {X : Cx} {pins : List (Addr × Obj)} {σ : L2.St} {H : Hp} {s : Shared}
theorem inv_held {a : Addr} {oe : Obj} {vs : Array Value} {cls : Value} {d : Option Addr} (I : Inv X pins σ H s) (at_ : s.heap.get? a = some oe) (z : Zc cls d oe) (fl : oe.data = .fields vs) (fr : H a = none) (young : X.s_0.heap.get? a = none)
    (nl : a ≠ X.env.locals) (np : ∀ p ∈ X.pn ++ pins, p.1 ≠ a) : Inv X pins σ (upd H a (ExV cls d a)) s := by
  have nc : ∀ x c, X.env.cells.lookup x = some c → c ≠ a := fun x c e q => by
    obtain ⟨v, o, ho, hd⟩ := I.cell x c e
    rw [q, at_] at ho
    cases ho
    rw [fl] at hd
    cases hd
  refine ⟨I.ok, I.os, I.bare, { I.base with free := fun b o e n hx => ?_, tups := fun b xs e => ?_, frzs := fun b o u e => ?_, tbls := fun b ps e => ?_ }, I.loc, I.cell, ?_, fun x c e => ?_, fun p hp => ?_, ?_, I.len⟩
  · rw [upd_ne fun q => by rw [q, young] at e; cases e]
    exact I.base.free b o e n hx
  · have q := I.base.tups b xs e
    rw [upd_ne (ne_of_none q fr)]
    exact q
  · have q := I.base.frzs b o u e
    rw [upd_ne (ne_of_none q fr)]
    exact q
  · obtain ⟨more, q⟩ := I.base.tbls b ps e
    exact ⟨more, by rw [upd_ne (ne_of_none q fr)]; exact q⟩
  · rw [upd_ne nl.symm]
    exact I.free
  · rw [upd_ne (nc x c e)]
    exact I.freeC x c e
  · obtain ⟨p1, p2, p3⟩ := I.pin p hp
    exact ⟨p1, by rw [upd_ne (np p hp)]; exact p2, p3⟩
  · exact I.hok.laidN (fun _ _ q => q) fr ⟨⟨oe, vs, at_, z, fl⟩, ⟨oe, at_⟩, fun _ _ ⟨o, v, q, r⟩ k => ⟨o, v, k o q, r⟩⟩
end
/-- behind the suite the caught one stands as a value -/
def keepD (i : Nat) (a : Addr) (cls : Value) (d : Option Addr) (D : Ends) : Ends where
  nx := fun σ H => D.nx (σ.set i none) (upd H a (ExV cls d a))
  rt := fun v H => D.rt v (upd H a (ExV cls d a))
  bk := fun σ H => D.bk (σ.set i none) (upd H a (ExV cls d a))
  ct := fun σ H => D.ct (σ.set i none) (upd H a (ExV cls d a))
/-- what 'except c as n: suite' wishes, the exception being kept; one of another class isn't raised there -/
def wKeep (K : PySem.W.Frag) (c : Value) (i : Nat) (ts : Addr → Value → Option Addr → TS) (D : Ends) : WX := fun cls d σ H =>
  PySem.W.exmOne K cls c = some true ∧ ∀ a, H a = none → ts a cls d (keepD i a cls d D) (σ.set i (some (.ref a))) H
section
variable {X : Cx} {x n : Str} {c : Value} {i : Nat} {body suite : List Stmt} {b₀ : Stmt} {np pos pos' : Pos} {tb : WX → TS} {ts : Addr → Value → Option Addr → TS}
/-- an object in the air is none that stood at the call, no frame, no pinned one -/
structure Apart (X : Cx) (pins : List (Addr × Obj)) (a : Addr) : Prop where
  young : X.s_0.heap.get? a = none
  nl : a ≠ X.env.locals
  nf : a ∉ X.fs
  np : ∀ p ∈ X.pn ++ pins, p.1 ≠ a
theorem apart_of {pins : List (Addr × Obj)} {σ : L2.St} {H : Hp} {sI : Shared} {B h : Heap} {a : Addr} {Z : Obj → Prop} (hst : X.stack = X.env :: X.outer) (hfm : X.env.frame = some X.env.locals) (hex : X.ex = []) (I : Inv X pins σ H sI)
    (nb : ∀ b o, sI.heap.get? b = some o → b ∉ frs X.stack → B.get? b = some o) (fl : HandSPX.FlyingZ B (X.env :: X.outer) a Z h) : Apart X pins a := by
  obtain ⟨oe, vs, e1, e2, e3⟩ := fl.there
  have nB : B.get? a = none := fl.2.1
  have off : a ∉ frs (X.env :: X.outer) := fun hm => by
    obtain ⟨_, o', e', nofld⟩ := fl.2.2.1.mem hm
    rw [e1] at e'
    cases e'
    exact nofld _ e3
  have gone : ∀ o, sI.heap.get? a ≠ some o := fun o e => by
    have z := nb a o e (by rw [hst]; exact off)
    rw [nB] at z
    cases z
  refine ⟨?_, fun q => off (List.mem_filterMap.mpr ⟨X.env, List.mem_cons_self, by rw [hfm, q]⟩), fun hm => ?_, fun p hp q => ?_⟩
  · cases e : X.s_0.heap.get? a with
    | none => rfl
    | some o =>
      obtain ⟨o', z⟩ := I.base.there a o e (by rw [hex]; exact fun q => nomatch q)
      exact absurd z (gone o')
  · obtain ⟨ev, he, q⟩ := List.mem_filterMap.mp hm
    exact off (List.mem_filterMap.mpr ⟨ev, List.mem_cons_of_mem _ he, q⟩)
  · have z := (I.pin p hp).1
    rw [q] at z
    exact gone _ z
/-- try: body / except x as n: suite; the exception is kept behind it -/
theorem ps_try_keep (hst : X.stack = X.env :: X.outer) (hfm : X.env.frame = some X.env.locals) (hex : X.ex = []) (hN : X.N.Nodup) (hi : X.N[i]? = some n) (hln : X.env.kindOf n = some .local) (hc : Names X x c)
    (hb : ∀ (W : WX) (pn : List (Addr × Obj)) (xe : Value → Shared → Prop), Takes (X.tr pn xe) W → PSs (X.tr pn xe) body (tb W))
    (hsu : ∀ (a : Addr) (oe : Obj) (cls : Value) (d : Option Addr) (pn : List (Addr × Obj)), Zc cls d oe → (∃ vs, oe.data = .fields vs) → PSs (X.suite a ((a, oe) :: pn)) (b₀ :: suite) (ts a cls d)) :
    PS X (.Try body [.ExceptHandler (some (.Name x np)) (some n) (b₀ :: suite) pos'] [] [] pos) (fun D σ H => tb (wKeep X.K c i ts D) D σ H) := by
  refine ⟨fun pins s σ H D I wish => ?_⟩
  have hA : X.A.frames = some (X.env :: X.outer) := by rw [I.ok.frames, hst]
  -- what is raised in the body comes here
  have land : Takes (X.tr (X.pn ++ pins) fun e s1 => wpAny (model X.prog X.w) X.A (noteFrame e X.env) (fun _ s2 => wpAny (model X.prog X.w) X.A (setFlight e none) (fun _ s3 =>
      wpAny (model X.prog X.w) X.A (handleBy e X.env [.ExceptHandler (some (.Name x np)) (some n) (b₀ :: suite) pos']) (SP X pins D) X.xe s3) X.xe s2) X.xe s1) (wKeep X.K c i ts D) := by
    rintro u sx ⟨a, B, sI, pins', σx, Hx, cls, d, rfl, Ix, nb, up, sky, na, os, ag, hm, hyes⟩
    have J : Inv X pins σx Hx sI := Ix.ofTry I.ok
    show wpAny (model X.prog X.w) X.A (noteFrame (.ref a) X.env) _ _ _
    have sky2 : Sky B (X.env :: X.outer) a (Zc cls d) X.env.locals sx.heap := hst ▸ sky
    refine Sky.land Zc.steady hA hfm sky2 fun hA1 fl1 up1 => ?_
    have ap := apart_of hst hfm hex J nb fl1
    have J1 : Inv X pins σx Hx { sx with heap := hA1 } := J.landed nb fl1.1 (up.trans up1) os ag
    obtain ⟨o1, f1, g1, z1, d1⟩ := fl1.there
    have S1 := J1.suite g1 d1 na ap.nl ap.nf
    refine wpAny_handleBy_cons (codeAny_handlers_test ?_) (fun q => nomatch q)
    have LC : PySem.W.Looks (model X.prog X.w) hA1 (typeOf (.ref a)) cls := fun A1 Q1 E1 sh kk q => wpAny_typeOf_ref (kk _ _ g1) (by rw [z1.1]; exact q)
    have LM := PySem.W.exm_one (M := model X.prog X.w) (J1.kIn) LC hm
    have clause : ∀ {Q1 : Value → Shared → Prop} {E1 : Value → Shared → Prop}, Q1 c { sx with heap := hA1 } → wpAny (model X.prog X.w) (X.A.mark (some (.ref a))) (eval (.Name x np) X.env) Q1 E1 { sx with heap := hA1 } := fun {Q1 E1} q => by
      obtain ⟨hg, hdb, hm | ⟨hm, hv, hnn⟩⟩ := hc
      · exact ld_glob (X := X.suite a ((a, o1) :: (X.pn ++ pins))) S1 hg hm q hdb
      · exact ld_blt (X := X.suite a ((a, o1) :: (X.pn ++ pins))) S1 hg hm hv q hnn hdb
    refine clause (LM.here (codeAny_handlers_suite_as (HandSPX.lands_againZ fl1 fun hA2 fl2 up2 => ?_)))
    have J2 : Inv X pins σx Hx { sx with heap := hA2 } := J.landed nb fl2.1 ((up.trans up1).trans up2) os ag
    obtain ⟨o2, f2, g2, z2, d2⟩ := fl2.there
    refine store_ok (X := X.suite a ((a, o2) :: (X.pn ++ pins))) (v := .ref a) (J2.suite g2 d2 na ap.nl ap.nf) hN hi (.inl hln) rfl (fun s5 S5 => ?_) (.inr hln)
    refine wpAny_mono ((hsu a o2 cls d (X.pn ++ pins) z2 ⟨_, d2⟩).run [] s5 _ Hx _ S5 (hyes a na)) (fun f s6 hsp => ?_) (fun _ _ z => False.elim z)
    have out : ∀ {σ6 : L2.St} {H6 : Hp} {Q1 : Shared → Prop}, Inv (X.suite a ((a, o2) :: (X.pn ++ pins))) [] σ6 H6 s6 → (∀ s7, Inv X pins (σ6.set i none) (upd H6 a (ExV cls d a)) s7 → Q1 s7) →
        wpAny (model X.prog X.w) X.A (do bindName X.env n .none; unbindBehindTheSuite X.env n pos') (fun _ s7 => Q1 s7) X.xe s6 := fun {σ6 H6 Q1} S6 hq => by
      obtain ⟨p1, p2, _⟩ := S6.pin (a, o2) (List.mem_append_left _ List.mem_cons_self)
      exact gone_ok (inv_held (S6.unsuite I.ok) p1 z2 d2 p2 ap.young ap.nl ap.np) hN hi hln hq
    cases f with
    | next => exact let ⟨_, _, S6, q6⟩ := hsp; out S6 fun s7 J7 => ⟨_, _, J7, q6⟩
    | brk => exact let ⟨_, _, S6, q6⟩ := hsp; out S6 fun s7 J7 => ⟨_, _, J7, q6⟩
    | cont => exact let ⟨_, _, S6, q6⟩ := hsp; out S6 fun s7 J7 => ⟨_, _, J7, q6⟩
    | ret u => exact let ⟨_, _, _, S6, r6, q6⟩ := hsp; out S6 fun s7 J7 => ⟨_, _, _, J7, r6, q6⟩
  refine wpAny_Try_except (wpAny_mono ((hb (wKeep X.K c i ts D) _ _ land).run [] s σ H D (I.toTry _) wish) (fun f s1 hsp => ?_) (fun e s1 he => he))
  cases f with
  | next => exact let ⟨σ1, H1, J1, q⟩ := hsp; wpAny_execs_nil ⟨σ1, H1, J1.ofTry I.ok, q⟩
  | brk => exact let ⟨σ1, H1, J1, q⟩ := hsp; ⟨σ1, H1, J1.ofTry I.ok, q⟩
  | cont => exact let ⟨σ1, H1, J1, q⟩ := hsp; ⟨σ1, H1, J1.ofTry I.ok, q⟩
  | ret u => exact let ⟨v, σ1, H1, J1, r, q⟩ := hsp; ⟨v, σ1, H1, J1.ofTry I.ok, r, q⟩
end
/-! ### isinstance of such a value, its fields -/
/-- what isinstance and fields lean on, of an own exception class -/
structure ExF (K : PySem.W.Frag) (C : Addr) : Prop where
  ga : PySem.W.findIn K (.ref C) "__getattribute__" = some (some (.builtin "BaseException.__getattribute__"))
  gt : PySem.W.findIn K (.ref C) "__getattr__" = some none
  sb : PySem.W.subIn K (.ref C) (.type "BaseException") = some true
  hd : PySem.W.hasDictIn K C = true
  cl : PySem.W.findIn K (.ref C) "__class__" = some (some (.builtin "object.__class__"))
  sp : PySem.W.specialIn K (.builtin "object.__class__") "__get__" = some (some (.builtin "getset_descriptor.__get__"))
  tk : PySem.W.takesIn K (.builtin "object.__class__") = some true
  mr : PySem.W.mroIn K C (.type "object") = some true
def exfB (K : PySem.W.Frag) (C : Addr) : Bool :=
  decide (PySem.W.findIn K (.ref C) "__getattribute__" = some (some (.builtin "BaseException.__getattribute__"))) && (decide (PySem.W.findIn K (.ref C) "__getattr__" = some none) && (decide (PySem.W.subIn K (.ref C) (.type "BaseException") = some true) &&
  (PySem.W.hasDictIn K C && (decide (PySem.W.findIn K (.ref C) "__class__" = some (some (.builtin "object.__class__"))) && (decide (PySem.W.specialIn K (.builtin "object.__class__") "__get__" = some (some (.builtin "getset_descriptor.__get__"))) &&
  (decide (PySem.W.takesIn K (.builtin "object.__class__") = some true) && decide (PySem.W.mroIn K C (.type "object") = some true)))))))
theorem exfB_ok {K : PySem.W.Frag} {C : Addr} (h : exfB K C = true) : ExF K C := by
  unfold exfB at h
  simp only [Bool.and_eq_true, decide_eq_true_eq] at h
  obtain ⟨a, b, c, d, e, f, g, i⟩ := h
  exact ⟨a, b, c, d, e, f, g, i⟩
theorem clsIn_of {K : PySem.W.Frag} {C : Addr} (h : PySem.W.hasDictIn K C = true) : (PySem.W.clsIn K C).isSome = true := by
  obtain ⟨cd, hc, _⟩ := PySem.W.any_some h
  rw [hc]
  rfl
/-- the object at a of the class at C, as the library tells of instances -/
theorem exv_inst {X : Cx} {pins : List (Addr × Obj)} {σ : L2.St} {H : Hp} {s : Shared} {a C : Addr} {d : Option Addr} (I : Inv X pins σ H s) (e : H a = some (ExV (.ref C) d a)) (hd : ∀ dx, d = some dx → ∃ fs, H dx = some (.xd fs)) :
    ∃ ox od, PySem.W.InstAt s.heap a ox C od ∧ (∀ dx fs, d = some dx → H dx = some (.xd fs) → ∃ o, od = some o ∧ ∀ f, ∃ u, PySem.W.lookIn f o = some u ∧ RelO (fs.lookup f) u) := by
  obtain ⟨oe, vs, g, z, fl⟩ := exv_at I.hok e
  have nc : PySem.W.notCls oe = true := by
    unfold PySem.W.notCls
    rw [fl] <;> rfl
  cases d with
  | none => exact ⟨oe, none, ⟨g, z.1, nc, by rw [z.2]; trivial⟩, fun dx fs q => nomatch q⟩
  | some dx =>
    obtain ⟨fs, hfs⟩ := hd dx rfl
    have hx : ObjOk X.prog X.w H s.heap dx (.xd fs) := I.hok dx _ hfs
    obtain ⟨mA, hns, hr⟩ := hx
    obtain ⟨o, ho, look⟩ := lookIn_ns hns
    refine ⟨oe, some o, ⟨g, z.1, nc, by rw [z.2]; exact ho⟩, fun dx' fs' q q' => ?_⟩
    cases q
    rw [hfs] at q'
    cases q'
    exact ⟨o, rfl, fun f => ⟨mA f, look f, hr f⟩⟩
def rIsV (K : PySem.W.Frag) : List V → Hp → VK → Prop := fun xs H Q => ∃ (a C : Addr) (d : Option Addr) (c : V) (u : Value) (b : Bool), xs = [.ref a, c] ∧ H a = some (ExV (.ref C) d a) ∧ (∀ dx, d = some dx → ∃ fs, H dx = some (.xd fs)) ∧ ExF K C ∧ ClsV c u ∧ PySem.W.kitOne K (.ref C) u = some b ∧ Q (.bl b) H
theorem call_isV {X : Cx} : CallR X (.builtin "isinstance") (rIsV X.K) := by
  intro pins s σ H xs us Q I r h
  obtain ⟨a, C, d, c, u, b, rfl, e, hd, F, k, kit, q⟩ := h
  obtain ⟨u1, u2, rfl, r1, r2⟩ := vals2 r
  have e2 := k.eq r2
  subst e2
  cases r1
  obtain ⟨ox, od, J, _⟩ := exv_inst I e hd
  exact PySem.W.kia_one (PySem.W.kitx_exc (clsIn_of F.hd) F.ga F.gt F.sb F.cl F.sp F.tk F.mr) I.kIn J kit (fun z => nomatch z) fun tk => ⟨.bl b, H, I.tok tk, rfl, q⟩
/-- what may be anything: a plain value or such a one -/
def rIsA (K : PySem.W.Frag) : List V → Hp → VK → Prop := fun xs H Q => rIsi K xs H Q ∨ rIsV K xs H Q
theorem call_isA {X : Cx} : CallR X (.builtin "isinstance") (rIsA X.K) := by
  intro pins s σ H xs us Q I r h
  rcases h with h | h
  · exact call_isi pins s σ H xs us Q I r h
  · exact call_isV pins s σ H xs us Q I r h
/-- e.f of such a value -/
def tExF (K : PySem.W.Frag) (f : Str) (te : TE) : TE := fun σ H Q => te σ H fun x H1 => ∃ (a C dx : Addr) (fs : List (Str × V)) (v : V), x = .ref a ∧ H1 a = some (ExV (.ref C) (some dx) a) ∧ H1 dx = some (.xd fs) ∧ ExF K C ∧ PySem.W.findIn K (.ref C) f = some none ∧ fs.lookup f = some v ∧ Q v H1
theorem pe_exf {X : Cx} {e : Expr} {te : TE} {pos : Pos} {f : Str} (he : PE X e te) (hb : attributeBase e f X.env (eval e X.env) = eval e X.env := by rfl) : PE X (.Attribute e f pos) (tExF X.K f te) := by
  refine ⟨fun pins s σ H Q I h => ?_⟩
  refine attr_of hb (thn (he.run pins s σ H _ I h) fun u s1 ⟨x, H1, I1, rx, a, C, dx, fs, v, ex, ea, ed, F, hno, l, q⟩ => ?_)
  subst ex
  cases rx
  obtain ⟨ox, od, J, hl⟩ := exv_inst I1 ea fun dx' z => by cases z; exact ⟨fs, ed⟩
  obtain ⟨o, rfl, look⟩ := hl dx fs rfl ed
  obtain ⟨m, h1, h2⟩ := look f
  rw [l] at h2
  obtain ⟨u, hu, ru⟩ := RelO.some_of (v := v) (o := m) h2
  exact HandSPX.exc_get I1.kIn J F.ga F.gt F.sb (PySem.W.findObj_own F.hd hno rfl (by rw [h1, hu])) (handed_of ru) ⟨v, H1, I1.tok _, ru, q⟩
end Nw

namespace Nw
open PySem PySem.Spec PyProof.Rows L2
/-! ### own exception classes with fields: what the head tells of them -/
def oexC (C : Addr) (mro : List Value) (sl : List (Option Value)) : Bool := match mro, sl with
  | .ref c :: bm, [_, _, _, _, some (.builtin n), _] => decide (c = C) && (decide (n = "ValueError.__new__") && PySem.HandSPX.refsVE bm)
  | _, _ => false
def oexO (K : PySem.W.Frag) (C : Addr) : Bool := match K.lookup C with
  | some ⟨.type t, _, .cls cd, sl⟩ => decide (t = "type") && (cd.hasDict && (!cd.hasDel && oexC C cd.mro sl.toList))
  | _ => false
def oexB (K : PySem.W.Frag) (C : Addr) : Bool := oexO K C && (decide (PySem.W.findIn K (.ref C) "__setattr__" = some (some (.builtin "object.__setattr__"))) &&
  (decide (PySem.W.subIn K (.ref C) (.type "BaseException") = some true) && (decide (PySem.W.typeIn K (.ref C) = some (.type "type")) && PySem.W.keepIn K (.ref C))))
theorem oexB_ok {K : PySem.W.Frag} {C : Addr} (h : oexB K C = true) : OexC K C := by
  unfold oexB at h
  simp only [Bool.and_eq_true, decide_eq_true_eq] at h
  obtain ⟨h0, h1, h2, h3, h4⟩ := h
  refine ⟨?_, h1, h2, h3, h4⟩
  unfold oexO at h0
  split at h0
  · rename_i t dd cd sl hl
    simp only [Bool.and_eq_true, decide_eq_true_eq, Bool.not_eq_true'] at h0
    obtain ⟨rfl, hd, hdel, hc⟩ := h0
    unfold oexC at hc
    split at hc
    · rename_i c bm k0 k1 k2 k3 n k5 hm hs
      simp only [Bool.and_eq_true, decide_eq_true_eq] at hc
      obtain ⟨rfl, rfl, hb⟩ := hc
      obtain ⟨nm, bs, mro, ns, qn, hdd, sn, sub, ab, col, del⟩ := cd
      dsimp only at hm hd hdel
      subst hm hd hdel
      obtain ⟨ls⟩ := sl
      dsimp only at hs
      subst hs
      exact ⟨nm, qn, ns, bs, bm, sn, sub, ab, col, dd, k0, k1, k2, k3, k5, hl, hb⟩
    · cases hc
  · cases h0
/-- the class above them: its own __init__ is ValueError's -/
structure OeI (K : PySem.W.Frag) (C : Addr) : Prop where
  sp : PySem.W.specialIn K (.ref C) "__getattribute__" = some (some (.builtin "type.__getattribute__"))
  rd : PySem.W.readsIn K C (.type "type") = true
  at_ : PySem.W.findCls K (.ref C) (.type "type") "__init__" = some (.val (.builtin "ValueError.__init__"))
def veiB : Option PySem.W.CFound → Bool
  | some (.val (.builtin n)) => decide (n = "ValueError.__init__")
  | _ => false
theorem veiB_ok {o : Option PySem.W.CFound} (h : veiB o = true) : o = some (.val (.builtin "ValueError.__init__")) := by
  unfold veiB at h
  split at h
  · rw [of_decide_eq_true h]
  · cases h
def oeiB (K : PySem.W.Frag) (C : Addr) : Bool := decide (PySem.W.specialIn K (.ref C) "__getattribute__" = some (some (.builtin "type.__getattribute__"))) && (PySem.W.readsIn K C (.type "type") &&
  veiB (PySem.W.findCls K (.ref C) (.type "type") "__init__"))
theorem oeiB_ok {K : PySem.W.Frag} {C : Addr} (h : oeiB K C = true) : OeI K C := by
  unfold oeiB at h
  simp only [Bool.and_eq_true, decide_eq_true_eq] at h
  exact ⟨h.1, h.2.1, veiB_ok h.2.2⟩
/-- C0.__init__(self, ..) -/
theorem pe_oeinit {X : Cx} {c : Str} {C0 : Addr} {e : Expr} {es : List Expr} {ta : TA} {p1 p2 pos : Pos} {pl : Sem Bool} (F : OeI X.K C0) (hm : X.mg c = some (.ref C0)) (ha : PA X (e :: es) ta) (hg : Gl X c := by rfl) (hdb : (c == ("__debug__" : Str)) = false := by decide)
    (hc : eval (.Call (.Attribute (.Name c p1) "__init__" p2) (e :: es) [] pos) X.env = (do
      let cv ← eval (.Name c p1) X.env
      standAt p2.atName
      let (g, fst) ← holding [cv] (getMethod cv "__init__" pl)
      callWith pos g fst (backTo pos (starEach (e :: es) X.env)) (backToKw pos (keywordEach [] X.env))) := by rfl)
    (hst : starEach (e :: es) X.env = (false, eval e X.env) :: starEach es X.env := by rfl) (hpl : (backTo pos (starEach es X.env)).any (·.1) = false := by rfl) :
    PE X (.Call (.Attribute (.Name c p1) "__init__" p2) (e :: es) [] pos) (tVeI X.K ta) := by
  refine ⟨fun pins s σ H Q I h => PySem.W.methodCall_KW (ld_glob I hg hm ?_ hdb) hc⟩
  refine PySem.W.method_cls I.kIn F.sp (PySem.W.cls_value I.kIn F.rd F.at_ (by first | rfl | decide +kernel) ?_)
  have I0 := I.tok (s.toks + 1)
  refine PyProof.Rows.callWith_method1 (thn (ha.run pos pins _ σ H _ I0 h) fun us s1 ⟨vs, H1, I1, rv, a, C, ws, ev, hl, T, ea, q⟩ => ?_) hst hpl
  subst ev
  cases rv with
  | @cons _ u0 _ ur ra rw' =>
    obtain rfl : u0 = Value.ref a := ra
    refine oinit_ok T I1 ea ?_ fun s' J => ⟨.non, H1, J, rfl, q⟩
    rw [← Paired.length rw', sizeLine_eq]
    omega
/-! ### an __init__ with one field, with two -/
def spX1 (K : PySem.W.Frag) (C : Addr) (f : Str) : Sp := fun vs H Q _ => ∃ (a : Addr) (v : V), vs = [.ref a, v] ∧ H a = some (exo a C none) ∧ ∀ dx, H dx = none → dx ≠ a → Q .non (upd (upd H dx (exd dx [(f, v)])) a (exo a C (some dx)))
def spX2 (K : PySem.W.Frag) (C : Addr) (f g : Str) : Sp := fun vs H Q _ => ∃ (a : Addr) (v w : V), vs = [.ref a, v, w] ∧ H a = some (exo a C none) ∧ ∀ dx, H dx = none → dx ≠ a → Q .non (upd (upd H dx (exd dx [(g, w), (f, v)])) a (exo a C (some dx)))
theorem upd_upd {H : Hp} {a : Addr} {o o' : HO} : upd (upd H a o) a o' = upd H a o' := by
  funext b
  by_cases h : b = a
  · rw [h, upd_same, upd_same]
  · rw [upd_ne h, upd_ne h, upd_ne h]
theorem upd_comm {H : Hp} {a b : Addr} {o u : HO} (h : a ≠ b) : upd (upd H a o) b u = upd (upd H b u) a o := by
  funext c
  by_cases h1 : c = a
  · rw [h1, upd_ne h, upd_same, upd_same]
  · by_cases h2 : c = b
    · rw [h2, upd_same, upd_ne h.symm, upd_same]
    · rw [upd_ne h2, upd_ne h1, upd_ne h1, upd_ne h2]
theorem made_heap {H1 : Hp} {a dx C : Addr} {fs : List (Str × V)} (na : H1 a = none) (ne : dx ≠ a) :
    upd (del (upd (upd (upd H1 a (exo a C none)) dx (exd dx fs)) a (exo a C (some dx))) a) dx (.xd fs) = upd H1 dx (.xd fs) := by
  funext b
  by_cases h : b = dx
  · rw [h, upd_same, upd_same]
  · rw [upd_ne h, upd_ne h]
    by_cases h2 : b = a
    · rw [h2, del_same, na]
    · rw [del_ne h2, upd_ne h2, upd_ne h, upd_ne h2]
/-- what X(e) asks behind its argument -/
theorem mk1 {K : PySem.W.Frag} {C : Addr} {f : Str} {v : V} {H1 : Hp} {Q : XK} (k : ∀ dx, H1 dx = none → Q (.ref C) (some dx) (upd H1 dx (.xd [(f, v)]))) :
    [v].length ≤ 1000 ∧ ∀ a, H1 a = none → spX1 K C f (.ref a :: ([v] ++ [])) (upd H1 a (exo a C none))
      (fun w H2 => w = .non ∧ ∃ (d : Addr) (fs : List (Str × V)), H2 a = some (exo a C (some d)) ∧ H2 d = some (exd d fs) ∧ H1 d = none ∧ Q (.ref C) (some d) (upd (del H2 a) d (.xd fs))) (fun _ _ _ => False) := by
  refine ⟨by simp, fun a na => ⟨a, v, rfl, upd_same, fun dx hdx ne => ⟨rfl, dx, _, upd_same, by rw [upd_ne ne]; exact upd_same, ?_, ?_⟩⟩⟩
  · rw [upd_ne ne] at hdx
    exact hdx
  · rw [made_heap na ne]
    refine k dx ?_
    rw [upd_ne ne] at hdx
    exact hdx
theorem mk2 {K : PySem.W.Frag} {C : Addr} {f g : Str} {v w : V} {H1 : Hp} {Q : XK} (k : ∀ dx, H1 dx = none → Q (.ref C) (some dx) (upd H1 dx (.xd [(g, w), (f, v)]))) :
    [v, w].length ≤ 1000 ∧ ∀ a, H1 a = none → spX2 K C f g (.ref a :: ([v, w] ++ [])) (upd H1 a (exo a C none))
      (fun w H2 => w = .non ∧ ∃ (d : Addr) (fs : List (Str × V)), H2 a = some (exo a C (some d)) ∧ H2 d = some (exd d fs) ∧ H1 d = none ∧ Q (.ref C) (some d) (upd (del H2 a) d (.xd fs))) (fun _ _ _ => False) := by
  refine ⟨by simp, fun a na => ⟨a, v, w, rfl, upd_same, fun dx hdx ne => ⟨rfl, dx, _, upd_same, by rw [upd_ne ne]; exact upd_same, ?_, ?_⟩⟩⟩
  · rw [upd_ne ne] at hdx
    exact hdx
  · rw [made_heap na ne]
    refine k dx ?_
    rw [upd_ne ne] at hdx
    exact hdx
section
variable {X : Cx} {P : Program} {w : World} {K : PySem.W.Frag} {mg : Str → Option Value} {base : Heap} {k : Nat} {f C : Addr} {ps : List Str} {sp : Sp} {E : XK} {x m : Str} {pos ppos apos : Pos} {e o : Expr} {es : List Expr} {ta : TE} {t : TA}
/-- X(e, ..), X an own class with its own __init__ -/
theorem pmk_oexC (O : OexC X.K C) (M : Meth X.K C "__init__" f) (G : Ok X.prog X.w X.K X.mg X.base CX0 k f ps sp) (hr : Room (k + 1) X.A) (hm : X.mg x = some (.ref C)) (ha : PA X (e :: es) t) (hg : Gl X x := by rfl) (hdb : (x == ("__debug__" : Str)) = false := by decide)
    (hst : starEach (e :: es) X.env = (false, eval e X.env) :: starEach es X.env := by rfl) (hpl : (backTo pos (starEach es X.env)).any (·.1) = false := by rfl) : PMk X (.Call (.Name x ppos) (e :: es) [] pos) (tMkO C sp [] t) := by
  obtain ⟨fd, F, b, kp, _⟩ := G.ok
  exact pmk_oex O M.at_ (beq_iff_eq.mp M.fn) F hr b .nil pass0 hg hm ha hdb hst hpl
/-- a def that may let exceptions out -/
theorem ok_ofX {qual : Str} {st : Stmt} {N : List Str} (F : FnAt K x qual st f) (S : FnScope N ps (defScope st))
    (hb : ∀ (kV doc pm : Value) (an : Option Addr) (cdv ct : Value) (us : List Value), us.length = ps.length → bindArgs (PySem.W.fnOf x qual (defArgs st) (defBody st) (defScope st) .none kV doc pm an cdv ct) ⟨us, []⟩ = pure (ps.zip us))
    (len : ∀ vs H Q E, sp vs H Q E → vs.length = ps.length)
    (hbody : ∀ (cdv : Value) (A : Around) (outer : List Env) (s : Shared) (H : Hp) (vs : List V) (Q : VK) (E : XK), Room k (A.deeper (envOfC qual (defScope st) s.heap.objs.size f cdv)) → sp vs H Q E →
      ∃ t, PSs (cxOf (L2.CX P w) P w K mg base N qual (defScope st) f cdv A outer s H E) (defBody st) t ∧ t { nx := fun _ H' => Q .non H', rt := Q } (start N vs) H) : Ok P w K mg base (L2.CX P w) (k + 1) f ps sp := by
  obtain ⟨fd, F⟩ := F
  exact ⟨fd, F.ok S len hbody, F.bindsN hb, F.kp, let ⟨oc, od, _, _, _, _, _, _, _, osl, _, lk, _⟩ := F.ex; ⟨oc, od, osl, lk⟩⟩
/-- where no exception is let out, though a callee may raise at other arguments -/
theorem passN : Passes (L2.CX X.prog X.w) X E0 := passL
/-- in a def's body: what a callee lets out goes out -/
theorem passE {E1 : Value → Shared → Prop} (hs : X.stack = X.env :: X.outer := by rfl) (hf : X.env.frame = some X.env.locals := by rfl) (hex : X.ex = [] := by rfl)
    (hx : X.xe = fun e s' => wpAny (model X.prog X.w) X.A (leaving X.env e) (fun _ s'' => L2.CX X.prog X.w X.outer X.H_0 X.s_0 E e s'') E1 s' := by rfl) : Passes (L2.CX X.prog X.w) X E := passes_call (takes_of hs hf hex hx) fun _ _ _ _ z => z
/-- in a try's body: the wish, for all slots of the right number -/
def EW (n : Nat) (W : WX) : XK := fun cls d H => ∀ σ : L2.St, σ.length = n → W cls d σ H
theorem Takes.len {W : WX} (t : Takes X W) : Takes X (fun cls d σ H => σ.length = X.N.length → W cls d σ H) := fun u s' ⟨a, B, sI, pins, σ, H, cls, d, e, I, nb, up, sky, na, os, ag, h⟩ =>
  t u s' ⟨a, B, sI, pins, σ, H, cls, d, e, I, nb, up, sky, na, os, ag, h I.len⟩
theorem passW {W : WX} (n : Nat) (t : Takes X W) (hn : X.N.length = n := by rfl) : Passes (L2.CX X.prog X.w) X (EW n W) := passes_call (Nw.Takes.len t) fun _ _ σ _ z hl => z σ (hl.trans hn)
theorem pe_callX (G : Ok X.prog X.w X.K X.mg X.base (L2.CX X.prog X.w) k f ps sp) (hr : Room k X.A) (hm : X.mg x = some (.ref f)) (hx : Passes (L2.CX X.prog X.w) X E) (ha : PA X (e :: es) t) (hg : Gl X x := by rfl) (hdb : (x == ("__debug__" : Str)) = false := by decide)
    (hst : starEach (e :: es) X.env = (false, eval e X.env) :: starEach es X.env := by rfl) (hpl : (backTo pos (starEach es X.env)).any (·.1) = false := by rfl) : PE X (.Call (.Name x ppos) (e :: es) [] pos) (tCall sp [] E t) := by
  obtain ⟨fd, F, b, kp, _⟩ := G.ok
  exact pe_call F hr hg hm kp b .nil hx ha hdb hst hpl
theorem pe_makeX (M : Mk X.K C f) (G : Ok X.prog X.w X.K X.mg X.base (L2.CX X.prog X.w) k f ps sp) (hr : Room (k + 1) X.A) (hm : X.mg x = some (.ref C)) (hx : Passes (L2.CX X.prog X.w) X E) (ha : PA X (e :: es) t) (hg : Gl X x := by rfl) (hdb : (x == ("__debug__" : Str)) = false := by decide)
    (hst : starEach (e :: es) X.env = (false, eval e X.env) :: starEach es X.env := by rfl) (hpl : (backTo pos (starEach es X.env)).any (·.1) = false := by rfl) : PE X (.Call (.Name x ppos) (e :: es) [] pos) (tMake C sp [] E t) := by
  obtain ⟨fd, F, b, kp, _⟩ := G.ok
  exact pe_make M F hr hg hm b .nil hx ha hdb hst hpl
/-- a op b by the class's own method, which may raise -/
def rOwnX (C : Addr) (sp : Sp) (E : XK) : R2 := fun x y H Q => ∃ a b dx dy fs gs, x = .ref a ∧ y = .ref b ∧ H a = some (.ins C dx fs) ∧ H b = some (.ins C dy gs) ∧ sp [.ref a, .ref b] H (fun v H' => ∃ p, v = .ref p ∧ Q v H') E
theorem op_ownX {op : Operator} {nm : Str} (M : Meth X.K C nm f) (he : PySem.dunder op.info.2 = nm) (hc : PySem.W.selfFirst X.K C = true) (G : Ok X.prog X.w X.K X.mg X.base (L2.CX X.prog X.w) k f ps sp) (hr : Room k X.A) (hx : Passes (L2.CX X.prog X.w) X E) : OpR X (binaryOp op) (rOwnX C sp E) := by
  intro pins s σ H x y v u Q I rx ry h
  obtain ⟨fd, F, b, kp, _⟩ := G.ok
  obtain ⟨p, q, dx, dy, fs, gs, rfl, rfl, hp, hq, h⟩ := h
  cases rx
  cases ry
  obtain ⟨_, Jp, _⟩ := ins_get I.hok hp
  obtain ⟨_, Jq, _⟩ := ins_get I.hok hq
  obtain ⟨od, Jp, _⟩ := Jp.look
  obtain ⟨od', Jq, _⟩ := Jq.look
  obtain ⟨m, fr⟩ := I.fr
  refine PySem.W.binop_K fr I.ok.mod.kin Jp Jq.type hc (by rw [he]; exact M.at_) M.fn ?_
  refine wpAny_mono (run_fn (vs := [.ref p, .ref q]) (dvs := []) (ds := []) (E := E) F hr b .nil hx I (.cons rfl (.cons rfl .nil)) h) (fun v s' ⟨z, H', I', rz, r, e, k⟩ => ?_) fun _ _ z => z
  subst e
  cases rz
  exact ⟨.ref r, _, I', rfl, k⟩
end
end Nw

namespace Nw
open PySem PySem.Spec PyProof.Rows L2
/-! ### properties: the getter found through its class -/
def propAt (K : PySem.W.Frag) (C : Addr) (m : Str) : Addr := match PySem.W.findIn K (.ref C) m with
  | some (some (.ref p)) => p
  | _ => 0
def propGet (K : PySem.W.Frag) (C : Addr) (m : Str) : Addr := match PySem.W.recIn K (propAt K C m) "property" with
  | some (.ref g :: _) => g
  | _ => 0
def recB (K : PySem.W.Frag) (p g : Addr) : Bool := match PySem.W.recIn K p "property" with
  | some (.ref h :: _) => decide (h = g)
  | _ => false
def propB (K : PySem.W.Frag) (C : Addr) (m : Str) : Bool := decide (PySem.W.findIn K (.ref C) m = some (some (.ref (propAt K C m)))) && (decide (PySem.W.specialIn K (.ref (propAt K C m)) "__get__" = some (some (.builtin "property.__get__"))) &&
  (decide (PySem.W.takesIn K (.ref (propAt K C m)) = some true) && recB K (propAt K C m) (propGet K C m)))
theorem propB_ok {K : PySem.W.Frag} {C : Addr} {m : Str} (h : propB K C m = true) : PropOf K C m (propAt K C m) (propGet K C m) := by
  unfold propB at h
  simp only [Bool.and_eq_true, decide_eq_true_eq] at h
  obtain ⟨h1, h2, h3, h4⟩ := h
  refine ⟨h1, h2, h3, ?_⟩
  unfold recB at h4
  split at h4
  · rename_i g r e
    rw [← of_decide_eq_true h4]
    exact ⟨r, e⟩
  · cases h4
/-- a function by its address -/
def fnAtA (K : PySem.W.Frag) (f : Addr) : He.FnW := match K.lookup f with
  | some ⟨_, _, .func fd, _⟩ => some (fd.name, fd.qualname, fd.params, fd.body, fd.scope, fd.globals, fd.closure, fd.builtins)
  | _ => none
def fnOkA (K : PySem.W.Frag) (f : Addr) (q : Str) : Bool := PySem.W.keepIn K (.ref f) && (match K.lookup f with
  | some ⟨_, _, .func fd, _⟩ => PySem.W.codeIn K fd.code q && (He.dflB K fd.defaults [] && He.kwdB K fd.kwdefaults [])
  | _ => false)
theorem funD_at {K : PySem.W.Frag} {f : Addr} {d : He.DefD} (e : fnAtA K f = d.val) (c : fnOkA K f d.qual = true) : ∃ fd, FunD K d.name d.qual d.params d.body d.scope [] [] f fd := by
  unfold fnOkA at c
  rw [Bool.and_eq_true] at c
  obtain ⟨kp, c⟩ := c
  unfold fnAtA at e
  split at e
  · rename_i oc od fd osl lk
    rw [lk] at c
    obtain ⟨a1, a2, a3, a4, a5, a6, a7, a8, a9, a10, a11, a12, a13, a14, a15⟩ := fd
    unfold He.DefD.val at e
    simp only [Option.some.injEq, Prod.mk.injEq] at e
    obtain ⟨e1, e2, e3, e4, e5, e6, e7, e8⟩ := e
    subst e1 e2 e3 e4 e5 e6 e7 e8
    simp only [Bool.and_eq_true] at c
    exact ⟨_, ⟨oc, od, a8, a9, a10, a11, a12, a13, a14, osl, rfl, lk, c.1, He.dflB_ok c.2.1, He.kwdB_ok c.2.2⟩, kp⟩
  · cases e
/-- the head's look, with the getters and the model's own statics -/
abbrev GetD : Type := (Str × Str) × He.DefD
def getAd (K : PySem.W.Frag) (g : GetD) : Addr := propGet K (He.ga K g.1.1) g.1.2
abbrev AlP : Type := (He.AlD × Bool) × (List He.FnW × Bool)
def frP (n : Nat) (g : Addr → Option Obj) : PySem.W.Frag := He.frT g (cStatics :: He.asD g n)
def obsK (fa : List He.Fa) (fn : List He.DefD) (tf : List He.Defn) (ex : PySem.W.Frag → Bool) (gs : List GetD) (g : Addr → Option Obj) (K : PySem.W.Frag) : AlP :=
  ((He.obsD fa fn K, ex K && He.tabsB g tf K), (gs.map fun d => fnAtA K (getAd K d), gs.all fun d => fnOkA K (getAd K d) d.2.qual))
def obsP (n : Nat) (fa : List He.Fa) (fn : List He.DefD) (tf : List He.Defn) (ex : PySem.W.Frag → Bool) (gs : List GetD) (g : Addr → Option Obj) : AlP := obsK fa fn tf ex gs g (frP n g)
def valP (fn : List He.DefD) (gs : List GetD) : AlP := ((He.valD fn, true), (gs.map fun d => d.2.val, true))
structure SaysP (fa : List He.Fa) (fn : List He.DefD) (tf : List He.Defn) (ex : PySem.W.Frag → Bool) (gs : List GetD) (h : Heap) (K : PySem.W.Frag) : Prop where
  d : He.SaysD fa fn K
  more : ex K = true
  hd : ∀ p ∈ tf, PySem.W.codeHdIn K (He.cT K p).1 (He.cT K p).2 = true
  out : ∀ p ∈ tf, K.lookup (He.cT K p).2 = none
  empty : ∀ p ∈ tf, h.get? (He.cT K p).2 = some { cls := .none, data := .fields #[] }
  fns : (gs.map fun d => fnAtA K (getAd K d)) = gs.map fun d => d.2.val
  oks : (gs.all fun d => fnOkA K (getAd K d) d.2.qual) = true
theorem tab_at {h : Heap} {tf : List He.Defn} {K : PySem.W.Frag} (e : He.tabsB h.get? tf K = true) : ∀ p ∈ tf, PySem.W.codeHdIn K (He.cT K p).1 (He.cT K p).2 = true ∧ ∃ o, h.get? (He.cT K p).2 = some o ∧ He.emptyTab o = true := fun p hp => by
  have z := List.all_eq_true.mp e p hp
  rw [Bool.and_eq_true] at z
  refine ⟨z.1, ?_⟩
  have z2 := z.2
  split at z2
  · rename_i o q
    exact ⟨o, q, z2⟩
  · cases z2
theorem saysP_of {n : Nat} {fa : List He.Fa} {fn : List He.DefD} {tf : List He.Defn} {ex : PySem.W.Frag → Bool} {gs : List GetD} {h : Heap} (e : obsP n fa fn tf ex gs h.get? = valP fn gs) : SaysP fa fn tf ex gs h (frP n h.get?) := by
  have e2 : (ex (frP n h.get?) && He.tabsB h.get? tf (frP n h.get?)) = true := congrArg (fun z : AlP => z.1.2) e
  rw [Bool.and_eq_true] at e2
  have tb := tab_at e2.2
  refine ⟨congrArg (fun z : AlP => z.1.1) e, e2.1, fun p hp => (tb p hp).1, fun p hp => ?_, fun p hp => ?_, congrArg (fun z : AlP => z.2.1) e, congrArg (fun z : AlP => z.2.2) e⟩
  · obtain ⟨_, o, q, z⟩ := tb p hp
    exact He.frT_none q z
  · obtain ⟨_, o, q, z⟩ := tb p hp
    rw [q, He.emptyTab_eq z]
def hookP (n : Nat) (fa : List He.Fa) (fn : List He.DefD) (tf : List He.Defn) (ex : PySem.W.Frag → Bool) (gs : List GetD) : PySem.W.Hook where
  α := AlP
  obs := fun s => obsP n fa fn tf ex gs s.heap.get?
  val := fun _ => valP fn gs
  says := fun _ h => ∃ K : PySem.W.Frag, K.In h ∧ SaysP fa fn tf ex gs h K
  of := fun _ _ e => ⟨_, He.frT_in, saysP_of e⟩
  keeps := fun _ _ _ ⟨K, hK, c⟩ k => ⟨K, PySem.W.Frag.In.keeps hK k, ⟨c.d, c.more, c.hd, c.out, fun p hp => k _ _ (c.empty p hp), c.fns, c.oks⟩⟩
theorem obsP_eq {n : Nat} {fa : List He.Fa} {fn : List He.DefD} {tf : List He.Defn} {ex : PySem.W.Frag → Bool} {gs : List GetD} {g : Addr → Option Obj} {s : Shared} (h : ∀ a, g a = s.heap.get? a) : obsP n fa fn tf ex gs g = (hookP n fa fn tf ex gs).obs s := by
  obtain rfl : g = s.heap.get? := funext h
  rfl
theorem SaysP.get {fa : List He.Fa} {fn : List He.DefD} {tf : List He.Defn} {ex : PySem.W.Frag → Bool} {gs : List GetD} {h : Heap} {K : PySem.W.Frag} (c : SaysP fa fn tf ex gs h K) (i : Nat) {d : GetD} (e : gs[i]? = some d := by rfl) :
    ∃ fd, FunD K d.2.name d.2.qual d.2.params d.2.body d.2.scope [] [] (getAd K d) fd := by
  have e2 : (gs.map fun d => fnAtA K (getAd K d))[i]? = (gs.map fun d => d.2.val)[i]? := by rw [c.fns]
  rw [List.getElem?_map, List.getElem?_map, e] at e2
  exact funD_at (Option.some.inj e2) (List.all_eq_true.mp c.oks d (List.mem_of_getElem? e))
theorem pe_propC {X : Cx} {k : Nat} {C p g : Addr} {f : Str} {ps : List Str} {sp : Sp} {e : Expr} {pos : Pos} {ta : TE} (c : Cls X.K C) (hp : PropOf X.K C f p g) (G : Ok X.prog X.w X.K X.mg X.base CX0 k g ps sp) (hr : Room (k + 1) X.A) (he : PE X e ta)
    (hab : attributeBase e f X.env (eval e X.env) = eval e X.env := by rfl) : PE X (.Attribute e f pos) (tProp C sp [] E0 ta) := by
  obtain ⟨fd, F, b, _⟩ := G.ok
  exact pe_prop he c hp F hr b .nil pass0 hab
theorem xfc {K : PySem.W.Frag} {C : Addr} (F : ExF K C) : XfC K C := ⟨F.ga, F.gt, F.sb, F.hd⟩
end Nw

namespace Nw
open PySem PySem.Spec PyProof.Rows L2
/-! ### tables of code objects beside the view -/
def noTb (I : Hp) : Prop := ∀ b ps, I b ≠ some (.tbl ps)
section
variable {T : Addr → Prop} {I H I' H' H1 : Hp} {Tb : List (Addr × Str)} {D : DA} {n m : Nat}
theorem Grow.noTb (g : Grow T I H I' H') (h : noTb I) : Nw.noTb I' := fun b ps e => h b ps (g.tbl b ps e)
theorem ext_sub (sb : Same I H) (h : noTb I) (e : LamX.ExtN H H1) : Same I H1 := fun b o q => e b o (sb b o q) fun ps z => h b ps (by rw [← z]; exact q)
theorem tabs_keep (t : LamX.Tabs Tb H) (g : Grow T I H I' H') (h : ∀ b o, H b = some o → ((∃ ps, o = .tbl ps) ∨ ∃ φ, o = .ext φ) → ¬ T b) : LamX.Tabs Tb H' := fun p hp => by
  obtain ⟨ps, h1, h2, h3⟩ := t p hp
  refine ⟨ps, g.keep _ _ (h _ _ h1 (.inl ⟨_, rfl⟩)) h1, h2, fun pos cv hc => ?_⟩
  obtain ⟨c, e1, e2⟩ := h3 pos cv hc
  exact ⟨c, e1, g.keep _ _ (h _ _ e2 (.inr ⟨_, rfl⟩)) e2⟩
/-- a state of a law that makes lambdas: its draws, its tables -/
structure LSt (Tb : List (Addr × Str)) (D : DA) (n : Nat) (I H : Hp) : Prop where
  drw : Drw D n I H
  nt : noTb I
  tabs : LamX.Tabs Tb H
theorem LSt.sub (s : LSt Tb D n I H) : Same I H := s.drw.sub
theorem LSt.grow (s : LSt Tb D n I H) (g : Grow No I H I' H') : LSt Tb D n I' H' := ⟨s.drw.grow g, g.noTb s.nt, tabs_keep s.tabs g fun _ _ _ _ z => z⟩
theorem LSt.draw (s : LSt Tb D n I H) (g : Grow (TD D) I H I' H') (d : Drw D m I' H') : LSt Tb D m I' H' := by
  obtain ⟨_, _, _, _, r, _⟩ := s.drw.ex
  refine ⟨d, g.noTb s.nt, tabs_keep s.tabs g fun b o e k t => ?_⟩
  rcases t with rfl | rfl | rfl
  · rw [r.hd] at e; cases e; rcases k with ⟨_, z⟩ | ⟨_, z⟩ <;> cases z
  · rw [r.hg] at e; cases e; rcases k with ⟨_, z⟩ | ⟨_, z⟩ <;> cases z
  · rw [r.hl] at e; cases e; rcases k with ⟨_, z⟩ | ⟨_, z⟩ <;> cases z
theorem LSt.mono (s : LSt Tb D n I H) (h : n ≤ m) : LSt Tb D m I H := ⟨s.drw.mono h, s.nt, s.tabs⟩
theorem Drw.ext (d : Drw D n I H) (h : noTb I) (e : LamX.ExtN H H1) : Drw D n I H1 := by
  obtain ⟨a, b, c, f, s, r⟩ := d.ex
  exact ⟨a, b, c, f, ⟨ext_sub s.sub h e, s.vd, s.vg, s.vl, s.dg, s.dl, s.gl, e _ _ s.hd (fun _ z => nomatch z), e _ _ s.hg (fun _ z => nomatch z), e _ _ s.hl (fun _ z => nomatch z)⟩, r⟩
theorem LSt.ext (s : LSt Tb D n I H) (e : LamX.ExtN H H1) (t : LamX.Tabs Tb H1) : LSt Tb D n I H1 := ⟨s.drw.ext s.nt e, s.nt, t⟩
end
/-! ### a def that calls what it got and tells the error -/
def EO (K : PySem.W.Frag) (CO : Addr) (Q : VK) : XK := fun cls d H => PySem.W.exmOne K cls (.ref CO) = some true ∧ ∀ a, H a = none → Q (.ref a) (upd H a (ExV cls d a))
def TTo (K : PySem.W.Frag) (CO : Addr) : (XK → Hp → VK → Prop) → Hp → VK → Prop := fun tl H Q => tl (EO K CO Q) H fun _ H2 => Q .non H2
section
variable {P : Program} {w : World} {K : PySem.W.Frag} {mg : Str → Option Value} {base : Heap} {k : Nat} {ps : List Str} {sp : Sp} {N : List Str}
/-- the law's def, its own code object told -/
theorem okd_ofL {t qual : Str} {st : Stmt} {fd : FuncData} (F : FunD K t qual (defArgs st) (defBody st) (defScope st) [] [] (He.ga K t) fd) (S : FnScope N ps (defScope st)) (len : ∀ vs H Q E, sp vs H Q E → vs.length = ps.length)
    (hbody : ∀ (cdv : Value) (A : Around) (outer : List Env) (s : Shared) (H : Hp) (vs : List V) (Q : VK) (E : XK), cdv = .ref (He.codeOf K (t, none)) → Room k (A.deeper (envOfC qual (defScope st) s.heap.objs.size (He.ga K t) cdv)) → sp vs H Q E →
      ∃ u, PSs (cxOf CX0 P w K mg base N qual (defScope st) (He.ga K t) cdv A outer s H E).nox (defBody st) u ∧ u { nx := fun _ H' => Q .non H', rt := Q } (start N vs) H) : FnOk P w K mg base CX0 (k + 1) (He.ga K t) fd ps sp := by
  obtain ⟨oc, od, dV, kV, doc, pm, an, cdv, ct, osl, e, lk, hcd, _⟩ := F.ex
  obtain ⟨c, rfl⟩ := He.codeIn_ref hcd
  have hc : He.codeOf K (t, none) = c := He.codeOf_eq (p := (t, none)) lk (by rw [e])
  rw [e] at lk ⊢
  refine fn_of lk hcd S len fun A outer s H vs Q E hr h => ?_
  obtain ⟨u, h1, h2⟩ := hbody (.ref c) A outer s H vs Q E (by rw [hc]) hr h
  exact ⟨u, h1.nox, h2⟩
theorem ok_ofL {t qual : Str} {st : Stmt} (F : FnAt K t qual st (He.ga K t)) (S : FnScope N ps (defScope st))
    (hb : ∀ (kV doc pm : Value) (an : Option Addr) (cdv ct : Value) (us : List Value), us.length = ps.length → bindArgs (PySem.W.fnOf t qual (defArgs st) (defBody st) (defScope st) .none kV doc pm an cdv ct) ⟨us, []⟩ = pure (ps.zip us))
    (len : ∀ vs H Q E, sp vs H Q E → vs.length = ps.length)
    (hbody : ∀ (cdv : Value) (A : Around) (outer : List Env) (s : Shared) (H : Hp) (vs : List V) (Q : VK) (E : XK), cdv = .ref (He.codeOf K (t, none)) → Room k (A.deeper (envOfC qual (defScope st) s.heap.objs.size (He.ga K t) cdv)) → sp vs H Q E →
      ∃ u, PSs (cxOf CX0 P w K mg base N qual (defScope st) (He.ga K t) cdv A outer s H E).nox (defBody st) u ∧ u { nx := fun _ H' => Q .non H', rt := Q } (start N vs) H) : Ok P w K mg base CX0 (k + 1) (He.ga K t) ps sp := by
  obtain ⟨fd, F⟩ := F
  exact ⟨fd, okd_ofL F S len hbody, F.bindsN hb, F.kp, let ⟨oc, od, _, _, _, _, _, _, _, osl, _, lk, _⟩ := F.ex; ⟨oc, od, osl, lk⟩⟩
end
/-- x(lambda: body) -/
theorem pe_told {X : Cx} {Tb : List (Addr × Str)} {TT : (XK → Hp → VK → Prop) → Hp → VK → Prop} {x a : Str} {g c P : Addr} {k : Nat} {st : Stmt} {Ng : List Str} {params : Arguments} {body : Expr} {scope : Scope} {t : XK → TE} {p lpos pos : Pos}
    (F : FnAt X.K x x st g) (S : FnScope Ng [a] (defScope st)) (hm : X.mg x = some (.ref g)) (hG : ∀ cdv, LamX.GivesTo X Ng x (defScope st) g cdv (defBody st) a (X.env.qual ++ "<lambda>") TT)
    (TB : LamX.TabB X.base X.mg c P) (hcode : X.env.code = .ref c) (hT : Tb = [(P, X.env.qual ++ "<lambda>")]) (hr : Room (k + 2) X.A) (L : LamX.LamS X.env.scope scope)
    (hbody : ∀ (A : Around) (outer : List Env) (s : Shared) (H : Hp) (E : XK) (f c' : Addr), Room k (A.deeper (LamX.lamEnv X scope s.heap.objs.size f c')) → PE (LamX.lamCx X A outer s H E scope f c') body (t E))
    (hdef : defaultsOf params X.env = ([], []) := by rfl)
    (hbind : ∀ (q : Str) (cl : List (Str × Addr)) (pm cv ctv : Value), bindArgs (PySem.W.kla_fn "<lambda>" q params body scope cl pm cv ctv) ⟨[], []⟩ = pure [] := by intro _ _ _ _ _; rfl)
    (hb : ∀ (kV doc pm : Value) (an : Option Addr) (cdv ct : Value) (us : List Value), us.length = 1 → bindArgs (PySem.W.fnOf x x (defArgs st) (defBody st) (defScope st) .none kV doc pm an cdv ct) ⟨us, []⟩ = pure ([a].zip us) := by intro _ _ _ _ _ _ us hl; match us, hl with | [_], _ => rfl)
    (hg : Gl X x := by rfl) (hNg : Ng[0]? = some a := by rfl) (hva : Vis (defScope st) a := by first | exact Or.inl rfl | exact Or.inr (Or.inl rfl)) (hdb : (x == ("__debug__" : Str)) = false := by decide) (hd : (a == ("__debug__" : Str)) = false := by decide) (hcd : (a == ("__classdict__" : Str)) = false := by decide) :
    PE X (.Call (.Name x p) [.Lambda params body scope lpos] [] pos) (LamX.tLam Tb TT t) := by
  obtain ⟨fd, F⟩ := F
  have B := F.bindsN (ps := [a]) hb
  obtain ⟨oc, od, dV, kV, doc, pm, an, cdv, ct, osl, e, lk, hcd', _⟩ := F.ex
  subst e
  exact LamX.pe_lamcall hg hm F.kp lk hcd' B S hNg hva (hG cdv) TB hcode (by rw [hT]; exact List.mem_singleton.mpr rfl) (fun q hq _ => by rw [hT] at hq; rw [List.mem_singleton.mp hq]) hr L hdef hbind hbody hdb hd hcd
/-- where one asks within the law's text, by places -/
theorem call_isVK {X : Cx} {K : PySem.W.Frag} (h : X.K = K) : CallR X (.builtin "isinstance") (rIsV K) := h ▸ call_isV
theorem call_isAK {X : Cx} {K : PySem.W.Frag} (h : X.K = K) : CallR X (.builtin "isinstance") (rIsA K) := h ▸ call_isA
/-! ### the end -/
def noT (H : Hp) : Hp := fun b => match H b with
  | some (.tbl _) => none
  | o => o
theorem noT_sub {H : Hp} : Same (noT H) H := fun b o e => by
  unfold noT at e
  split at e
  · cases e
  · exact e
theorem noT_tb {H : Hp} : noTb (noT H) := fun b ps e => by
  unfold noT at e
  split at e
  · cases e
  · rename_i h
    exact h ps e
theorem noT_at {H : Hp} {b : Addr} {o : HO} (e : H b = some o) (n : NTb o) : noT H b = some o := by
  unfold noT
  rw [e]
  cases o <;> first | rfl | exact absurd rfl (n _)
theorem noT_seq {K : PySem.W.Frag} {H : Hp} {a : Addr} {xs : List V} (h : SqL K H a xs) : SqL K (noT H) a xs := by
  rcases h with h | h
  · refine .inl ?_
    rcases h with h | ⟨o, h⟩
    · exact .inl (noT_at h fun _ z => nomatch z)
    · exact .inr ⟨o, noT_at h fun _ z => nomatch z⟩
  · exact .inr h
end Nw

namespace Nw
open PySem PySem.Spec PyProof.Rows L2
/-! ### any value -/
inductive Dat where
  | non | bl (b : Bool) | int (i : Int) | str (l : List Nat) | tup (xs : List Dat) | lst | dic | obj
inductive isD (K : PySem.W.Frag) (I : Hp) : V → Dat → Prop where
  | non : isD K I .non .non
  | bl (b : Bool) : isD K I (.bl b) (.bl b)
  | int (i : Int) : isD K I (.int i) (.int i)
  | str (l : List Nat) (h : l.length ≤ 100000) : isD K I (.str (mk l)) (.str l)
  | tup {a : Addr} {vs : List V} {xs : List Dat} (h : I a = some (.tup vs)) (hl : vs.length = xs.length) (hd : ∀ (i : Nat) (v : V) (x : Dat), vs[i]? = some v → xs[i]? = some x → isD K I v x) : isD K I (.ref a) (.tup xs)
  | lst {a : Addr} {vs : List V} (h : I a = some (.lst vs)) : isD K I (.ref a) .lst
  | dic {a : Addr} {kvs : List (Key × V)} (h : I a = some (.dK kvs)) : isD K I (.ref a) .dic
  | obj {a C dx : Addr} {fs : List (Str × V)} (h : I a = some (.ins C dx fs)) (F : InsF K C) (c : Cls K C) (k1 : PySem.W.kitOne K (.ref C) (.type "str") = some false) (k2 : PySem.W.kitOne K (.ref C) (.type "tuple") = some false) : isD K I (.ref a) .obj
theorem isD.up {K : PySem.W.Frag} {I I' : Hp} {v : V} {x : Dat} (h : isD K I v x) (e : Same I I') : isD K I' v x := by
  induction h with
  | non => exact .non
  | bl b => exact .bl b
  | int i => exact .int i
  | str l h => exact .str l h
  | tup h hl hd ih => exact .tup (e _ _ h) hl ih
  | lst h => exact .lst (e _ _ h)
  | dic h => exact .dic (e _ _ h)
  | obj h F c k1 k2 => exact .obj (e _ _ h) F c k1 k2
def Dat.isStr : Dat → Bool
  | .str _ => true
  | _ => false
def Dat.isTup : Dat → Bool
  | .tup _ => true
  | _ => false
theorem isD.ty {K : PySem.W.Frag} {I H : Hp} {v : V} {x : Dat} (h : isD K I v x) (sb : Same I H) : ∃ t, TyX K H v t ∧ PySem.W.kitOne K t (.type "str") = some x.isStr ∧ PySem.W.kitOne K t (.type "tuple") = some x.isTup := by
  cases h with
  | non => exact ⟨_, .base .non, (show _ = some false from kit_ty (by decide +kernel)), (show _ = some false from kit_ty (by decide +kernel))⟩
  | bl b => exact ⟨_, .base (.bl b), (show _ = some false from kit_ty (by decide +kernel)), (show _ = some false from kit_ty (by decide +kernel))⟩
  | int i => exact ⟨_, .base (.int i), (show _ = some false from kit_ty (by decide +kernel)), (show _ = some false from kit_ty (by decide +kernel))⟩
  | str l h => exact ⟨_, .base (.str _), (show _ = some true from kit_ty (by decide +kernel)), (show _ = some false from kit_ty (by decide +kernel))⟩
  | tup h hl hd => exact ⟨_, .base (.tup (sb _ _ h)), (show _ = some false from kit_ty (by decide +kernel)), (show _ = some true from kit_ty (by decide +kernel))⟩
  | lst h => exact ⟨_, .base (.lst (sb _ _ h)), (show _ = some false from kit_ty (by decide +kernel)), (show _ = some false from kit_ty (by decide +kernel))⟩
  | dic h => exact ⟨_, .base (.dK (sb _ _ h)), (show _ = some false from kit_ty (by decide +kernel)), (show _ = some false from kit_ty (by decide +kernel))⟩
  | obj h F c k1 k2 => exact ⟨_, F.ty c (sb _ _ h), k1, k2⟩
theorem isD.tup3 {K : PySem.W.Frag} {I : Hp} {v : V} {x y z : Dat} (h : isD K I v (.tup [x, y, z])) : ∃ a v1 v2 v3, v = .ref a ∧ I a = some (.tup [v1, v2, v3]) ∧ isD K I v1 x ∧ isD K I v2 y ∧ isD K I v3 z := by
  cases h with
  | @tup a vs xs h hl hd =>
    match vs, hl with
    | [v1, v2, v3], _ => exact ⟨a, v1, v2, v3, rfl, h, hd 0 _ _ rfl rfl, hd 1 _ _ rfl rfl, hd 2 _ _ rfl rfl⟩
theorem isD.mk3 {K : PySem.W.Frag} {I : Hp} {a : Addr} {v1 v2 v3 : V} {x y z : Dat} (h : I a = some (.tup [v1, v2, v3])) (h1 : isD K I v1 x) (h2 : isD K I v2 y) (h3 : isD K I v3 z) : isD K I (.ref a) (.tup [x, y, z]) :=
  .tup h rfl fun i v d e1 e2 => by
    match i, e1, e2 with
    | 0, e1, e2 => cases e1; cases e2; exact h1
    | 1, e1, e2 => cases e1; cases e2; exact h2
    | 2, e1, e2 => cases e1; cases e2; exact h3
/-! ### the head's look, with dicts of texts -/
abbrev TabD : Type := Str × List Str
abbrev AlQ : Type := AlP × List (Option (List (Option (Str × Int))))
def obsQ (n : Nat) (fa : List He.Fa) (fn : List He.DefD) (tf : List He.Defn) (ex : PySem.W.Frag → Bool) (gs : List GetD) (ts : List TabD) (g : Addr → Option Obj) : AlQ := (obsP n fa fn tf ex gs g, ts.map fun t => He.dicW (frP n g) (He.ga (frP n g) t.1))
structure SaysQ (fa : List He.Fa) (fn : List He.DefD) (tf : List He.Defn) (ex : PySem.W.Frag → Bool) (gs : List GetD) (ts : List TabD) (w : World) (h : Heap) (K : PySem.W.Frag) : Prop extends SaysP fa fn tf ex gs h K where
  dics : (ts.map fun t => He.dicW K (He.ga K t.1)) = ts.map fun t => some (He.keysIn w.params t.2)
def hookQ (n : Nat) (fa : List He.Fa) (fn : List He.DefD) (tf : List He.Defn) (ex : PySem.W.Frag → Bool) (gs : List GetD) (ts : List TabD) : PySem.W.Hook where
  α := AlQ
  obs := fun s => obsQ n fa fn tf ex gs ts s.heap.get?
  val := fun w => (valP fn gs, ts.map fun t => some (He.keysIn w.params t.2))
  says := fun w h => ∃ K : PySem.W.Frag, K.In h ∧ SaysQ fa fn tf ex gs ts w h K
  of := fun w s e => by
    have z1 : obsP n fa fn tf ex gs s.heap.get? = valP fn gs := congrArg (fun z : AlQ => z.1) e
    have z2 : (ts.map fun t => He.dicW (frP n s.heap.get?) (He.ga (frP n s.heap.get?) t.1)) = ts.map fun t => some (He.keysIn w.params t.2) := congrArg (fun z : AlQ => z.2) e
    exact ⟨_, He.frT_in, saysP_of z1, z2⟩
  keeps := fun _ _ _ ⟨K, hK, c⟩ k => ⟨K, PySem.W.Frag.In.keeps hK k, ⟨c.d, c.more, c.hd, c.out, fun p hp => k _ _ (c.empty p hp), c.fns, c.oks⟩, c.dics⟩
theorem obsQ_eq {n : Nat} {fa : List He.Fa} {fn : List He.DefD} {tf : List He.Defn} {ex : PySem.W.Frag → Bool} {gs : List GetD} {ts : List TabD} {g : Addr → Option Obj} {s : Shared} (h : ∀ a, g a = s.heap.get? a) : obsQ n fa fn tf ex gs ts g = (hookQ n fa fn tf ex gs ts).obs s := by
  obtain rfl : g = s.heap.get? := funext h
  rfl
theorem SaysQ.tab {fa : List He.Fa} {fn : List He.DefD} {tf : List He.Defn} {ex : PySem.W.Frag → Bool} {gs : List GetD} {ts : List TabD} {w : World} {h : Heap} {K : PySem.W.Frag} (c : SaysQ fa fn tf ex gs ts w h K) (i : Nat) {t : TabD} (e : ts[i]? = some t := by rfl) :
    ∃ es n, KDict K w (He.ga K t.1) es n := by
  have e2 : (ts.map fun t => He.dicW K (He.ga K t.1))[i]? = (ts.map fun t => some (He.keysIn w.params t.2))[i]? := by rw [c.dics]
  rw [List.getElem?_map, List.getElem?_map, e] at e2
  exact He.dicW_ok (Option.some.inj e2)
/-- what a written dict holds -/
theorem kdct_of {K : PySem.W.Frag} {w : World} {a : Addr} {es : Array DictEntry} {n : Nat} {kvs : List (Str × He.Dv)} (D : KDict K w a es n) (h : He.valsB K a kvs = true) {q : Str × He.Dv} (hq : q ∈ kvs) : KDct K w a q.1 (q.2.v K) := by
  obtain ⟨u, h1, h2⟩ := He.valsB_ok h hq
  exact ⟨es, n, u, D.1, D.2, h1, h2⟩
end Nw

namespace Nw
open PySem PySem.Spec PyProof.Rows L2
/-! ### texts cut and doubled -/
theorem foldl_reps : ∀ (k : Nat) (l acc : List Nat), (List.replicate k l.toArray).foldl (fun x y => x ++ y) acc.toArray = (acc ++ (List.replicate k l).flatten).toArray
  | 0, _, acc => by simp
  | k + 1, l, acc => by
    rw [List.replicate_succ, List.foldl_cons, show acc.toArray ++ l.toArray = (acc ++ l).toArray by simp, foldl_reps k l (acc ++ l), List.replicate_succ, List.flatten_cons, List.append_assoc]
/-- a text times a number -/
theorem op_mulS {X : Cx} : OpR X (binaryOp .Mult) (fun x y H Q => ∃ (l : List Nat) (k : Nat), x = .str (mk l) ∧ y = .int k ∧ 2 ≤ k ∧ k ≤ 1000 ∧ l ≠ [] ∧ l.length ≤ 1000 ∧ Q (.str (mk (List.replicate k l).flatten)) H) := by
  intro pins s σ H x y v u Q I rx ry h
  obtain ⟨l, k, rfl, rfl, h1, h2, h3, h4, q⟩ := h
  obtain ⟨t, rfl⟩ := rx
  obtain ⟨t', rfl⟩ := ry
  have hlen : (mk l).length = l.length := by simp [mk, Str.length]
  have hpos : 0 < l.length := List.length_pos_iff.mpr h3
  have hn : ¬ ((k : Int) < 1) := by omega
  have hm : l.length * k ≤ 1000 * 1000 := Nat.mul_le_mul h4 h2
  have hfl : ((List.replicate k l).flatten).length = k * l.length := by simp
  have hlt : Builtin.Str.tooLong (l.length * k) = false := by
    unfold Builtin.Str.tooLong
    exact decide_eq_false (by rw [sizeLine_eq]; omega)
  refine PySem.P.mul_str (by rw [decide_eq_false (by omega), decide_eq_false (by omega)] <;> rfl) (fun _ _ => ?_) (fun _ _ => ?_) ?_
  · rw [hlen]
    have z : (1000 : Int) ≤ (2 ^ 63 - 1) / (k : Int) := Int.le_ediv_of_mul_le (by omega) (by omega)
    omega
  · rw [hlen, Int.toNat_natCast]
    exact hlt
  · rw [if_neg hn]
    have hc : ((k : Int) == 1 || (mk l).length == 0) = false := by
      rw [hlen, Bool.or_eq_false_iff]
      exact ⟨by simp; omega, by simp; exact h3⟩
    rw [hc, if_neg Bool.false_ne_true]
    have e : (⟨(List.replicate (k : Int).toNat (mk l).cps).foldl (· ++ ·) #[]⟩ : Str) = mk (List.replicate k l).flatten := by
      rw [Int.toNat_natCast]
      have z := foldl_reps k l []
      simp only [List.nil_append] at z
      show (⟨_⟩ : Str) = ⟨_⟩
      exact congrArg Str.mk z
    rw [e]
    refine ⟨?_, ⟨.str (mk (List.replicate k l).flatten), H, I.tok _, ⟨_, rfl⟩, q⟩⟩
    show (mk (List.replicate k l).flatten).length ≤ sizeLine
    have z : (mk (List.replicate k l).flatten).length = (List.replicate k l).flatten.length := by simp [mk, Str.length]
    rw [z, hfl, sizeLine_eq, Nat.mul_comm]
    omega
theorem cutS_take (l : List Nat) (k : Nat) : cutS (mk l) none (some (k : Int)) = mk (l.take k) := by
  unfold cutS HT.sIx
  have hlen : (mk l).length = l.length := by simp [mk, Str.length]
  simp only [List.drop_zero, Nat.sub_zero, hlen]
  show Str.mk _ = Str.mk _
  congr 2
  have e : (mk l).cps.toList = l := by simp [mk]
  rw [e]
  by_cases h : k ≤ l.length
  · congr 1
    rw [if_neg (by omega)]
    omega
  · rw [List.take_of_length_le (by omega : l.length ≤ k)]
    apply List.take_of_length_le
    rw [if_neg (by omega)]
    omega
theorem cutS_drop (l : List Nat) (k : Nat) : cutS (mk l) (some (k : Int)) none = mk (l.drop k) := by
  unfold cutS HT.sIx
  have hlen : (mk l).length = l.length := by simp [mk, Str.length]
  simp only [hlen]
  show Str.mk _ = Str.mk _
  congr 2
  have e : (mk l).cps.toList = l := by simp [mk]
  rw [e]
  rw [if_neg (by omega), Int.toNat_natCast]
  by_cases h : k ≤ l.length
  · rw [Nat.min_eq_left h]
    apply List.take_of_length_le
    rw [List.length_drop]
    omega
  · rw [Nat.min_eq_right (by omega), List.drop_of_length_le (Nat.le_refl _), List.drop_of_length_le (by omega)]
    simp
end Nw

namespace Nw
open PySem PySem.Spec PyProof.Rows L2
/-! ### promises of calls that stand under no guard, so that containers can be shown -/
structure FnG (P : Program) (w : World) (K : PySem.W.Frag) (mg : Str → Option Value) (base : Heap) (CX : CXT) (k : Nat) (f : Addr) (fd : FuncData) (ps : List Str) (sp : Sp) : Prop where
  len : ∀ vs H Q E, sp vs H Q E → vs.length = ps.length
  run : ∀ (A : Around) (outer : List Env) (s : Shared) (H : Hp) (args : Args) (us : List Value) (vs : List V) (Q : VK) (E : XK), Room k A → A.guards = some [] → Env0 P w K mg base A outer s H → BindsTo s fd args (ps.zip us) → Vals vs us → sp vs H Q E →
    codeAny (model P w) A (.call (.ref f) args) (CR CX outer P w H s Q E) s
structure OkG (P : Program) (w : World) (K : PySem.W.Frag) (mg : Str → Option Value) (base : Heap) (CX : CXT) (k : Nat) (f : Addr) (ps : List Str) (sp : Sp) : Prop where
  ok : ∃ fd, FnG P w K mg base CX k f fd ps sp ∧ Binds K fd ps [] ∧ PySem.W.keepIn K (.ref f) = true
section
variable {P : Program} {w : World} {K : PySem.W.Frag} {mg : Str → Option Value} {base : Heap} {X : Cx} {CX : CXT} {k : Nat} {f : Addr} {fd : FuncData} {ps N : List Str} {sp : Sp} {x qual : Str} {st : Stmt} {pos ppos : Pos} {e : Expr} {es : List Expr} {t : TA}
theorem FnG.of (F : FnOk P w K mg base CX k f fd ps sp) : FnG P w K mg base CX k f fd ps sp := ⟨F.len, fun A outer s H args us vs Q E hr _ => F.run A outer s H args us vs Q E hr⟩
theorem Ok.toG (G : Ok P w K mg base CX k f ps sp) : OkG P w K mg base CX k f ps sp := by
  obtain ⟨fd, F, b, kp, _⟩ := G.ok
  exact ⟨fd, .of F, b, kp⟩
/-- a def's body, its own code object told -/
theorem fng_of (F : FunD K x qual (defArgs st) (defBody st) (defScope st) [] [] f fd) (S : FnScope N ps (defScope st)) (len : ∀ vs H Q E, sp vs H Q E → vs.length = ps.length)
    (hbody : ∀ (cdv : Value) (A : Around) (outer : List Env) (s : Shared) (H : Hp) (vs : List V) (Q : VK) (E : XK), Room k (A.deeper (envOfC qual (defScope st) s.heap.objs.size f cdv)) → A.guards = some [] → sp vs H Q E →
      ∃ u, PSs (cxOf CX0 P w K mg base N qual (defScope st) f cdv A outer s H E).nox (defBody st) u ∧ u { nx := fun _ H' => Q .non H', rt := Q } (start N vs) H) : FnG P w K mg base CX0 (k + 1) f fd ps sp := by
  obtain ⟨oc, od, dV, kV, doc, pm, an, cdv, ct, osl, e, lk, hcd, _⟩ := F.ex
  subst e
  refine ⟨len, fun A outer s H args us vs Q E hr hg e0 hb r hsp => ?_⟩
  refine LamX.run_ofS (N := N) (ps := ps) lk hcd S hr e0 hb r (len _ _ _ _ hsp) fun hr' => ?_
  obtain ⟨u, h1, h2⟩ := hbody cdv A outer s H vs Q E hr' hg hsp
  exact ⟨u, h1.nox, h2⟩
/-- the law's own, its code object told -/
theorem fngL_of {y : Str} (F : FunD K y qual (defArgs st) (defBody st) (defScope st) [] [] (He.ga K y) fd) (S : FnScope N ps (defScope st)) (len : ∀ vs H Q E, sp vs H Q E → vs.length = ps.length)
    (hbody : ∀ (cdv : Value) (A : Around) (outer : List Env) (s : Shared) (H : Hp) (vs : List V) (Q : VK) (E : XK), cdv = .ref (He.codeOf K (y, none)) → Room k (A.deeper (envOfC qual (defScope st) s.heap.objs.size (He.ga K y) cdv)) → A.guards = some [] → sp vs H Q E →
      ∃ u, PSs (cxOf CX0 P w K mg base N qual (defScope st) (He.ga K y) cdv A outer s H E).nox (defBody st) u ∧ u { nx := fun _ H' => Q .non H', rt := Q } (start N vs) H) : FnG P w K mg base CX0 (k + 1) (He.ga K y) fd ps sp := by
  obtain ⟨oc, od, dV, kV, doc, pm, an, cdv, ct, osl, e, lk, hcd, _⟩ := F.ex
  obtain ⟨c, rfl⟩ := He.codeIn_ref hcd
  have hc : He.codeOf K (y, none) = c := He.codeOf_eq (p := (y, none)) lk (by rw [e])
  subst e
  refine ⟨len, fun A outer s H args us vs Q E hr hg e0 hb r hsp => ?_⟩
  refine LamX.run_ofS (N := N) (ps := ps) lk hcd S hr e0 hb r (len _ _ _ _ hsp) fun hr' => ?_
  obtain ⟨u, h1, h2⟩ := hbody (.ref c) A outer s H vs Q E (by rw [hc]) hr' hg hsp
  exact ⟨u, h1.nox, h2⟩
theorem okg_of (F : FnAt K x qual st f) (S : FnScope N ps (defScope st))
    (hb : ∀ (kV doc pm : Value) (an : Option Addr) (cdv ct : Value) (us : List Value), us.length = ps.length → bindArgs (PySem.W.fnOf x qual (defArgs st) (defBody st) (defScope st) .none kV doc pm an cdv ct) ⟨us, []⟩ = pure (ps.zip us))
    (len : ∀ vs H Q E, sp vs H Q E → vs.length = ps.length)
    (hbody : ∀ (cdv : Value) (A : Around) (outer : List Env) (s : Shared) (H : Hp) (vs : List V) (Q : VK) (E : XK), Room k (A.deeper (envOfC qual (defScope st) s.heap.objs.size f cdv)) → A.guards = some [] → sp vs H Q E →
      ∃ u, PSs (cxOf CX0 P w K mg base N qual (defScope st) f cdv A outer s H E).nox (defBody st) u ∧ u { nx := fun _ H' => Q .non H', rt := Q } (start N vs) H) : OkG P w K mg base CX0 (k + 1) f ps sp := by
  obtain ⟨fd, F⟩ := F
  exact ⟨fd, fng_of F S len hbody, F.bindsN hb, F.kp⟩
/-- f(e, ..) where no guard stands -/
theorem pe_callG (hgd : X.A.guards = some []) (G : OkG X.prog X.w X.K X.mg X.base CX0 k f ps sp) (hr : Room k X.A) (hm : X.mg x = some (.ref f)) (ha : PA X (e :: es) t) (hg : Gl X x := by rfl) (hdb : (x == ("__debug__" : Str)) = false := by decide)
    (he : starEach (e :: es) X.env = (false, eval e X.env) :: starEach es X.env := by rfl) (hpl : (backTo pos (starEach es X.env)).any (·.1) = false := by rfl) : PE X (.Call (.Name x ppos) (e :: es) [] pos) (tCall sp [] E0 t) := by
  obtain ⟨fd, F, b, kp⟩ := G.ok
  refine ⟨fun pins s σ H Q I h => wpAny_Call_Name_kw (ld_glob I hg hm (PySem.W.callWith_K (h₀ := X.base) I.ok.mod.kin kp (thn (ha.run pos pins s σ H _ I h) fun us s1 ⟨vs, H1, I1, r, q⟩ => ⟨I1.kIn, ?_⟩) he hpl) hdb)⟩
  have q0 : sp (vs ++ []) H1 Q E0 := q
  have q' : sp vs H1 Q E0 := by rw [List.append_nil] at q0; exact q0
  have hl : us.length = ps.length := by rw [← r.length]; exact F.len _ _ _ _ q'
  have bt := b s1 us I1.kIn (by rw [List.append_nil]; exact hl)
  rw [List.append_nil] at bt
  refine wpAny_call (codeAny_mono (F.run X.A X.stack s1 H1 ⟨us, []⟩ us vs Q E0 hr hgd I1.env0 bt r q') fun r' s' hq => ?_)
  cases r' with
  | error e => exact (show False from hq).elim
  | ok fl =>
    cases fl with
    | ret u => exact I1.after hq
    | next => exact (show False from hq).elim
    | brk => exact (show False from hq).elim
    | cont => exact (show False from hq).elim
theorem un70 {k : Nat} {A : Around} (r : Room k A) : A.units + 70 < cLine := by have := r.un; omega
/-- repr of data at any depth -/
theorem call_reprD (hgd : X.A.guards = some []) (hu : X.A.units + 70 < cLine) : CallR X (.builtin "repr") (fun xs H Q => ∃ v d, xs = [v] ∧ Dp X.K H v d ∧ d.showable = true ∧ d.hasDict = false ∧ d.depth ≤ 64 ∧ d.shown.length ≤ sizeLine ∧ Q (.str d.shown) H) := by
  intro pins s σ H xs us Q I r h
  obtain ⟨v, d, rfl, hd, h1, h2, h3, h4, q⟩ := h
  obtain ⟨u, rfl, ru⟩ := vals1 r
  cases hd with
  | non =>
    cases ru
    exact PySem.P.repr_of_none ⟨.str _, H, I.tok _, ⟨_, rfl⟩, q⟩
  | bl b =>
    cases ru
    exact PySem.P.repr_of_bool ⟨.str _, H, I.tok _, ⟨_, rfl⟩, q⟩
  | int i =>
    obtain ⟨t, rfl⟩ := ru
    exact PySem.P.repr_of_int (of_decide_eq_true h1) ⟨.str _, H, I.tok _, ⟨_, rfl⟩, q⟩
  | str z =>
    obtain ⟨t, rfl⟩ := ru
    exact PySem.P.repr_of_str ⟨.str _, H, I.tok _, ⟨_, rfl⟩, q⟩ h4
  | @lst a xs ds hs ha =>
    have hd' : Dp X.K H (.ref a) (.list ds) := .lst hs ha
    obtain ⟨as, rd⟩ := Dp.reads I _ _ _ hd' ru
    cases ru
    exact repr_of_reads' rd h1 (fun z => by rw [h2] at z; cases z) hgd (by omega) (fun _ _ z => z) (fun h' u tk hk => ⟨.str _, H, I.kept (t' := tk) hk, ⟨_, rfl⟩, q⟩) h4
  | @tup a xs ds hs ha =>
    have hd' : Dp X.K H (.ref a) (.tuple ds) := .tup hs ha
    obtain ⟨as, rd⟩ := Dp.reads I _ _ _ hd' ru
    cases ru
    exact repr_of_reads' rd h1 (fun z => by rw [h2] at z; cases z) hgd (by omega) (fun _ _ z => z) (fun h' u tk hk => ⟨.str _, H, I.kept (t' := tk) hk, ⟨_, rfl⟩, q⟩) h4
end
end Nw

namespace Nw
open PySem PySem.Spec PyProof.Rows L2
/-! ### the end, for a law that shows containers -/
section
variable {P : Program} {w : World} {K : PySem.W.Frag} {mg mb : Str → Option Value} {k : Nat} {fa a : Addr} {fd : FuncData} {x : Str} {sp : Sp} {s₁ : Shared} {vs : List Value} {ns : List Int}
/-- what is tracked at the law's call: the script, if the module's part does not tell it -/
def scr (K : PySem.W.Frag) (a : Addr) (vs : List Value) (ns : List Int) : Hp := fun b => if b = a ∧ K.lookup a = none then some (.frz { cls := .type "list", data := .seq vs.toArray } (.lst (ns.map V.int))) else none
theorem scr_at {b : Addr} {u : HO} (h : scr K a vs ns b = some u) : b = a ∧ K.lookup a = none ∧ u = .frz { cls := .type "list", data := .seq vs.toArray } (.lst (ns.map V.int)) := by
  unfold scr at h
  split at h
  · rename_i c
    exact ⟨c.1, c.2, (Option.some.inj h).symm⟩
  · cases h
theorem scr_no {b : Addr} (h : ¬ (b = a ∧ K.lookup a = none)) : scr K a vs ns b = none := if_neg h
theorem law_callG (KX : K.In s₁.heap) (hns : s₁.heap.Ns mainGlobals mg) (hb : s₁.heap.Ns builtinsNs mb) (hbb : ∀ x : Str, x ≠ "__name__" → mb x = bootBuiltins x) (hlim : s₁.heap.NoLimit) (hg : s₁.gens = #[])
    (ha : s₁.heap.get? a = some { cls := .type "list", data := .seq vs.toArray }) (hi : IntsAre vs ns) (hl : ns.length ≤ sizeLine) (hr : Room k callerA)
    (F : ∀ base : Heap, K.In base → base.Ns mainGlobals mg → FnG P w K mg base CX0 k fa fd [x] sp) (hbind : ∀ (s : Shared) (u : Value), BindsTo s fd ⟨[u], []⟩ [(x, u)])
    (hsp : ∀ H : Hp, SqL K H a (ns.map V.int) → sp [.ref a] H (fun v _ => v = .bl true) fun _ _ _ => False) :
    codeAny (model P w) callerA (.call (.ref fa) ⟨[.ref a], []⟩) (fun r s' => r = .ok (.ret (.bool true)) ∧ OldK s₁.heap s'.heap ∧ s'.os = s₁.os ∧ AllBare s'.gens) s₁ := by
  have rv := vals_ints hi
  have lenV := hi.length
  have hS : SqL K (scr K a vs ns) a (ns.map V.int) := by
    cases hk : K.lookup a with
    | some o =>
      have e := KX a o hk
      rw [ha] at e
      cases e
      exact .inr ⟨_, vs.toArray, _, hk, rfl, rfl, rfl, by rw [List.size_toArray, lenV]; exact hl, by simpa using rv⟩
    | none => exact .inl (.inr ⟨{ cls := .type "list", data := .seq vs.toArray }, if_pos ⟨rfl, hk⟩⟩)
  have hok : HOk P w (scr K a vs ns) s₁.heap := fun b u z => by
    obtain ⟨rfl, _, rfl⟩ := scr_at z
    exact ⟨ha, by rw [List.length_map]; exact hl, vs, _, rv, ha⟩
  -- a namespace is no script
  have untr : ∀ {b : Addr} {o : Obj} {es : Array DictEntry} {ep : Nat}, s₁.heap.get? b = some o → o.data = .dict es ep → scr K a vs ns b = none := fun {b o es ep} e d => by
    refine scr_no fun c => ?_
    rw [c.1, ha] at e
    cases e
    have d' : Data.seq vs.toArray _ = Data.dict es ep := d
    cases d'
  have nsK : ∀ {b : Addr} {m : Str → Option Value}, s₁.heap.Ns b m → (hidT s₁.heap (scr K a vs ns)).Ns b m := fun {b m} ⟨o, es, ep, e, d, r⟩ => ⟨o, es, ep, hidT_get e (untr e d), d, r⟩
  have hKb : K.In (hidT s₁.heap (scr K a vs ns)) := fun b o e => hidT_get (KX b o e) (scr_no fun c => by rw [c.1, c.2] at e; cases e)
  have hM : Mod K mg (hidT s₁.heap (scr K a vs ns)) := ⟨hKb, nsK hns, ⟨mb, nsK hb, hbb⟩, let ⟨mc, h1, h2⟩ := hlim; ⟨mc, nsK h1, h2⟩⟩
  have e0 : Env0 P w K mg (hidT s₁.heap (scr K a vs ns)) callerA [] s₁ (scr K a vs ns) := ⟨rfl, hM, fun b o e => of_hidT e, Nat.le_of_eq (hidT_size _ _), trivial, (fun b hb => absurd (show b ∈ ([] : List Addr) from hb) (by simp)), hok, .of_eq hg⟩
  refine codeAny_mono ((F _ hKb (nsK hns)).run callerA [] s₁ _ ⟨[.ref a], []⟩ [.ref a] [.ref a] _ _ hr rfl e0 (hbind s₁ (.ref a)) (.cons rfl .nil) (hsp _ hS)) fun r s' h => ?_
  cases r with
  | error e => exact (show False from h).elim
  | ok fl =>
    cases fl with
    | next => exact (show False from h).elim
    | brk => exact (show False from h).elim
    | cont => exact (show False from h).elim
    | ret u =>
      obtain ⟨v, H', os, bare, un, hok', r', q⟩ := h
      obtain rfl : v = .bl true := q
      obtain rfl : u = Value.bool true := r'
      refine ⟨rfl, OldK.of_keep fun b o e => ?_, os, bare⟩
      cases q : scr K a vs ns b with
      | none => exact un.keep b o e q (fun z => absurd (show b ∈ ([] : List Addr) from z) (by simp)) (by simp)
      | some u =>
        obtain ⟨rfl, hk, rfl⟩ := scr_at q
        have z2 := un.frzs b _ _ q
        obtain ⟨e2, _⟩ := hok' b _ z2
        rw [ha] at e
        cases e
        exact e2
end
theorem walk_ofG {l : PySem.W.OpenLaw} {n k : Nat} {q : Program} {loose : List Str} {XP : (Str → Option Value) → Heap → Prop} {YP : World → Heap → Prop} {d : DefRec} {x : Str}
    (hn : l.most = some n) (hn2 : n ≤ sizeLine) (hdf : d.params.defaults = []) (hr : Room k callerA)
    (F : ∀ (w : World) (mg : Str → Option Value) (fa : Addr) (h : Heap), YP w h → h.Ns mainGlobals mg → mg d.name = some (.ref fa) →
      ∃ (K : PySem.W.Frag) (fd : FuncData) (sp : Sp), K.In h ∧ (∀ (s : Shared) (u : Value), BindsTo s fd ⟨[u], []⟩ [(x, u)]) ∧
        (∀ (H : Hp) (a : Addr) (ns : List Int), ns.length ≤ n → SqL K H a (ns.map V.int) → sp [.ref a] H (fun v _ => v = .bl true) fun _ _ _ => False) ∧
        ∀ base : Heap, K.In base → base.Ns mainGlobals mg → FnG l.prog w K mg base CX0 k fa fd [x] sp) :
    PySem.W.WalkO q loose XP YP l.row.toRowW d [] (fun f vs => PySem.call f vs) := by
  refine Att.attach_call hn hdf fun w s₀ s₁ mg mb fa o pm cd doc a vs ns G Y ho hd hcd hmg hobj hints hlen hg => ?_
  obtain ⟨K, fd, sp, KX, hb, hsp, hF⟩ := F w mg fa _ Y G.T.g hmg
  exact law_callG KX G.T.g G.T.b G.T.builtins G.T.nolimit hg hobj hints (Nat.le_trans hlen hn2) hr hF hb fun H hS => hsp H a ns hlen hS
end Nw

namespace Nw
open PySem PySem.Spec PyProof.Rows L2
/-! ### the same for a law that makes lambdas, too -/
section
variable {P : Program} {w : World} {K : PySem.W.Frag} {mg mb : Str → Option Value} {k : Nat} {fa a : Addr} {fd : FuncData} {x : Str} {sp : Sp} {s₁ : Shared} {vs : List Value} {ns : List Int} {cs : List (Addr × Addr)}
/-- what is tracked: the script, if the module's part does not tell it, and the tables -/
def trt (K : PySem.W.Frag) (a : Addr) (vs : List Value) (ns : List Int) (cs : List (Addr × Addr)) : Hp := fun b => if b ∈ cs.map (·.2) then some (.tbl #[]) else scr K a vs ns b
theorem trt_at {b : Addr} {u : HO} (h : trt K a vs ns cs b = some u) : (b ∈ cs.map (·.2) ∧ u = .tbl #[]) ∨ (b ∉ cs.map (·.2) ∧ scr K a vs ns b = some u) := by
  unfold trt at h
  split at h
  · rename_i c
    exact .inl ⟨c, (Option.some.inj h).symm⟩
  · rename_i c
    exact .inr ⟨c, h⟩
theorem trt_no {b : Addr} (h1 : b ∉ cs.map (·.2)) (h2 : ¬ (b = a ∧ K.lookup a = none)) : trt K a vs ns cs b = none := (if_neg h1).trans (scr_no h2)
theorem law_callGT (KX : K.In s₁.heap) (hns : s₁.heap.Ns mainGlobals mg) (hb : s₁.heap.Ns builtinsNs mb) (hbb : ∀ x : Str, x ≠ "__name__" → mb x = bootBuiltins x) (hlim : s₁.heap.NoLimit) (hg : s₁.gens = #[])
    (hT : ∀ p ∈ cs, s₁.heap.get? p.2 = some { cls := .none, data := .fields #[] }) (nT : ∀ p ∈ cs, K.lookup p.2 = none) (hh : ∀ p ∈ cs, PySem.W.codeHdIn K p.1 p.2 = true)
    (hbm : ∃ (bm : Addr) (ob : Obj), mg "__builtins__" = some (.ref bm) ∧ bm ≠ builtinsNs ∧ s₁.heap.get? bm = some ob ∧ ob.cls = .type "module" ∧ ob.dict = some builtinsNs ∧ ob.data = .plain)
    (ha : s₁.heap.get? a = some { cls := .type "list", data := .seq vs.toArray }) (hi : IntsAre vs ns) (hl : ns.length ≤ sizeLine) (hr : Room k callerA)
    (F : ∀ base : Heap, K.In base → base.Ns mainGlobals mg → (∀ p ∈ cs, LamX.TabB base mg p.1 p.2) → FnG P w K mg base CX0 k fa fd [x] sp) (hbind : ∀ (s : Shared) (u : Value), BindsTo s fd ⟨[u], []⟩ [(x, u)])
    (hsp : ∀ H : Hp, (∀ p ∈ cs, H p.2 = some (.tbl #[])) → SqL K H a (ns.map V.int) → sp [.ref a] H (fun v _ => v = .bl true) fun _ _ _ => False) :
    codeAny (model P w) callerA (.call (.ref fa) ⟨[.ref a], []⟩) (fun r s' => r = .ok (.ret (.bool true)) ∧ OldK s₁.heap s'.heap ∧ s'.os = s₁.os ∧ AllBare s'.gens) s₁ := by
  have rv := vals_ints hi
  have lenV := hi.length
  have isT : ∀ b : Addr, b ∈ cs.map (·.2) → s₁.heap.get? b = some { cls := .none, data := .fields #[] } := fun b hb => by
    obtain ⟨p, hp, e⟩ := List.mem_map.mp hb
    rw [← e]
    exact hT p hp
  have aT : a ∉ cs.map (·.2) := fun z => by
    have q := isT a z
    rw [ha] at q
    have z' : Data.seq vs.toArray _ = Data.fields #[] := congrArg Obj.data (Option.some.inj q)
    cases z'
  have hTr : ∀ p ∈ cs, trt K a vs ns cs p.2 = some (.tbl #[]) := fun p hp => if_pos (List.mem_map.mpr ⟨p, hp, rfl⟩)
  have hS : SqL K (trt K a vs ns cs) a (ns.map V.int) := by
    cases hk : K.lookup a with
    | some o =>
      have e := KX a o hk
      rw [ha] at e
      cases e
      exact .inr ⟨_, vs.toArray, _, hk, rfl, rfl, rfl, by rw [List.size_toArray, lenV]; exact hl, by simpa using rv⟩
    | none => exact .inl (.inr ⟨{ cls := .type "list", data := .seq vs.toArray }, (if_neg aT).trans (if_pos ⟨rfl, hk⟩)⟩)
  have hok : HOk P w (trt K a vs ns cs) s₁.heap := fun b u z => by
    rcases trt_at z with ⟨hm, rfl⟩ | ⟨_, z⟩
    · exact isT b hm
    · obtain ⟨rfl, _, rfl⟩ := scr_at z
      exact ⟨ha, by rw [List.length_map]; exact hl, vs, _, rv, ha⟩
  -- neither the script nor a table
  have untr : ∀ {b : Addr} {o : Obj}, s₁.heap.get? b = some o → (∀ us n, o.data ≠ .seq us n) → o.data ≠ .fields #[] → trt K a vs ns cs b = none := fun {b o} e h1 h2 =>
    trt_no (fun m => by rw [isT b m] at e; cases e; exact h2 rfl) (fun c => by rw [c.1, ha] at e; cases e; exact h1 _ _ rfl)
  have nsK : ∀ {b : Addr} {m : Str → Option Value}, s₁.heap.Ns b m → (hidT s₁.heap (trt K a vs ns cs)).Ns b m := fun {b m} ⟨o, es, ep, e, d, r⟩ => ⟨o, es, ep, hidT_get e (untr e (fun _ _ z => by rw [d] at z; cases z) fun z => by rw [d] at z; cases z), d, r⟩
  have hKb : K.In (hidT s₁.heap (trt K a vs ns cs)) := fun b o e => hidT_get (KX b o e) (trt_no (fun m => by
    obtain ⟨p, hp, ep⟩ := List.mem_map.mp m
    rw [← ep, nT p hp] at e
    cases e) fun c => by rw [c.1, c.2] at e; cases e)
  have hM : Mod K mg (hidT s₁.heap (trt K a vs ns cs)) := ⟨hKb, nsK hns, ⟨mb, nsK hb, hbb⟩, let ⟨mc, h1, h2⟩ := hlim; ⟨mc, nsK h1, h2⟩⟩
  have gNs : ∃ o es ep, s₁.heap.get? mainGlobals = some o ∧ o.data = .dict es ep := let ⟨o, es, ep, e, d, _⟩ := hns; ⟨o, es, ep, e, d⟩
  obtain ⟨og, eg, pg, g1, g2⟩ := gNs
  have TB : ∀ p ∈ cs, LamX.TabB (hidT s₁.heap (trt K a vs ns cs)) mg p.1 p.2 := fun p hp => by
    obtain ⟨bm, ob, b1, b2, b3, b4, b5, b6⟩ := hbm
    refine ⟨PySem.W.codeHd_of_K hKb (hh p hp), ⟨bm, ob, b1, b2, fun q => ?_, fun q => ?_, hidT_get b3 (untr b3 (fun _ _ z => by rw [b6] at z; cases z) fun z => by rw [b6] at z; cases z), b4, b5, b6⟩, fun q => ?_⟩
    · rw [q, g1] at b3
      cases b3
      rw [g2] at b6
      cases b6
    · rw [q, hT p hp] at b3
      cases b3
      cases b6
    · rw [q, hT p hp] at g1
      cases g1
      cases g2
  have e0 : Env0 P w K mg (hidT s₁.heap (trt K a vs ns cs)) callerA [] s₁ (trt K a vs ns cs) := ⟨rfl, hM, fun b o e => of_hidT e, Nat.le_of_eq (hidT_size _ _), trivial, (fun b hb => absurd (show b ∈ ([] : List Addr) from hb) (by simp)), hok, .of_eq hg⟩
  refine codeAny_mono ((F _ hKb (nsK hns) TB).run callerA [] s₁ _ ⟨[.ref a], []⟩ [.ref a] [.ref a] _ _ hr rfl e0 (hbind s₁ (.ref a)) (.cons rfl .nil) (hsp _ hTr hS)) fun r s' h => ?_
  cases r with
  | error e => exact (show False from h).elim
  | ok fl =>
    cases fl with
    | next => exact (show False from h).elim
    | brk => exact (show False from h).elim
    | cont => exact (show False from h).elim
    | ret u =>
      obtain ⟨v, H', os, bare, un, hok', r', q⟩ := h
      obtain rfl : v = .bl true := q
      obtain rfl : u = Value.bool true := r'
      have same : ∀ b o, b ∉ cs.map (·.2) → s₁.heap.get? b = some o → s'.heap.get? b = some o := fun b o nb e => by
        cases q : trt K a vs ns cs b with
        | none => exact un.keep b o e q (fun z => absurd (show b ∈ ([] : List Addr) from z) (by simp)) (by simp)
        | some u =>
          rcases trt_at q with ⟨m, _⟩ | ⟨_, z⟩
          · exact absurd m nb
          · obtain ⟨rfl, hk, rfl⟩ := scr_at z
            obtain ⟨e2, _⟩ := hok' b _ (un.frzs b _ _ q)
            rw [ha] at e
            cases e
            exact e2
      have grown : ∀ b, b ∈ cs.map (·.2) → ∃ more : Array Value, s'.heap.get? b = some { cls := .none, data := .fields more } ∧ ∃ p ∈ cs, p.2 = b := fun b m => by
        obtain ⟨p, hp, rfl⟩ := List.mem_map.mp m
        obtain ⟨more, z⟩ := un.tbls p.2 #[] (hTr p hp)
        exact ⟨_, hok' p.2 _ z, p, hp, rfl⟩
      refine ⟨rfl, ⟨fun b o e => ?_, fun b o e => ?_⟩, os, bare⟩
      · by_cases m : b ∈ cs.map (·.2)
        · obtain ⟨more, hm, p, hp, rfl⟩ := grown b m
          rw [hT p hp] at e
          cases e
          exact .inr (.inl ⟨((PySem.W.codeHd_of_K KX (hh p hp)).tab (hT p hp)).isCodeTable, rfl, #[], more, rfl, by rw [Array.empty_append]; exact hm⟩)
        · exact .inl (same b o m e)
      · by_cases m : b ∈ cs.map (·.2)
        · obtain ⟨more, hm, _⟩ := grown b m
          exact ⟨_, hm⟩
        · exact ⟨o, same b o m e⟩
end
theorem walk_ofGT {l : PySem.W.OpenLaw} {n k : Nat} {q : Program} {loose : List Str} {XP : (Str → Option Value) → Heap → Prop} {YP : World → Heap → Prop} {d : DefRec} {x : Str}
    (hn : l.most = some n) (hn2 : n ≤ sizeLine) (hdf : d.params.defaults = []) (hr : Room k callerA)
    (F : ∀ (w : World) (mg : Str → Option Value) (fa : Addr) (h : Heap), YP w h → h.Ns mainGlobals mg → mg d.name = some (.ref fa) →
      ∃ (K : PySem.W.Frag) (fd : FuncData) (cs : List (Addr × Addr)) (sp : Sp), K.In h ∧ (∀ p ∈ cs, h.get? p.2 = some { cls := .none, data := .fields #[] }) ∧ (∀ p ∈ cs, K.lookup p.2 = none) ∧ (∀ p ∈ cs, PySem.W.codeHdIn K p.1 p.2 = true) ∧ (∀ (s : Shared) (u : Value), BindsTo s fd ⟨[u], []⟩ [(x, u)]) ∧
        (∀ (H : Hp) (a : Addr) (ns : List Int), ns.length ≤ n → (∀ p ∈ cs, H p.2 = some (.tbl #[])) → SqL K H a (ns.map V.int) → sp [.ref a] H (fun v _ => v = .bl true) fun _ _ _ => False) ∧
        ∀ base : Heap, K.In base → base.Ns mainGlobals mg → (∀ p ∈ cs, LamX.TabB base mg p.1 p.2) → FnG l.prog w K mg base CX0 k fa fd [x] sp) :
    PySem.W.WalkO q loose XP YP l.row.toRowW d [] (fun f vs => PySem.call f vs) := by
  refine Att.attach_call hn hdf fun w s₀ s₁ mg mb fa o pm cd doc a vs ns G Y ho hd hcd hmg hobj hints hlen hg => ?_
  obtain ⟨K, fd, cs, sp, KX, hT, nT, hh, hb, hsp, hF⟩ := F w mg fa _ Y G.T.g hmg
  exact law_callGT KX G.T.g G.T.b G.T.builtins G.T.nolimit hg hT nT hh G.T.bmain hobj hints (Nat.le_trans hlen hn2) hr hF hb fun H hH hS => hsp H a ns hlen hH hS
end Nw

namespace Nw
open PySem PySem.Spec PyProof.Rows L2
theorem len_app (a b : Str) : (a ++ b).length = a.length + b.length := by
  show (a.cps ++ b.cps).size = _
  simp [Str.length]
theorem textFrom_le : ∀ (ts : List Str) (k : Nat) (acc : Str), (textFrom k acc ts).length ≤ acc.length + piled ts
  | [], k, acc => by show acc.length ≤ _; omega
  | t :: r, k, acc => by
    have h := textFrom_le r (k + 1) (acc ++ (if k > 0 then ", " else "" : String) ++ t)
    have e : (acc ++ (if k > 0 then ", " else "" : String) ++ t : Str).length ≤ acc.length + 2 + t.length := by
      rw [len_app, len_app]
      have z : ((if k > 0 then ", " else "" : String) : Str).length ≤ 2 := by split <;> decide
      omega
    show (textFrom (k + 1) _ r).length ≤ acc.length + piled (t :: r)
    have p : piled (t :: r) = t.length + 2 + piled r := rfl
    omega
theorem listText_le (ts : List Str) : (listText ts).length ≤ piled ts + 2 := by
  unfold listText
  rw [len_app]
  have h := textFrom_le ts 0 "["
  have e1 : ("[" : Str).length = 1 := by decide
  have e2 : ("]" : Str).length = 1 := by decide
  omega
theorem tupleText_le (ts : List Str) : (tupleText ts).length ≤ piled ts + 3 := by
  unfold tupleText
  rw [len_app, len_app]
  have e1 : ("(" : Str).length = 1 := by decide
  have e2 : ((if ts.length == 1 then ",)" else ")" : String) : Str).length ≤ 2 := by split <;> decide
  cases ts with
  | nil =>
    have e3 : (Str.join ", " ([] : List Str)).length = 0 := rfl
    omega
  | cons t r =>
    have h := join_length_add (t :: r) (by simp)
    omega
theorem nat_shown : ∀ i : Fin 1001, ((toString ((i.val : Nat) : Int) : String) : Str).length ≤ 4 := by decide +kernel
end Nw

namespace Nw
open PySem PySem.Spec PyProof.Rows L2
/-! ### what repr shows of data fits a line: a measure that is easily computed -/
mutual
def rm : PyData → Nat
  | .none => 4
  | .bool _ => 5
  | .int _ => 1921
  | .str x => 10 * x.length + 2
  | .list xs => rmAll xs + 2
  | .tuple xs => rmAll xs + 3
  | .dict _ => 0
def rmAll : List PyData → Nat
  | [] => 0
  | x :: xs => (rm x + 2) + rmAll xs
end
theorem strOk_lt {x : Str} (h : PyData.strOk x = true) : ∀ c ∈ x.cps.toList, c < 16 ^ 8 := fun c hc => by
  unfold PyData.strOk at h
  rw [Array.all_eq_true'] at h
  have z := of_decide_eq_true (h c (Array.mem_toList_iff.mp hc))
  omega
mutual
theorem shown_le : ∀ d : PyData, d.canLay0 = true → d.showable = true → d.shown.length ≤ rm d
  | .none, _, _ => by simp only [PyData.shown, rm]; decide
  | .bool b, _, _ => by cases b <;> simp only [PyData.shown, rm] <;> decide
  | .int i, _, h => by
    simp only [PyData.showable, decide_eq_true_eq] at h
    simp only [PyData.shown, rm]
    exact int_text_len_1921 h
  | .str x, h, _ => by
    simp only [PyData.canLay0] at h
    simp only [PyData.shown, rm]
    exact PySem.StrLaws.reprText_len x (strOk_lt h)
  | .list xs, h, k => by
    simp only [PyData.canLay0] at h
    simp only [PyData.showable] at k
    simp only [PyData.shown, rm]
    have z := shownAll_le xs h k
    have y := listText_le (PyData.shownAll xs)
    omega
  | .tuple xs, h, k => by
    simp only [PyData.canLay0] at h
    simp only [PyData.showable] at k
    simp only [PyData.shown, rm]
    have z := shownAll_le xs h k
    have y := tupleText_le (PyData.shownAll xs)
    omega
  | .dict _, h, _ => by simp [PyData.canLay0] at h
theorem shownAll_le : ∀ xs : List PyData, PyData.canLayAll0 xs = true → PyData.showableAll xs = true → piled (PyData.shownAll xs) ≤ rmAll xs
  | [], _, _ => by simp only [PyData.shownAll, rmAll]; exact Nat.le_refl _
  | x :: xs, h, k => by
    simp only [PyData.canLayAll0, Bool.and_eq_true] at h
    simp only [PyData.showableAll, Bool.and_eq_true] at k
    simp only [PyData.shownAll, rmAll, piled_cons]
    have z := shown_le x h.1 k.1
    have y := shownAll_le xs h.2 k.2
    omega
end
/-- repr shows it -/
structure Shows (d : PyData) : Prop where
  lay : d.canLay0 = true
  sh : d.showable = true
  deep : d.depth ≤ 64
  few : rm d ≤ sizeLine
theorem Shows.len {d : PyData} (s : Shows d) : d.shown.length ≤ sizeLine := Nat.le_trans (shown_le d s.lay s.sh) s.few
theorem Shows.nd {d : PyData} (s : Shows d) : d.hasDict = false := PyData.hasDict_of_canLay d s.lay
theorem rmAll_le {n : Nat} : ∀ xs : List PyData, (∀ x ∈ xs, rm x ≤ n) → rmAll xs ≤ xs.length * (n + 2)
  | [], _ => by simp [rmAll]
  | x :: xs, h => by
    have z := rmAll_le xs fun y hy => h y (List.mem_cons_of_mem _ hy)
    have y := h x (List.mem_cons_self ..)
    simp only [rmAll, List.length_cons]
    rw [Nat.add_mul]
    omega
theorem lay_all : ∀ xs : List PyData, (∀ x ∈ xs, x.canLay0 = true) → PyData.canLayAll0 xs = true
  | [], _ => rfl
  | x :: xs, h => by
    simp only [PyData.canLayAll0, Bool.and_eq_true]
    exact ⟨h x (List.mem_cons_self ..), lay_all xs fun y hy => h y (List.mem_cons_of_mem _ hy)⟩
theorem showable_all : ∀ xs : List PyData, (∀ x ∈ xs, x.showable = true) → PyData.showableAll xs = true
  | [], _ => rfl
  | x :: xs, h => by
    simp only [PyData.showableAll, Bool.and_eq_true]
    exact ⟨h x (List.mem_cons_self ..), showable_all xs fun y hy => h y (List.mem_cons_of_mem _ hy)⟩
theorem depth_all {n : Nat} : ∀ xs : List PyData, (∀ x ∈ xs, x.depth ≤ n) → PyData.depthAll xs ≤ n
  | [], _ => by simp [PyData.depthAll]
  | x :: xs, h => by
    have z := depth_all xs fun y hy => h y (List.mem_cons_of_mem _ hy)
    have y := h x (List.mem_cons_self ..)
    simp only [PyData.depthAll]
    omega
theorem showable_int {i : Int} {k : Nat} (h : i.natAbs < 2 ^ 1920) : (PyData.int i).showable = true := by
  simp only [PyData.showable, decide_eq_true_eq]
  by_cases z : i.natAbs = 0
  · rw [z]; decide
  · exact (Nat.log2_lt z).mpr h
theorem showable_nat {i : Nat} (h : i < 100000) : (PyData.int (i : Nat)).showable = true := by
  simp only [PyData.showable, decide_eq_true_eq]
  show (i : Int).natAbs.log2 < 1920
  rw [Int.natAbs_natCast]
  by_cases z : i = 0
  · rw [z]; decide
  · refine Nat.lt_of_lt_of_le ((Nat.log2_lt z).mpr (show i < 2 ^ 17 by omega)) (by decide)
section
variable {K : PySem.W.Frag} {H H' : Hp}
theorem sqL_up {a : Addr} {xs : List V} (h : SqL K H a xs) (e : Same H H') : SqL K H' a xs := h.elim (fun z => .inl (z.elim (fun q => .inl (e _ _ q)) fun ⟨o, q⟩ => .inr ⟨o, e _ _ q⟩)) .inr
theorem sqT_up {a : Addr} {xs : List V} (h : SqT K H a xs) (e : Same H H') : SqT K H' a xs := h.elim (fun z => .inl (z.elim (fun q => .inl (e _ _ q)) fun ⟨o, q⟩ => .inr ⟨o, e _ _ q⟩)) .inr
mutual
theorem dp_up (e : Same H H') : ∀ (d : PyData) (v : V), Dp K H v d → Dp K H' v d
  | .none, _, .non => .non
  | .bool b, _, .bl _ => .bl b
  | .int i, _, .int _ => .int i
  | .str x, _, .str _ => .str x
  | .list ds, _, .lst h t => .lst (sqL_up h e) (dp_upAll e ds _ t)
  | .tuple ds, _, .tup h t => .tup (sqT_up h e) (dp_upAll e ds _ t)
theorem dp_upAll (e : Same H H') : ∀ (ds : List PyData) (vs : List V), DpAll K H vs ds → DpAll K H' vs ds
  | [], _, .nil => .nil
  | d :: ds, _, .cons h t => .cons (dp_up e d _ h) (dp_upAll e ds _ t)
end
theorem Dp.up {v : V} {d : PyData} (h : Dp K H v d) (e : Same H H') : Dp K H' v d := dp_up e d v h
end
end Nw

namespace Nw
open PySem PySem.Spec PyProof.Rows L2
/-! ### any value, with what stands in lists, too; bools and ints are told apart -/
inductive Dt where
  | non | bl (b : Bool) | int (i : Int) | str (l : List Nat) | sq (t : Bool) (xs : List Dt) | dic | obj
/-- an own class that is none of these kinds -/
structure NoKit (K : PySem.W.Frag) (C : Addr) : Prop where
  str : PySem.W.kitOne K (.ref C) (.type "str") = some false
  tup : PySem.W.kitOne K (.ref C) (.type "tuple") = some false
  lst : PySem.W.kitOne K (.ref C) (.type "list") = some false
  int : PySem.W.kitOne K (.ref C) (.type "int") = some false
  bool : PySem.W.kitOne K (.ref C) (.type "bool") = some false
inductive isE (K : PySem.W.Frag) (I : Hp) : V → Dt → Prop where
  | non : isE K I .non .non
  | bl (b : Bool) : isE K I (.bl b) (.bl b)
  | int (i : Int) : isE K I (.int i) (.int i)
  | str (l : List Nat) (h : l.length ≤ 100000) : isE K I (.str (mk l)) (.str l)
  | sq {t : Bool} {a : Addr} {vs : List V} {xs : List Dt} (h : I a = some (ho t vs)) (hl : vs.length = xs.length) (hd : ∀ (i : Nat) (v : V) (x : Dt), vs[i]? = some v → xs[i]? = some x → isE K I v x) : isE K I (.ref a) (.sq t xs)
  | dic {a : Addr} {kvs : List (Key × V)} (h : I a = some (.dK kvs)) : isE K I (.ref a) .dic
  | obj {a C dx : Addr} {fs : List (Str × V)} (h : I a = some (.ins C dx fs)) (F : InsF K C) (c : Cls K C) (k : NoKit K C) : isE K I (.ref a) .obj
/-- what stands in a list or a tuple -/
structure Es (K : PySem.W.Frag) (I : Hp) (vs : List V) (xs : List Dt) : Prop where
  len : vs.length = xs.length
  at_ : ∀ (i : Nat) (v : V) (x : Dt), vs[i]? = some v → xs[i]? = some x → isE K I v x
section
variable {K : PySem.W.Frag} {I I' H : Hp} {v : V} {x : Dt}
theorem isE.up (h : isE K I v x) (e : Same I I') : isE K I' v x := by
  induction h with
  | non => exact .non
  | bl b => exact .bl b
  | int i => exact .int i
  | str l h => exact .str l h
  | sq h hl hd ih => exact .sq (e _ _ h) hl ih
  | dic h => exact .dic (e _ _ h)
  | obj h F c k => exact .obj (e _ _ h) F c k
theorem Es.up {vs : List V} {xs : List Dt} (h : Es K I vs xs) (e : Same I I') : Es K I' vs xs := ⟨h.len, fun i v x h1 h2 => (h.at_ i v x h1 h2).up e⟩
theorem Es.nil : Es K I [] [] := ⟨rfl, fun i v x h _ => by simp at h⟩
theorem Es.cons {vs : List V} {xs : List Dt} (h : isE K I v x) (t : Es K I vs xs) : Es K I (v :: vs) (x :: xs) := ⟨congrArg (· + 1) t.len, fun i u y h1 h2 => by
  match i, h1, h2 with
  | 0, h1, h2 => cases h1; cases h2; exact h
  | i + 1, h1, h2 => exact t.at_ i u y h1 h2⟩
theorem Es.app {vs ws : List V} {xs ys : List Dt} (h : Es K I vs xs) (t : Es K I ws ys) : Es K I (vs ++ ws) (xs ++ ys) := by
  induction xs generalizing vs with
  | nil =>
    cases vs with
    | nil => exact t
    | cons v vs => exact absurd h.len (by simp)
  | cons x xs ih =>
    cases vs with
    | nil => exact absurd h.len (by simp)
    | cons v vs => exact .cons (h.at_ 0 v x rfl rfl) (ih ⟨Nat.succ.inj h.len, fun i u y h1 h2 => h.at_ (i + 1) u y h1 h2⟩)
theorem Es.mem {vs : List V} {xs : List Dt} (h : Es K I vs xs) {j : Nat} (e : vs[j]? = some v) : ∃ x, xs[j]? = some x ∧ isE K I v x := by
  have hj : j < vs.length := (List.getElem?_eq_some_iff.mp e).1
  have hk : j < xs.length := by rw [← h.len]; exact hj
  exact ⟨xs[j], List.getElem?_eq_getElem hk, h.at_ j v _ e (List.getElem?_eq_getElem hk)⟩
theorem Es.get {vs : List V} {xs : List Dt} (h : Es K I vs xs) {j : Nat} (e : xs[j]? = some x) : ∃ v, vs[j]? = some v ∧ isE K I v x := by
  have hj : j < xs.length := (List.getElem?_eq_some_iff.mp e).1
  have hk : j < vs.length := by rw [h.len]; exact hj
  exact ⟨vs[j], List.getElem?_eq_getElem hk, h.at_ j _ x (List.getElem?_eq_getElem hk) e⟩
theorem Es.take {vs : List V} {xs : List Dt} (h : Es K I vs xs) (n : Nat) : Es K I (vs.take n) (xs.take n) := ⟨by rw [List.length_take, List.length_take, h.len], fun i v x h1 h2 => by
  rw [List.getElem?_take] at h1 h2
  split at h1
  · rename_i c
    rw [if_pos c] at h2
    exact h.at_ i v x h1 h2
  · cases h1⟩
theorem Es.drop {vs : List V} {xs : List Dt} (h : Es K I vs xs) (n : Nat) : Es K I (vs.drop n) (xs.drop n) := ⟨by rw [List.length_drop, List.length_drop, h.len], fun i v x h1 h2 => by
  rw [List.getElem?_drop] at h1 h2
  exact h.at_ _ v x h1 h2⟩
theorem isE.of {t : Bool} {a : Addr} {vs : List V} {xs : List Dt} (h : I a = some (ho t vs)) (e : Es K I vs xs) : isE K I (.ref a) (.sq t xs) := .sq h e.len e.at_
theorem isE.inv {t : Bool} {xs : List Dt} (h : isE K I v (.sq t xs)) : ∃ a vs, v = .ref a ∧ I a = some (ho t vs) ∧ Es K I vs xs := by
  cases h with
  | sq h hl hd => exact ⟨_, _, rfl, h, hl, hd⟩
def Dt.isStr : Dt → Bool
  | .str _ => true
  | _ => false
def Dt.isTup : Dt → Bool
  | .sq t _ => t
  | _ => false
def Dt.isLst : Dt → Bool
  | .sq t _ => !t
  | _ => false
def Dt.isInt : Dt → Bool
  | .int _ => true
  | .bl _ => true
  | _ => false
def Dt.isBool : Dt → Bool
  | .bl _ => true
  | _ => false
def Dt.isNum : Dt → Bool
  | .int _ => true
  | _ => false
structure Kits (K : PySem.W.Frag) (t : Value) (x : Dt) : Prop where
  str : PySem.W.kitOne K t (.type "str") = some x.isStr
  tup : PySem.W.kitOne K t (.type "tuple") = some x.isTup
  lst : PySem.W.kitOne K t (.type "list") = some x.isLst
  int : PySem.W.kitOne K t (.type "int") = some x.isInt
  bool : PySem.W.kitOne K t (.type "bool") = some x.isBool
theorem isE.ty (h : isE K I v x) (sb : Same I H) : ∃ t, TyX K H v t ∧ Kits K t x := by
  cases h with
  | non => exact ⟨_, .base .non, (show _ = some false from kit_ty (by decide +kernel)), (show _ = some false from kit_ty (by decide +kernel)), (show _ = some false from kit_ty (by decide +kernel)), (show _ = some false from kit_ty (by decide +kernel)), (show _ = some false from kit_ty (by decide +kernel))⟩
  | bl b => exact ⟨_, .base (.bl b), (show _ = some false from kit_ty (by decide +kernel)), (show _ = some false from kit_ty (by decide +kernel)), (show _ = some false from kit_ty (by decide +kernel)), (show _ = some true from kit_ty (by decide +kernel)), (show _ = some true from kit_ty (by decide +kernel))⟩
  | int i => exact ⟨_, .base (.int i), (show _ = some false from kit_ty (by decide +kernel)), (show _ = some false from kit_ty (by decide +kernel)), (show _ = some false from kit_ty (by decide +kernel)), (show _ = some true from kit_ty (by decide +kernel)), (show _ = some false from kit_ty (by decide +kernel))⟩
  | str l h => exact ⟨_, .base (.str _), (show _ = some true from kit_ty (by decide +kernel)), (show _ = some false from kit_ty (by decide +kernel)), (show _ = some false from kit_ty (by decide +kernel)), (show _ = some false from kit_ty (by decide +kernel)), (show _ = some false from kit_ty (by decide +kernel))⟩
  | @sq t a vs xs h hl hd =>
    cases t
    · exact ⟨_, .base (.lst (sb _ _ h)), (show _ = some false from kit_ty (by decide +kernel)), (show _ = some false from kit_ty (by decide +kernel)), (show _ = some true from kit_ty (by decide +kernel)), (show _ = some false from kit_ty (by decide +kernel)), (show _ = some false from kit_ty (by decide +kernel))⟩
    · exact ⟨_, .base (.tup (sb _ _ h)), (show _ = some false from kit_ty (by decide +kernel)), (show _ = some true from kit_ty (by decide +kernel)), (show _ = some false from kit_ty (by decide +kernel)), (show _ = some false from kit_ty (by decide +kernel)), (show _ = some false from kit_ty (by decide +kernel))⟩
  | dic h => exact ⟨_, .base (.dK (sb _ _ h)), (show _ = some false from kit_ty (by decide +kernel)), (show _ = some false from kit_ty (by decide +kernel)), (show _ = some false from kit_ty (by decide +kernel)), (show _ = some false from kit_ty (by decide +kernel)), (show _ = some false from kit_ty (by decide +kernel))⟩
  | obj h F c k => exact ⟨_, F.ty c (sb _ _ h), k.str, k.tup, k.lst, k.int, k.bool⟩
theorem Kits.seq {t : Value} (k : Kits K t x) : PySem.W.kitAny K t [.type "list", .type "tuple"] = some (x.isLst || x.isTup) := by
  cases h : x.isLst with
  | true => exact kitAny_cons (b := true) (by rw [k.lst, h]) (fun z => nomatch z) (fun _ => rfl)
  | false => exact kitAny_cons (b := false) (by rw [k.lst, h]) (fun _ => kitAny_cons (b := x.isTup) k.tup (fun z => by rw [z]; exact kitAny_nil) (fun z => z)) (fun z => nomatch z)
end
/-! ### such values as data that are shown -/
mutual
def Dt.py : Dt → PyData
  | .non => .none
  | .bl b => .bool b
  | .int i => .int i
  | .str l => .str (mk l)
  | .sq false xs => .list (Dt.pys xs)
  | .sq true xs => .tuple (Dt.pys xs)
  | .dic => .none
  | .obj => .none
def Dt.pys : List Dt → List PyData
  | [] => []
  | x :: xs => x.py :: Dt.pys xs
end
mutual
/-- no dict, no object -/
def Dt.plain : Dt → Bool
  | .dic => false
  | .obj => false
  | .sq _ xs => Dt.plains xs
  | _ => true
def Dt.plains : List Dt → Bool
  | [] => true
  | x :: xs => x.plain && Dt.plains xs
end
mutual
theorem dp_isE {K : PySem.W.Frag} {I H : Hp} (sb : Same I H) : ∀ (x : Dt) (v : V), isE K I v x → x.plain = true → Dp K H v x.py
  | .non, _, h, _ => by cases h; exact .non
  | .bl b, _, h, _ => by cases h; exact .bl b
  | .int i, _, h, _ => by cases h; exact .int i
  | .str l, _, h, _ => by cases h; exact .str _
  | .sq t xs, _, h, p => by
    obtain ⟨a, vs, rfl, ha, es⟩ := h.inv
    have z := dp_Es sb xs vs es p
    cases t
    · exact .lst (SqL.of (sb _ _ ha)) z
    · exact .tup (SqT.of (sb _ _ ha)) z
  | .dic, _, _, p => by cases p
  | .obj, _, _, p => by cases p
theorem dp_Es {K : PySem.W.Frag} {I H : Hp} (sb : Same I H) : ∀ (xs : List Dt) (vs : List V), Es K I vs xs → Dt.plains xs = true → DpAll K H vs (Dt.pys xs)
  | [], vs, h, _ => by
    cases vs with
    | nil => exact .nil
    | cons v vs => exact absurd h.len (by simp)
  | x :: xs, vs, h, p => by
    cases vs with
    | nil => exact absurd h.len (by simp)
    | cons v vs =>
      have p' : (x.plain && Dt.plains xs) = true := p
      rw [Bool.and_eq_true] at p'
      exact .cons (dp_isE sb x v (h.at_ 0 v x rfl rfl) p'.1) (dp_Es sb xs vs ⟨Nat.succ.inj h.len, fun i u y h1 h2 => h.at_ (i + 1) u y h1 h2⟩ p'.2)
end
/-! ### a guarded def that makes lambdas, its own code object told -/
theorem okgL_of {P : Program} {w : World} {K : PySem.W.Frag} {mg : Str → Option Value} {base : Heap} {k : Nat} {ps N : List Str} {sp : Sp} {t qual : Str} {st : Stmt} (F : FnAt K t qual st (He.ga K t)) (S : FnScope N ps (defScope st))
    (hb : ∀ (kV doc pm : Value) (an : Option Addr) (cdv ct : Value) (us : List Value), us.length = ps.length → bindArgs (PySem.W.fnOf t qual (defArgs st) (defBody st) (defScope st) .none kV doc pm an cdv ct) ⟨us, []⟩ = pure (ps.zip us))
    (len : ∀ vs H Q E, sp vs H Q E → vs.length = ps.length)
    (hbody : ∀ (cdv : Value) (A : Around) (outer : List Env) (s : Shared) (H : Hp) (vs : List V) (Q : VK) (E : XK), cdv = .ref (He.codeOf K (t, none)) → Room k (A.deeper (envOfC qual (defScope st) s.heap.objs.size (He.ga K t) cdv)) → A.guards = some [] → sp vs H Q E →
      ∃ u, PSs (cxOf CX0 P w K mg base N qual (defScope st) (He.ga K t) cdv A outer s H E).nox (defBody st) u ∧ u { nx := fun _ H' => Q .non H', rt := Q } (start N vs) H) : OkG P w K mg base CX0 (k + 1) (He.ga K t) ps sp := by
  obtain ⟨fd, F⟩ := F
  exact ⟨fd, fngL_of F S len hbody, F.bindsN hb, F.kp⟩
/-- two fields: one error goes out -/
def outF (C : Addr) (fs : List (Str × V)) (E : XK) (I H : Hp) : Prop := ∀ I' H' dx, Grow No I H I' H' → H' dx = some (.xd fs) → E (.ref C) (some dx) H'
theorem outF.grow {C : Addr} {fs : List (Str × V)} {E : XK} {I H I' H' : Hp} (k : outF C fs E I H) (g : Grow No I H I' H') : outF C fs E I' H' := fun I2 H2 dx g2 h => k I2 H2 dx (g.trans g2) h
end Nw

namespace Nw
open PySem PySem.Spec PyProof.Rows L2
/-! ### xs.count(y), flat values -/
def rCntV (K : PySem.W.Frag) : V → List V → Hp → VK → Prop := fun x xs H Q => ∃ (p : Addr) (ys : List V) (y : V), x = .ref p ∧ xs = [y] ∧ SqL K H p ys ∧ flatV y = true ∧ ys.all flatV = true ∧ Q (.int (ys.countP (fun z => eqV z y) : Nat)) H
theorem count_eqU {x : V} : ∀ {xs : List V} {us : List Value}, Vals xs us → xs.all flatV = true → us.countP (eqU x) = xs.countP fun y => eqV y x
  | _, _, .nil, _ => rfl
  | y :: xs, u :: us, .cons r t, f => by
    rw [List.all_cons, Bool.and_eq_true] at f
    rw [List.countP_cons, List.countP_cons, eqU_of r f.1, count_eqU t f.2]
theorem mt_countV {X : Cx} : MtR X "list.count" (rCntV X.K) := by
  intro pins s σ H x xs v us Q I rx rxs h
  obtain ⟨p, ys, y, rfl, rfl, hs, fy, fs, q⟩ := h
  cases rx
  obtain ⟨u, rfl, ru⟩ := rxs.one
  obtain ⟨its, rv, pl, hz⟩ := I.list hs
  obtain ⟨⟨cls, dd, data, sl⟩, n, ho, hc, hdn, hd⟩ := pl
  simp only at hc hd
  subst hc hd
  have at_ : ∀ {A : Around} {s' : Shared}, ∀ w ∈ its.toArray, SeqAt.EqAt A s' w u (eqU y w) := fun w hw => mem_eqAt ru fy rv fs w (by simpa using hw)
  refine call_meets PySem.F.slot_list_count ⟨_, ho, rfl⟩ PySem.F.entry_list_count (PySem.F.args_list_count_2 _ _) (SeqAt.list_countAt p its.toArray n dd sl u (eqU y)) ⟨ho, at_, ?_⟩
  have ec : its.toArray.toList.countP (eqU y) = ys.countP fun z => eqV z y := count_eqU rv fs
  refine ⟨.int (ys.countP (fun z => eqV z y) : Nat), H, I.tok _, ⟨s.toks, ?_⟩, q⟩
  show Value.int ((its.toArray.toList.countP (eqU y) : Nat) : Int) s.toks = _
  rw [ec]
/-! ### == and != of data, within a comprehension -/
theorem op_eqDK {X : Cx} {K : PySem.W.Frag} (h : X.K = K) (hu : X.A.units + 64 < cLine) : OpR X (compareOp .Eq) (rEqD K) := h ▸ op_eqD hu
theorem op_neDK {X : Cx} {K : PySem.W.Frag} (h : X.K = K) (hu : X.A.units + 64 < cLine) : OpR X (compareOp .NotEq) (rNeD K) := h ▸ op_neD hu
end Nw

namespace Nw
open PySem PySem.Spec PyProof.Rows L2
section
variable {X : Cx} {k : Nat} {f C : Addr} {fd : FuncData} {ps : List Str} {sp : Sp}
/-- the same, a tuple at the other side -/
def rOwnBT (C : Addr) (sp : Sp) (g : Bool → Bool) : R2 := fun x y H Q => ∃ a b dx fs xs, x = .ref a ∧ y = .ref b ∧ H a = some (.ins C dx fs) ∧ H b = some (.tup xs) ∧ sp [.ref a, .ref b] H (fun v H' => ∃ t, v = .bl t ∧ Q (.bl (g t)) H') E0
theorem op_own_neT (hsub : PySem.W.subIn X.K (.type "tuple") (.ref C) = some false) (M : Meth X.K C "__eq__" f) (hne : PySem.W.findIn X.K (.ref C) "__ne__" = some (some (.builtin "object.__ne__"))) (hob : PySem.W.subIn X.K (.ref C) (.type "object") = some true)
    (F : FnOk X.prog X.w X.K X.mg X.base CX0 k f fd ps sp) (hr : Room (k + 1) X.A) (hb : Binds X.K fd ps []) : OpR X (compareOp .NotEq) (rOwnBT C sp not) := by
  intro pins s σ H x y v u Q I rx ry h
  obtain ⟨a, b, dx, fs, gs, rfl, rfl, ha, hb', q⟩ := h
  cases rx
  cases ry
  obtain ⟨mA, J, _⟩ := ins_get I.hok ha
  obtain ⟨its, rv, ⟨ob, hob2, hcb, _⟩, _⟩ := I.tuple (SqT.of hb')
  obtain ⟨od, J, _⟩ := J.look
  obtain ⟨m, hF⟩ := I.fr
  have Xk := I.kIn
  show wpAny (model X.prog X.w) X.A (richCompare .NotEq (.ref a) (.ref b)) (EP X pins σ Q) X.xe s
  have r2 : Vals [V.ref a, V.ref b] [Value.ref a, Value.ref b] := .cons rfl (.cons rfl .nil)
  have e0 : Env0 X.prog X.w X.K X.mg X.base X.A.in1 X.stack s H := I.env0.in1
  have hl : (([.ref a, .ref b] : List Value) ++ []).length = ps.length := by
    have := F.len _ _ _ _ q
    simpa using this
  -- the own ==, one deeper
  have own : wpAny (model X.prog X.w) X.A.in1 (call (.ref f) [.ref a, .ref b]) (EP X pins σ (fun v H' => ∃ t, v = .bl t ∧ Q (.bl (!t)) H')) X.xe s := by
    refine wpAny_call (codeAny_mono (F.run X.A.in1 X.stack s H ⟨[.ref a, .ref b], []⟩ [.ref a, .ref b] [.ref a, .ref b] _ E0 hr.in1 e0 (by
      have := hb s [.ref a, .ref b] I.kIn hl
      simpa using this) r2 q) fun r s' hq => ?_)
    cases r with
    | error e => exact pass0 pins σ H s e s' I hq
    | ok fl =>
      cases fl with
      | ret w => exact I.after hq
      | next => exact False.elim hq
      | brk => exact False.elim hq
      | cont => exact False.elim hq
  have neq : wpAny (model X.prog X.w) X.A.in1 (Builtin.«object.__ne__» ⟨[.ref a, .ref b], []⟩) (fun fin s' => ∃ t, fin = .done (.ret (.bool t)) ∧ EP X pins σ Q (.bool t) s') X.xe s := by
    unfold Builtin.«object.__ne__»
    refine wpAny_bind (m := slotArgs "__ne__" 1 ⟨[.ref a, .ref b], []⟩) ?_
    refine (show wpAny _ _ (pure (Value.ref a, [Value.ref b])) _ _ _ from wpAny_pure ?_)
    refine wpAny_bind (wpAny_cRoomFor hr.in1.units0 ?_)
    refine wpAny_bind (PySem.W.ifBound_K Xk J M.at_ M.fn (wpAny_mono own (fun v s' hv => ?_) fun _ _ e => e))
    obtain ⟨z, H', I', rz, t, rfl, q'⟩ := hv
    cases rz
    refine wpAny_bind (wpAny_truthy_bool ?_)
    exact wpAny_pure ⟨!t, rfl, .bl (!t), H', I', rfl, q'⟩
  have one : wpAny (model X.prog X.w) X.A (tryCompare (.ref a) "__ne__" (.ref b)) (fun r s' => ∃ v, r = some v ∧ EP X pins σ Q v s') X.xe s := by
    unfold tryCompare
    refine wpAny_bind (ifBoundB_K Xk J hne slot_ne (wpAny_call (codeAny_call_builtin slot_ne.plain PySem.F.cmpEntry_ne (check_slotK Xk J PySem.F.cmpKind_ne PySem.F.cmpSplit_ne (PySem.F.cmpArgs_ne _ _) hob ?_))))
    refine wpAny_mono neq (fun fin s' hv => ?_) fun e s' z => z
    obtain ⟨t, rfl, q'⟩ := hv
    exact wpAny_pure ⟨_, rfl, q'⟩
  unfold richCompare
  simp only [oneThing_ref]
  refine wpAny_holding (wpAny_bind (wpAny_cRoomFor hr.units0 ?_))
  refine wpAny_bind (J.type.here (wpAny_bind (wpAny_typeOf_ref hob2 ?_)))
  rw [hcb]
  have ne : (Value.ref C != Value.type "tuple") = true := rfl
  simp only [ne, if_true]
  refine wpAny_bind ((PySem.W.looks_subIn Xk hsub).here ?_)
  simp only [Bool.false_eq_true, if_false]
  refine wpAny_bind (wpAny_mono one (fun r s' z => ?_) fun _ _ e => e)
  obtain ⟨v, rfl, hq⟩ := z
  exact wpAny_pure hq
end
end Nw

namespace Nw
open PySem PySem.Spec PyProof.Rows L2
/-! ### repr of an empty dict beside a text; lambdas within comprehensions -/
section
variable {X : Cx}
/-- data as in call_reprD, or a text and an empty dict in a tuple -/
def rReprE (K : PySem.W.Frag) : List V → Hp → VK → Prop := fun xs H Q => (∃ v d, xs = [v] ∧ Dp K H v d ∧ d.showable = true ∧ d.hasDict = false ∧ d.depth ≤ 64 ∧ d.shown.length ≤ sizeLine ∧ Q (.str d.shown) H) ∨
  ∃ (a b : Addr) (z : Str), xs = [.ref a] ∧ SqT K H a [.str z, .ref b] ∧ H b = some (.dK []) ∧ (PyData.tuple [.str z, .dict []]).shown.length ≤ sizeLine ∧ Q (.str (PyData.tuple [.str z, .dict []]).shown) H
theorem call_reprE (hgd : X.A.guards = some []) (hu : X.A.units + 70 < cLine) : CallR X (.builtin "repr") (rReprE X.K) := by
  intro pins s σ H xs us Q I r h
  rcases h with h | ⟨a, b, z, rfl, ha, hb, hl, q⟩
  · exact call_reprD hgd hu pins s σ H xs us Q I r h
  · obtain ⟨u, rfl, ru⟩ := vals1 r
    cases ru
    obtain ⟨its, rv, ⟨o, ho, hc, n, hd⟩, _⟩ := I.tuple ha
    obtain ⟨u1, u2, rfl, r1, r2⟩ := vals2 rv
    cases r2
    obtain ⟨t, rfl⟩ := r1
    obtain ⟨_, hsm, vs, kv, dd⟩ := dk_of I.hok hb
    have rb : ∃ as, Reads s.heap (.ref b) (.dict []) as ∧ sysModules ∉ as := by
      obtain ⟨ob, es, ep, hob, hex, hdb, _, pr, _⟩ := dd
      cases kv
      cases hes : es.toList with
      | cons e l => rw [hes] at pr; cases pr
      | nil =>
        have rd : Reads s.heap (.ref b) (.dict []) (b :: [] ++ []) := Reads.dict hob hex.1 hdb (by rw [hes]; exact .nil) (by rw [hes]; exact .nil)
        exact ⟨_, rd, by simpa using fun z => beq_eq_false_iff_ne.mp hsm z.symm⟩
    obtain ⟨as, rb, hns⟩ := rb
    have ra : Reads s.heap (.ref a) (.tuple [.str z, .dict []]) ([] ++ (as ++ [])) := Reads.tuple ho hc hd (.cons (.str z t) (.cons rb .nil))
    have hdep : (PyData.tuple [.str z, .dict []]).depth = 2 := by simp only [PyData.depth, PyData.depthAll, PyData.depthKv]; rfl
    exact repr_of_reads' ra (by simp only [PyData.showable, PyData.showableAll, PyData.showableKv]; rfl) (fun _ => by simpa using hns) hgd (by rw [hdep]; omega) (fun _ _ z => z) (fun h' u tk hk => ⟨.str _, H, I.kept (t' := tk) hk, ⟨_, rfl⟩, q⟩) hl
end
/-! ### a lambda within a comprehension -/
theorem lookup_rel {env : Env} {x : Str} : ∀ {names : List (Str × NameKind)}, (names.lookup x = some .cell ∨ names.lookup x = some .free) →
    (names.map fun (n, k) => if (k == NameKind.free && env.scope.kind == .function && env.kindOf n == some .cell) then (n, NameKind.cell) else (n, k)).lookup x = some .cell ∨
    (names.map fun (n, k) => if (k == NameKind.free && env.scope.kind == .function && env.kindOf n == some .cell) then (n, NameKind.cell) else (n, k)).lookup x = some .free
  | [], h => by rcases h with h | h <;> cases h
  | (n, k) :: r, h => by
    have ih := @lookup_rel env x r
    show List.lookup x ((if (k == NameKind.free && env.scope.kind == .function && env.kindOf n == some .cell) = true then (n, NameKind.cell) else (n, k)) :: _) = _ ∨ List.lookup x ((if (k == NameKind.free && env.scope.kind == .function && env.kindOf n == some .cell) = true then (n, NameKind.cell) else (n, k)) :: _) = _
    cases hx : x == n with
    | true =>
      simp only [List.lookup_cons, hx] at h
      by_cases hc : (k == NameKind.free && env.scope.kind == .function && env.kindOf n == some .cell) = true
      · rw [if_pos hc]
        simp only [List.lookup_cons, hx]
        exact .inl trivial
      · rw [if_neg hc]
        simp only [List.lookup_cons, hx]
        exact h
    | false =>
      simp only [List.lookup_cons, hx] at h
      by_cases hc : (k == NameKind.free && env.scope.kind == .function && env.kindOf n == some .cell) = true
      · rw [if_pos hc]
        simp only [List.lookup_cons, hx]
        exact ih h
      · rw [if_neg hc]
        simp only [List.lookup_cons, hx]
        exact ih h
theorem lamS_rel {bs scope : Scope} {env : Env} (h : LamX.lamSB bs scope = true) : LamX.LamS (relabel bs env) scope := by
  have L := LamX.lamS_by h
  exact ⟨L.kind, L.co, L.gen, L.own, fun y hy e => lookup_rel (L.free y hy e)⟩
end Nw

namespace Nw
open PySem PySem.Spec PyProof.Rows L2
/-! ### lambdas made in several defs: a list of tables -/
theorem tb_uniq {P : Addr} {u : Str} {q : Addr × Str} : ∀ {Tb : List (Addr × Str)}, (Tb.map Prod.fst).Nodup → (P, u) ∈ Tb → q ∈ Tb → q.1 = P → q.2 = u
  | [], _, h, _, _ => nomatch h
  | y :: l, nd, hm, hq, h1 => by
    obtain ⟨n1, n2⟩ := List.nodup_cons.mp (show (y.1 :: l.map Prod.fst).Nodup from nd)
    rcases List.mem_cons.mp hq with hq | hq
    · rcases List.mem_cons.mp hm with h | h
      · rw [hq, ← h]
      · refine absurd ?_ n1
        rw [← hq, h1]
        exact List.mem_map_of_mem (f := Prod.fst) h
    · rcases List.mem_cons.mp hm with h | h
      · refine absurd ?_ n1
        rw [← h]
        show P ∈ l.map Prod.fst
        rw [← h1]
        exact List.mem_map_of_mem (f := Prod.fst) hq
      · exact tb_uniq n2 h hq h1
theorem pe_told2 {X : Cx} {Tb : List (Addr × Str)} {TT : (XK → Hp → VK → Prop) → Hp → VK → Prop} {x a : Str} {g c P : Addr} {k : Nat} {st : Stmt} {Ng : List Str} {params : Arguments} {body : Expr} {scope : Scope} {t : XK → TE} {p lpos pos : Pos} {e : Addr × Str}
    (F : FnAt X.K x x st g) (S : FnScope Ng [a] (defScope st)) (hm : X.mg x = some (.ref g)) (hG : ∀ cdv, LamX.GivesTo X Ng x (defScope st) g cdv (defBody st) a (X.env.qual ++ "<lambda>") TT)
    (TB : LamX.TabB X.base X.mg c P) (hcode : X.env.code = .ref c) (hT : (P, X.env.qual ++ "<lambda>") = e) (hmT : e ∈ Tb) (nd : (Tb.map Prod.fst).Nodup) (hr : Room (k + 2) X.A) (L : LamX.LamS X.env.scope scope)
    (hbody : ∀ (A : Around) (outer : List Env) (s : Shared) (H : Hp) (E : XK) (f c' : Addr), Room k (A.deeper (LamX.lamEnv X scope s.heap.objs.size f c')) → PE (LamX.lamCx X A outer s H E scope f c') body (t E))
    (hdef : defaultsOf params X.env = ([], []) := by rfl)
    (hbind : ∀ (q : Str) (cl : List (Str × Addr)) (pm cv ctv : Value), bindArgs (PySem.W.kla_fn "<lambda>" q params body scope cl pm cv ctv) ⟨[], []⟩ = pure [] := by intro _ _ _ _ _; rfl)
    (hb : ∀ (kV doc pm : Value) (an : Option Addr) (cdv ct : Value) (us : List Value), us.length = 1 → bindArgs (PySem.W.fnOf x x (defArgs st) (defBody st) (defScope st) .none kV doc pm an cdv ct) ⟨us, []⟩ = pure ([a].zip us) := by intro _ _ _ _ _ _ us hl; match us, hl with | [_], _ => rfl)
    (hg : Gl X x := by rfl) (hNg : Ng[0]? = some a := by rfl) (hva : Vis (defScope st) a := by first | exact Or.inl rfl | exact Or.inr (Or.inl rfl)) (hdb : (x == ("__debug__" : Str)) = false := by decide) (hd : (a == ("__debug__" : Str)) = false := by decide) (hcd : (a == ("__classdict__" : Str)) = false := by decide) :
    PE X (.Call (.Name x p) [.Lambda params body scope lpos] [] pos) (LamX.tLam Tb TT t) := by
  obtain ⟨fd, F⟩ := F
  have B := F.bindsN (ps := [a]) hb
  obtain ⟨oc, od, dV, kV, doc, pm, an, cdv, ct, osl, e', lk, hcd', _⟩ := F.ex
  subst e'
  refine LamX.pe_lamcall hg hm F.kp lk hcd' B S hNg hva (hG cdv) TB hcode (by rw [hT]; exact hmT) (fun q hq h1 => ?_) hr L hdef hbind hbody hdb hd hcd
  exact tb_uniq nd (by rw [hT]; exact hmT) hq h1
end Nw

namespace Nw
open PySem PySem.Spec PyProof.Rows L2
/-! ### a dict is no text -/
theorem dict_ne_str (l : Addr) (es : Array DictEntry) (n : Nat) (dd : Option Addr) (sl : Array (Option Value)) (b : Str) (u : Tok) :
    Meets (Builtin.«dict.__ne__» ⟨[.ref l, .str b u], []⟩) (fun _ R s => s.heap.get? l = some { cls := .type "dict", dict := dd, data := .dict es n, slots := sl } ∧ R (.ok (.ret .notImplemented)) s) :=
  .of_wp fun prog w A R s h => by obtain ⟨hp, g, d, tk, os⟩ := s; obtain ⟨hl, h⟩ := h; have f1 := F.sub_str_dict; wp_walk using wpAny_loadPart' hl; exact ⟨_, rfl, h⟩
theorem str_ne_dict (b : Str) (u : Tok) (l : Addr) (es : Array DictEntry) (n : Nat) (dd : Option Addr) (sl : Array (Option Value)) :
    Meets (Builtin.«str.__ne__» ⟨[.str b u, .ref l], []⟩) (fun _ R s => s.heap.get? l = some { cls := .type "dict", dict := dd, data := .dict es n, slots := sl } ∧ R (.ok (.ret .notImplemented)) s) :=
  .of_wp fun prog w A R s h => by obtain ⟨hp, g, d, tk, os⟩ := s; obtain ⟨hl, h⟩ := h; wp_walk using wpAny_loadPart' hl, wpAny_load hl; exact ⟨_, rfl, h⟩
def rNeS : R2 := fun x y H Q => rNe x y H Q ∨ ∃ a kvs z, x = .ref a ∧ y = .str z ∧ H a = some (.dK kvs) ∧ Q (.bl true) H
theorem op_neS {X : Cx} (hu : X.A.units + 64 < cLine) : OpR X (compareOp .NotEq) rNeS := by
  intro pins s σ H x y v u Q I rx ry h
  rcases h with h | ⟨a, kvs, z, rfl, rfl, ha, q⟩
  · exact op_ne pins s σ H x y v u Q I rx ry h
  · obtain rfl : v = Value.ref a := rx
    obtain ⟨t, rfl⟩ := ry
    obtain ⟨_, hsm, vs, kv, dd⟩ := dk_of I.hok ha
    obtain ⟨⟨cls, dc, data, sl⟩, es, ep, ho, hex, hd, _⟩ := dd
    have hc := hex.1
    simp only at hc hd
    subst hc hd
    exact SeqAt.rc_ne_decline_or (k := false) ⟨_, ho, rfl⟩ (typeIs_str s z t) (by decide) F.sub_str_dict F.slot_dict_ne F.slot_str_ne_refl
      (fun _ hq => call_meets F.slot_dict_ne ⟨_, ho, rfl⟩ F.entry_dict_ne (F.args_dict_ne_2 _ _) (dict_ne_str a es ep dc sl z t) ⟨ho, hq⟩)
      (fun _ hq => call_meets F.slot_str_ne_refl (typeIs_str s z t) F.entry_str_ne (F.args_str_ne_2 _ _) (str_ne_dict z t a es ep dc sl) ⟨ho, hq⟩)
      (fun _ hq => wpAny_of_eq (rfl : isSame (.ref a) (.str z t) = pure false) hq) (.inr (Nat.lt_of_le_of_lt (Nat.le_add_right _ _) hu)) (fin_bl I q rfl)
end Nw

namespace Nw
open PySem PySem.Spec PyProof.Rows L2
/-! ### e[b] by an own __getitem__ -/
def rGetO (C : Addr) (sp : Sp) (E : XK) : R2 := fun x y H Q => ∃ a dx fs, x = .ref a ∧ H a = some (.ins C dx fs) ∧ sp [.ref a, y] H Q E
theorem pe_getO {X : Cx} {k : Nat} {C f : Addr} {CX : CXT} {E : XK} {ps : List Str} {sp : Sp} {e b : Expr} {te tb : TE} {pos : Pos} (M : Meth X.K C "__getitem__" f) (G : Ok X.prog X.w X.K X.mg X.base CX k f ps sp) (hr : Room (k + 1) X.A) (hx : Passes CX X E)
    (he : PE X e te) (hb : PE X b tb) (hsl : ∀ o i, subscripted b true o i = runValue (.builtin "lifetime.subscript" ⟨[o, i], []⟩) := by intro _ _; with_unfolding_all rfl) : PE X (.Subscript e b pos) (tOp (rGetO C sp E) te tb) := by
  obtain ⟨fd, F, bd, _, oc, od, osl, lk⟩ := G.ok
  refine ⟨fun pins s σ H Q I h => ?_⟩
  refine Subscript_ (binT he hb I h fun v u s2 x y H2 I2 rx ry q => ?_)
  obtain ⟨a, dx, fs, rfl, ha, q⟩ := q
  obtain rfl : v = Value.ref a := rx
  obtain ⟨mA, J, _⟩ := ins_get I2.hok ha
  obtain ⟨od, J, _⟩ := J.look
  obtain ⟨m, hF⟩ := I2.fr
  have r2 : Vals [V.ref a, y] [Value.ref a, u] := .cons rfl (.cons ry .nil)
  have e0 : Env0 X.prog X.w X.K X.mg X.base X.A.in1 X.stack s2 H2 := I2.env0.in1
  have hl : (([.ref a, u] : List Value) ++ []).length = ps.length := by
    have := F.len _ _ _ _ q
    simpa using this
  refine PySem.W.sub_K hF I2.ok.mod.kin J M.at_ (by unfold PySem.W.fnIn; rw [lk]) M.fn ?_ (hsl _ _)
  refine wpAny_call (codeAny_mono (F.run X.A.in1 X.stack s2 H2 ⟨[.ref a, u], []⟩ [.ref a, u] [.ref a, y] Q E hr.in1 e0 (by
    have := bd s2 [.ref a, u] I2.kIn hl
    simpa using this) r2 q) fun r s' hq => ?_)
  cases r with
  | error e => exact hx pins σ H2 s2 e s' I2 hq
  | ok fl =>
    cases fl with
    | ret w => exact I2.after hq
    | next => exact False.elim hq
    | brk => exact False.elim hq
    | cont => exact False.elim hq
end Nw

/-! N31: list(range(a, b)) whatever the bounds are -/
namespace PySem
open Sem (wp)
section
variable {prog : Program} {w : World} {A : Around} {E : Value → Shared → Prop} {s : Shared}

theorem long_extend {R : Result → Shared → Prop} {r : Addr} {a b c : Int} {t u v : Tok} {n : Nat} (hh : A.handled = none) (hr : IsRange s.heap r a b c t u v) (hbig : Builtin.Range.small a b c = false)
    (hn : Builtin.Range.rangeSize a b c = n) (hlen : n ≤ 2 ^ 24) (S : Addr) (res : Value) (c₀ : Nat) (hS : s.heap.get? S = some { cls := .type "list", data := .seq #[] c₀ })
    (hR : ∀ h' tk acc' c', (∀ b o, b ≠ S → s.heap.get? b = some o → h'.get? b = some o) → h'.get? S = some { cls := .type "list", dict := none, data := .seq acc' c', slots := #[] } →
      ItemsOf (fun i v => ∃ t, v = .int (a + i * c) t) acc' n → R (.ok (.ret res)) { s with heap := h', toks := tk }) :
    wpAny (model prog w) A.in1 (Builtin.List.listExtendWith (.ref S) (.ref r) res)
      (fun fin s' => match fin with | .done f => R (.ok f) s' | .again c' => c'.quiet = true ∧ codeAny (model prog w) A c' R s') (fun e s' => R (.error e) s') s := by
  have hSr : S ≠ r := fun e => by rw [e, hr] at hS; simp at hS
  have hSlt : S < s.heap.objs.size := Heap.lt_size hS
  have hSI : S ≠ s.heap.objs.size := Nat.ne_of_lt hSlt
  have hSf : S ∉ [s.heap.objs.size] := fun hm => hSI (List.mem_singleton.mp hm)
  have W := (Walks.longrange (prog := prog) (w := w) (A := A.in1) hh s.heap.objs.size a c n).toS
  have key : ∀ (h : Heap) (c₁ tk : Nat), IsLongIter h s.heap.objs.size (a + ((0 : Nat) : Int) * c) ((n : Int) - ((0 : Nat) : Int)) c → (∀ b o, b ≠ S → s.heap.get? b = some o → h.get? b = some o) →
      h.get? S = some { cls := .type "list", data := .seq #[] c₁ } → codeAny (model prog w) A (.builtin "list.extend.loop" ⟨[.ref S, .ref s.heap.objs.size, res], []⟩) R { s with heap := h, toks := tk } := by
    intro h c₁ tk hit hk hS₁
    refine codeAny_extend_loopS W (by rw [sizeLine_eq]; omega) S hSf res n 0 _ #[] c₁ rfl (Nat.zero_le _) hit hS₁ (ItemsOf.nil _) fun s' acc' c' hm hS' hacc => ?_
    rw [Moved.eq_with hm]
    refine hR s'.heap s'.toks acc' c' (fun b o hb e => hm.heap b o (fun hmem => ?_) (hk b o hb e)) hS' hacc
    rcases List.mem_cons.mp hmem with e' | hmem
    · exact hb e'
    · exact absurd (Heap.lt_size e) (by rw [List.mem_singleton.mp hmem]; exact Nat.lt_irrefl _)
  unfold Builtin.List.listExtendWith
  refine wpAny_bind (wpAny_typeOf (T := "range") ⟨_, hr, rfl⟩ ?_)
  have h1 : Builtin.List.listSameRef (.ref S) (.ref r) = false := by simp [Builtin.List.listSameRef, hSr]
  have h2 : (Value.type "range" == Value.type "list") = false := by decide
  have h3 : (Value.type "range" == Value.type "tuple") = false := by decide
  simp only [h1, h2, h3, Bool.or_false, Bool.false_eq_true, if_false]
  refine wpAny_bind (wpAny_pyIter_longrange hr hbig ?_)
  refine wpAny_bind (wpAny_holding (wpAny_hint_range (n := n) (Heap.get?_push_of_some _ hr) hn hlen ?_))
  have hit₁ : IsLongIter (s.heap.push { cls := .type "longrange_iterator", data := .fields #[rawInt a, rawInt (Builtin.Range.rangeSize a b c), rawInt c] }) s.heap.objs.size (a + ((0 : Nat) : Int) * c) ((n : Int) - ((0 : Nat) : Int)) c := by
    show IsLongIter _ _ _ _ _; rw [hn]; simpa using Heap.get?_push_size _ rfl
  have hS₁ := Heap.get?_push_of_some { cls := .type "longrange_iterator", data := .fields #[rawInt a, rawInt (Builtin.Range.rangeSize a b c), rawInt c] } hS
  refine wpAny_ite_split (fun _ => ?_) (fun _ => wpAny_pure ⟨plainId_quiet F.plain_extend_loop _, key _ c₀ _ hit₁ (fun b o _ e => Heap.get?_push_of_some _ e) hS₁⟩)
  refine wpAny_bind (wpAny_rule ?_)
  refine wpAny_bind ?_
  show wpAny _ _ (updateSeq S (·.push .none) >>= fun _ => updateSeq S (·.pop)) _ _ _
  refine wpAny_bind (wpAny_updateSeq hS₁ rfl ?_)
  have hS₂ := Heap.get?_update_self (Obj.mapSeq (·.push Value.none)) hS₁ rfl
  refine wpAny_updateSeq (hz := by seq_fits) hS₂ rfl ?_
  have hS₃ := Heap.get?_update_self (Obj.mapSeq (·.pop)) hS₂ rfl
  refine wpAny_pure ⟨plainId_quiet F.plain_extend_loop _, key _ _ _ ?_ (fun b o hb e => ?_) hS₃⟩
  · exact (Heap.get?_update_other _ _ hSI).trans ((Heap.get?_update_other _ _ hSI).trans hit₁)
  · exact (Heap.get?_update_other _ _ (Ne.symm hb)).trans ((Heap.get?_update_other _ _ (Ne.symm hb)).trans (Heap.get?_push_of_some _ e))

theorem long_init {R : Result → Shared → Prop} {r : Addr} {a b c : Int} {t u v : Tok} {n : Nat} (hh : A.handled = none) (hr : IsRange s.heap r a b c t u v) (hbig : Builtin.Range.small a b c = false)
    (hn : Builtin.Range.rangeSize a b c = n) (hlen : n ≤ 2 ^ 24) (S : Addr) (hS : s.heap.get? S = some { cls := .type "list", data := .seq #[] })
    (hR : ∀ h' tk acc' c', (∀ b o, b ≠ S → s.heap.get? b = some o → h'.get? b = some o) → h'.get? S = some { cls := .type "list", dict := none, data := .seq acc' c', slots := #[] } →
      ItemsOf (fun i v => ∃ t, v = .int (a + i * c) t) acc' n → R (.ok (.ret .none)) { s with heap := h', toks := tk }) :
    wpAny (model prog w) A.in1 (Builtin.«list.__init__» ⟨[.ref S, .ref r], []⟩)
      (fun fin s' => match fin with | .done f => R (.ok f) s' | .again c' => c'.quiet = true ∧ codeAny (model prog w) A c' R s') (fun e s' => R (.error e) s') s := by
  have hSr : S ≠ r := fun e => by rw [e, hr] at hS; simp at hS
  show wpAny _ _ (do let old ← Builtin.List.listItems (.ref S); Builtin.List.listUpdate (.ref S) (fun _ => #[]); letGo old.toList.reverse; Builtin.List.listExtendWith (.ref S) (.ref r) .none) _ _ s
  refine wpAny_bind ?_
  unfold Builtin.List.listItems
  refine wpAny_bind (wpAny_seqItems hS rfl (wpAny_pure ?_))
  show wpAny _ _ (updateSeq S (fun _ => #[]) >>= fun _ => letGo (#[] : Array Value).toList.reverse >>= fun _ => Builtin.List.listExtendWith (.ref S) (.ref r) .none) _ _ s
  refine wpAny_bind (wpAny_updateSeq hS rfl ?_)
  have hS₂ := Heap.get?_update_self (Obj.mapSeq (fun _ => (#[] : Array Value))) hS rfl
  have oth : ∀ b o, b ≠ S → s.heap.get? b = some o → (s.heap.update S (Obj.mapSeq (fun _ => (#[] : Array Value)))).get? b = some o :=
    fun b o hb e => (Heap.get?_update_other _ _ (Ne.symm hb)).trans e
  refine wpAny_bind (wpAny_letGo ?_)
  refine long_extend hh (oth r _ (Ne.symm hSr) hr) hbig hn hlen S .none _ hS₂ fun h' tk acc' c' hk hS' hacc => ?_
  exact hR h' tk acc' c' (fun b o hb e => hk b o hb (oth b o hb e)) hS' hacc

theorem call_list_long {Q : Value → Shared → Prop} {r : Addr} {a b c : Int} {t u v : Tok} {n : Nat} (hh : A.handled = none) (hr : IsRange s.heap r a b c t u v) (hbig : Builtin.Range.small a b c = false)
    (hn : Builtin.Range.rangeSize a b c = n) (hlen : n ≤ 2 ^ 24)
    (hQ : ∀ h' tk acc' c', (∀ b o, s.heap.get? b = some o → h'.get? b = some o) →
      h'.get? s.heap.objs.size = some { cls := .type "list", dict := none, data := .seq acc' c', slots := #[] } → ItemsOf (fun i v => ∃ t, v = .int (a + i * c) t) acc' n → Q (.ref s.heap.objs.size) { s with heap := h', toks := tk }) :
    wpAny (model prog w) A (call (.type "list") [.ref r]) Q E s := by
  refine callType_codes (Q₁ := fun obj s₁ => obj = .ref s.heap.objs.size ∧ s₁ = { s with heap := s.heap.push { cls := .type "list", data := .seq #[] } }) F.called_list (F.typeCall_list_1 _) F.entry_list_init
    (code_list_new _ ⟨rfl, rfl⟩) fun obj s₁ h₁ => ?_
  obtain ⟨rfl, rfl⟩ := h₁
  have hS : (s.heap.push { cls := .type "list", data := .seq #[] }).get? s.heap.objs.size = some { cls := .type "list", data := .seq #[] } := Heap.get?_push_size _ rfl
  refine ⟨⟨_, hS, rfl⟩, F.args_list_init_2 _ _, long_init (A := A.in1) hh (Heap.get?_push_of_some _ hr) hbig hn hlen _ hS fun h' tk acc' c' hk hS' hacc => ?_⟩
  exact ⟨rfl, hQ h' tk acc' c' (fun b o e => hk b o (Nat.ne_of_lt (Heap.lt_size e)) (Heap.get?_push_of_some _ e)) hS' hacc⟩

theorem call_list_any {Q : Value → Shared → Prop} {r : Addr} {a b c : Int} {t u v : Tok} {n : Nat} (hh : A.handled = none) (hr : IsRange s.heap r a b c t u v)
    (hn : Builtin.Range.rangeSize a b c = n) (hlen : n ≤ 2 ^ 24)
    (hQ : ∀ h' tk acc' c', (∀ b o, s.heap.get? b = some o → h'.get? b = some o) →
      h'.get? s.heap.objs.size = some { cls := .type "list", dict := none, data := .seq acc' c', slots := #[] } → ItemsOf (fun i v => ∃ t, v = .int (a + i * c) t) acc' n → Q (.ref s.heap.objs.size) { s with heap := h', toks := tk }) :
    wpAny (model prog w) A (call (.type "list") [.ref r]) Q E s := by
  by_cases h : Builtin.Range.small a b c = true
  · exact call_list_range hh hr h hn hlen hQ
  · exact call_list_long hh hr (by simpa using h) hn hlen hQ
end
end PySem
namespace L2
open PySem PySem.Spec PyProof.Rows
section
variable {X : Cx} {e : Expr} {te : St → Hp → (Int → Int → Hp → Prop) → Prop}
/-- list(range(a, b)), whatever a and b are: not too long -/
def tLstRgB (te : St → Hp → (Int → Int → Hp → Prop) → Prop) : TE := fun σ H Q => te σ H fun a b H1 => (b - a).toNat ≤ 2 ^ 24 ∧ ∀ q, H1 q = none → Q (.ref q) (upd H1 q (.lst (rgV a b)))
theorem pe_listRgB {p pos : Pos} (hc : X.calm = true) (hg : Gl X "list") (hm : X.mg "list" = none) (he : PRg X e te) (na : starEach [e] X.env = (false, eval e X.env) :: starEach [] X.env := by rfl) : PE X (.Call (.Name "list" p) [e] [] pos) (tLstRgB te) := by
  refine ⟨fun pins s σ H Q I h => ?_⟩
  refine Call_ (ld_blt I hg hm boot_list (PyProof.Rows.callWith_type1 (args_cons (thn (he pins s σ H _ I h) fun x s1 ⟨r, a, b, t, u, v, H1, ex, hr, I1, b5, q⟩ => args_nil ?_) na) na))
  subst ex
  refine call_list_any (n := (b - a).toNat) (I1.ok.hd hc) hr (rangeSize_nat a b) b5 fun h' tk acc c' hk e' hi => ?_
  refine ⟨.ref s1.heap.objs.size, upd H1 s1.heap.objs.size (.lst (rgV a b)), I1.laid hk (Nat.le_refl _) (show ObjOk X.prog X.w _ _ _ (.lst (rgV a b)) from ⟨?_, acc.toList, c', vals_rg hi, ?_⟩), rfl, q _ (I1.hok.fresh (Nat.le_refl _))⟩
  · rw [rgV_length, sizeLine_eq]; omega
  · rw [Array.toArray_toList]; exact e'
end
end L2

/-! N32: sep.join(a dict of texts) -/
namespace PySem
open Sem (wp)
open Builtin Builtin.Str Builtin.Int
theorem nolen_kit : typeLookup (.type "dict_keyiterator") "__len__" = pure none := by rw [typeLookup_type, builtinLookup_eq_fast]; kernel_rfl
section
variable {prog : Program} {w : World} {A : Around} {E : Value → Shared → Prop} {s : Shared} {I : Addr} {fp wr : List Addr} {G : Array GenState → Array GenState → Prop} {n : Nat} {P : Nat → Value → Prop} {St : Nat → Shared → Prop}
theorem collect_kit {Q : List Value → Shared → Prop}
    (W : WalksS prog w A.in1 I fp wr G n P St) (hT : ∀ i s, St i s → s.TypeIs (.ref I) "dict_keyiterator") (hst : St 0 s) (hfp : ∀ b ∈ fp, b < s.heap.objs.size) (hI : I ∈ fp)
    (hQ : ∀ s' acc, Moved wr G s s' → ItemsOf P acc n → Q acc.toList s') (hn : n ≤ sizeLine) : wpAny (model prog w) A (collect (.ref I)) Q E s := by
  have hSf : s.heap.objs.size ∉ fp := fun hm => Nat.lt_irrefl _ (hfp _ hm)
  have hSI : s.heap.objs.size ≠ I := fun e => hSf (e ▸ hI)
  unfold collect
  refine wpAny_bind (wpAny_runValue (codeAny_builtin F.entry_proto_collect ?_))
  rw [Around.under_plainId F.plain_proto_collect _]
  show wpAny _ A.in1 (newList [] >>= fun l => again (.builtin "list.__iadd__" ⟨[l, .ref I], []⟩)) _ _ s
  refine wpAny_bind (wpAny_newObj_type ?_)
  refine wpAny_pure ⟨plainId_quiet F.plain_list_iadd _, codeAny_builtin F.entry_list_iadd ?_⟩
  rw [Around.under_plainId F.plain_list_iadd _]
  have hst₁ := W.frame 0 s (s.heap.push { cls := .type "list", data := .seq ([] : List Value).toArray }) s.toks hst (Nat.le_refl _) fun b _ o e => Heap.get?_push_of_some _ e
  have hS₁ : (s.heap.push { cls := .type "list", data := .seq ([] : List Value).toArray }).get? s.heap.objs.size = some { cls := .type "list", data := .seq ([] : List Value).toArray } := Heap.get?_push_size _ rfl
  have h1 : Builtin.List.listSameRef (.ref s.heap.objs.size) (.ref I) = false := by simp [Builtin.List.listSameRef, hSI]
  show wpAny _ A.in1 (Builtin.List.listExtendWith (.ref s.heap.objs.size) (.ref I) (.ref s.heap.objs.size)) _ _ _
  unfold Builtin.List.listExtendWith
  refine wpAny_bind (wpAny_typeOf (hT 0 _ hst₁) ?_)
  rw [if_neg (by rw [h1]; decide)]
  refine wpAny_bind (W.self 0 _ _ _ hst₁ ?_)
  refine wpAny_bind (wpAny_holding ?_)
  unfold Builtin.List.listLengthHint
  refine wpAny_bind (wpAny_specialOf (hT 0 _ hst₁) nolen_kit ?_)
  show wpAny _ A.in1 (specialOf (Value.ref I) (Str.ofString "__length_hint__") >>= _) _ _ _
  refine wpAny_bind (wpAny_specialOf (hT 0 _ hst₁) F.slot_dict_keyiterator_length_hint.lookup ?_)
  (generalize hid : ("dict_keyiterator.__length_hint__" : String) = id0; (fail_if_success (clear hid id0)); wp_delta; rw [show splitId id0 = some ("dict_keyiterator", "__length_hint__") from by subst hid; decide +kernel]; subst hid)
  refine wpAny_bind (wpAny_isInstance (b := true) (hT 0 _ hst₁) (by rw [isSubtype_type]; kernel_rfl) ?_)
  refine wpAny_pure ?_
  rw [if_neg (by decide)]
  refine wpAny_pure ⟨plainId_quiet F.plain_extend_loop _, codeAny_extend_loopS W hn _ hSf _ n 0 _ _ _ rfl (Nat.zero_le _) hst₁ hS₁ (ItemsOf.nil P) fun s' acc' c' hm hS' hacc => ?_⟩
  show wpAny _ A (load s.heap.objs.size >>= _) _ _ s'
  refine wpAny_bind (wpAny_load hS' ?_)
  exact wpAny_pure (hQ s' acc' (Moved.drop_new (o := { cls := .type "list", data := .seq ([] : List Value).toArray }) (tk := s.toks) hm (Nat.le_refl _)) hacc)
end
section
variable {prog : Program} {w : World} {A : Around} {E : Value → Shared → Prop} {s : Shared} {K : Type} [DecidableEq K] {knd : KeyKind prog w K}
theorem call_joinD {x : Str} {t : Tok} {d : Addr} {kvs : List (K × Value)} {ep : Nat} {ys : List Str} {Q : Value → Shared → Prop} (hh : A.handled = none) (lo : (d == sysModules) = false) (hm : s.heap.DictAt knd d kvs ep)
    (hP : ∀ acc : Array Value, ItemsOf (fun i v => ∃ k x, kvs[i]? = some (k, x) ∧ knd.is k v = true) acc kvs.length → PyProof.Rows.StrsAre acc.toList ys) (hok : (ys.map (·.length)).sum + ys.length * x.length ≤ 16777216)
    (hq : ∀ h', (∀ b o, s.heap.get? b = some o → h'.get? b = some o) → ∀ t' k, Q (.str (Txt.join x ys) t') { s with heap := h', toks := k }) (hn : kvs.length ≤ sizeLine) :
    wpAny (model prog w) A (call (.builtin "str.join") [.str x t, .ref d]) Q E s := by
  have hT : s.TypeIs (.ref d) "dict" := hm.dictOf.typeIs
  refine wpAny_call (codeAny_call_builtin F.slot_str_join.plain F.entry_str_join (F.slot_str_join.check _ _ _ _ _ _ _ _ (typeIs_str _ _ _) (F.args_str_join_2 _ _) ?_))
  rw [join_tree_other]
  refine wpAny_bind (wpAny_typeOf hT ?_)
  show wpAny _ A.in1 ((pyIter (.ref d)).tryCatch _ >>= fun it => collect it >>= fun items => joinTail x items) _ _ s
  refine wpAny_bind (wpAny_tryCatch (wpAny_pyIter_dict lo hm ?_))
  have hne : d ≠ s.heap.objs.size := Nat.ne_of_lt hm.lt_size
  have hh1 : A.in1.in1.handled = none := hh
  refine wpAny_bind (collect_kit (I := s.heap.objs.size) (n := kvs.length) (Walks.dictKeys (A := A.in1.in1) hh1 s.heap.objs.size d hne kvs ep).toS (fun i s' st => st.1.typeIs) ⟨⟨_, Heap.get?_push_size _ rfl, rfl, rfl⟩, hm.push _⟩ (fun b hb => ?_) (by simp) (fun s' acc hmv hacc => ?_) hn)
  · simp only [List.mem_cons, List.not_mem_nil, or_false] at hb
    rcases hb with rfl | rfl
    · simp [Heap.push]
    · exact Nat.lt_of_lt_of_le hm.lt_size (by simp [Heap.push])
  obtain ⟨l, hl, ht⟩ := PyProof.Rows.strsAre_values (hP acc hacc)
  subst ht
  rw [hl]
  have hok' := PyProof.Rows.joinOk_of hok
  unfold JoinOk at hok'
  rw [Bool.not_eq_true'] at hok'
  have g : Gives (joinTail x (strValues l)) (joinMade x l) := by
    have g0 := gives_joinTail x l hok'
    cases l with
    | nil => exact g0
    | cons p r => cases r with
      | nil => exact g0
      | cons q r' => exact g0
  refine g prog w A (wants Q E) s' (post_join l ⟨joinFit_length hok', fun t' k => ?_⟩)
  rw [Moved.eq_with hmv]
  exact hq s'.heap (fun b o e => hmv.heap b o (fun hmem => absurd (Heap.lt_size e) (by rw [List.mem_singleton.mp hmem]; exact Nat.lt_irrefl _)) (Heap.get?_push_of_some _ e)) t' k
end
end PySem
namespace L2
open PySem PySem.Spec PyProof.Rows
theorem strs_of_get : ∀ (us : List Value) (ys : List Str), us.length = ys.length → (∀ (i : Nat) (u : Value) (y : Str), us[i]? = some u → ys[i]? = some y → ∃ t, u = .str y t) → StrsAre us ys
  | [], [], _, _ => .nil
  | u :: us, y :: ys, hl, h => by
    obtain ⟨t, rfl⟩ := h 0 u y rfl rfl
    exact .cons y t (strs_of_get us ys (Nat.succ.inj hl) fun i u y h1 h2 => h (i + 1) u y h1 h2)
/-- sep.join(d): the keys of a dict, all of them texts -/
def rJoinD (K : PySem.W.Frag) : V → List V → Hp → VK → Prop := fun x xs H Q => ∃ a p kvs, ∃ ys : List Str, x = .str a ∧ xs = [.ref p] ∧ H p = some (.dK kvs) ∧ kvs.map Prod.fst = ys.map (Sum.inr : Str → Key) ∧
    (ys.map (·.length)).sum + ys.length * a.length ≤ 16777216 ∧ Q (.str (Txt.join a ys)) H
section
variable {X : Cx}
theorem kv_fst {kvs : List (Key × V)} {vs : List (Key × Value)} (h : KV kvs vs) : vs.map Prod.fst = kvs.map Prod.fst := by
  unfold KV at h
  induction h with
  | nil => rfl
  | cons h _ ih => rw [List.map_cons, List.map_cons, ih, h.1]
theorem mt_joinD (hc : X.calm = true) : MtR X "str.join" (rJoinD X.K) := by
  intro pins s σ H x xs v us Q I rx rs h
  obtain ⟨a, p, kvs, ys, rfl, rfl, hp, hk, hz, h⟩ := h
  obtain ⟨t, rfl⟩ := rx
  cases rs with
  | cons r1 rs =>
    cases rs
    cases r1
    obtain ⟨hl, lo, vs, rel, dd⟩ := dk_of I.hok hp
    obtain ⟨o, es, ep, dd⟩ := dd
    have hm : s.heap.DictAt (mixKind X.prog X.w) p vs ep := ⟨o, es, dd⟩
    have hf : vs.map Prod.fst = ys.map (Sum.inr : Str → Key) := (kv_fst rel).trans hk
    have hlen : vs.length = ys.length := by have := congrArg List.length hf; simpa using this
    have hlk : kvs.length = ys.length := by have := congrArg List.length hk; simpa using this
    refine call_joinD (ys := ys) (I.ok.hd hc) lo hm (fun acc hacc => ?_) hz (fun h' hk' t' k => ⟨.str _, H, I.kept (t' := k) hk', ⟨t', rfl⟩, h⟩) (by omega)
    refine strs_of_get _ _ (by rw [Array.length_toList]; exact hacc.1.trans hlen) fun i u y h1 h2 => ?_
    rw [Array.getElem?_toList] at h1
    obtain ⟨k, x, e1, e2⟩ := hacc.2 i u h1
    have e3 : (vs.map Prod.fst)[i]? = some k := by rw [List.getElem?_map, e1]; rfl
    rw [hf, List.getElem?_map, h2] at e3
    cases e3
    rcases keyIs_shape (k := Sum.inr y) (v := u) e2 with ⟨_, _, z, _⟩ | ⟨_, _, z, rfl⟩
    · cases z
    · cases z
      exact ⟨_, rfl⟩
theorem pe_joinD {o e : Expr} {to te : TE} {apos pos : Pos} (hc : X.calm = true) (ho : PE X o to) (he : PE X e te) (hs : starEach [e] X.env = [(false, eval e X.env)] := by rfl) (hbase : attributeBase o "join" X.env (eval o X.env) = eval o X.env := by rfl) (hline : (apos.endLine == pos.line) = true := by rfl) :
    PE X (.Call (.Attribute o "join" apos) [e] [] pos) (tM1 (rJoinD X.K) to te) :=
  pe_m1 F.slot_str_join F.type_str_join (mt_joinD hc) ho he hs hbase hline
end
end L2
namespace Nw
open PySem PySem.Spec PyProof.Rows L2
theorem call_list_ofK {X : Cx} {K : PySem.W.Frag} (h : X.K = K) : CallR X (.type "list") (fun xs H Q => ∃ p ys, xs = [.ref p] ∧ (SqL K H p ys ∨ SqT K H p ys) ∧ ∀ l, H l = none → Q (.ref l) (upd H l (.lst ys))) := h ▸ call_list_of
theorem op_eqNilK {X : Cx} {K : PySem.W.Frag} (h : X.K = K) (hu : X.A.units + 64 < cLine) : OpR X (compareOp .Eq) (rNilE K) := h ▸ op_eqNil hu
theorem op_neNilK {X : Cx} {K : PySem.W.Frag} (h : X.K = K) (hu : X.A.units + 64 < cLine) : OpR X (compareOp .NotEq) (rNilN K) := h ▸ op_neNil hu
end Nw

namespace Nw
open PySem PySem.Spec PyProof.Rows L2
/-! ### dict comprehensions whose keys are tuples -/
/-- what a comprehension stores, keys of any form -/
theorem put_dict {X : Cx} {pins : List (Addr × Obj)} {σ : L2.St} {H H' : Hp} {s : Shared} {E : Value → Shared → Prop} {D : Addr} {y v : V} {u r : Value} {Q : Unit → Shared → Prop} (hu : X.A.units < cLine) (I : Inv X pins σ H s) (g : DPut H D y v H')
    (ry : RelV y u) (rv : RelV v r) (h : ∀ s', Inv X pins σ H' s' → Q () s') : wpAny (model X.prog X.w) X.A (dictSet D u r) Q E s := by
  rcases g with ⟨kvs, k, e, ey, l, eH⟩ | ⟨kvs, k, b, e, ey, eb, l, eH⟩
  · subst ey eH
    exact d_dictSet I e l ry rv h
  · subst ey eH
    cases (show u = Value.ref b from ry)
    obtain ⟨z, hd, xs, rel, dd⟩ := dt_of I.hok e
    have hz : xs.length ≤ sizeLine := by rw [← PySem.Paired.length rel]; exact z
    have hl : (putK kvs k v).length ≤ sizeLine := by have := length_putK kvs k v; omega
    refine wpAny_dictSet_heap (hsz := hz) (show (tupleKind (mixKind X.prog X.w)).room X.A from hu) (key_of I.hok eb) dd fun h' dd' hs => h _ ?_
    obtain ⟨q, es, ep, hq, h2, h3, h4, _, h5⟩ := dd'
    refine d_write I (by rw [e]; exact True.intro) hs ⟨q, hq⟩ ⟨hl, hd, _, (rel.put k eb rv).keeps fun c ys ec => ?_, q, es, ep, hq, h2, h3, h4, h5⟩
    rw [upd_ne (ne_of ec e (fun z => nomatch z))]
    exact ec
/-- {k: v for target in iter if ..}, keys tuples -/
def tDcT (wi : TI) (g : TG) (tt : TT) (tk tv : TE) (vs : List Nat) : TE := fun σ H Q => wi σ H fun J H1 => ∀ D, H1 D = none → ∃ W : Nat → Nat → Hp → Prop, (∃ m, W 0 m (upd H1 D (.dT []))) ∧ ∀ i m H, W i m H →
  (J.stop i H ∧ Q (.ref D) H) ∨ (J.go i H ∧ ∃ Nx : Hp → Prop, (∀ H', Nx H' → ∃ m', m' < m ∧ W (i + 1) m' H') ∧ ∀ x H', J.yld i H x H' → g x (wipe σ vs) H' fun σ2 H2 => wipe σ2 vs = wipe σ vs ∧ tt σ2 H2 fun b H3 =>
    if b = true then tk σ2 H3 fun y H4 => tv σ2 H4 fun z H5 => ∃ H6, DPut H5 D y z H6 ∧ Nx H6 else Nx H3)
theorem dcT_core {X : Cx} {pins : List (Addr × Obj)} {s : Shared} {σ : L2.St} {H : Hp} {Q : VK} {kx vx tg iter : Expr} {ifs : List Expr} {scope : Scope} {own : List (Str × Nat)} {pos pos' : Pos} {wi : TI} {g : TG} {tt : TT} {tk tv : TE} {use : Option (Value → Sem Unit)} {Qf : Value → Shared → Prop} (I : Inv X pins σ H s)
    (hc : X.calm = true) (hN : X.N.Nodup) (hu : X.A.units < cLine) (hi : PI X tg iter wi) (ok : BlkOk X.N X.env.scope scope own)
    (hg : ∀ (s : Shared) (H : Hp) (C : Addr) (cl : List (Str × Addr)) (fp : List Addr), PG (X.blk s H scope (compEnvC scope cl C X.env) fp) tg g) (ht : ∀ (s : Shared) (H : Hp) (C : Addr) (cl : List (Str × Addr)) (fp : List Addr), PTs (X.blk s H scope (compEnvC scope cl C X.env) fp) ifs tt)
    (hk : ∀ (s : Shared) (H : Hp) (C : Addr) (cl : List (Str × Addr)) (fp : List Addr), PE (X.blk s H scope (compEnvC scope cl C X.env) fp) kx tk)
    (he : ∀ (s : Shared) (H : Hp) (C : Addr) (cl : List (Str × Addr)) (fp : List Addr), PE (X.blk s H scope (compEnvC scope cl C X.env) fp) vx tv) (hs : ∀ x, foldedSetIterable iter X.env x = pure x)
    (h : tDcT wi g tt tk tv (own.map (·.2)) σ H Q)
    (hRR : ∀ D C s' m H', Inv X pins σ H' s' → Q (.ref D) H' → s'.heap.Ns C m → FpOk X pins H' C → compPost (model X.prog X.w) X.A X.xe use Qf (.ref D) C (.ok .next) s') :
    wpAny (model X.prog X.w) X.A (comprehension (.DictComp kx vx [⟨tg, iter, ifs, 0⟩] scope pos) scope X.env pos' newDict false (eval iter X.env) use) Qf X.xe s := by
  have hfree : ∀ y ∈ scope.names, y.2 = .free → ∃ c, X.env.cells.lookup y.1 = some c := fun y hy e => (ok.free y hy e).elim (fun k => I.ok.has _ (.inl k)) fun k => I.ok.has _ (.inr k)
  refine wpAny_comprehension_free (use := use) rfl hs (closure_ok hfree) ok.kind (fun y hy e => by rw [ok.uniq y hy, e])
    (thn (hi.run pins s σ H _ I h) fun xv s1 hx => thn hx fun itv s2 h2 => ?_)
  obtain ⟨it, fp, tn, J, H2, e, I2, T, st2, f2, q⟩ := h2
  subst e
  refine wpAny_newObj_type (newEnv_comp ?_)
  -- D: the new dict
  obtain ⟨D, hD⟩ : ∃ D, s2.heap.objs.size = D := ⟨_, rfl⟩
  obtain ⟨W, ⟨m0, w0⟩, turn⟩ := q D (I2.hok.fresh (Nat.le_of_eq hD))
  rw [hD]
  obtain ⟨s3, hs3⟩ : ∃ s3 : Shared, s3 = { s2 with heap := s2.heap.push { cls := .type "dict", data := .dict #[] } } := ⟨_, rfl⟩
  have h3 : s3.heap = s2.heap.push { cls := .type "dict", data := .dict #[] } := by rw [hs3]
  have I3 : Inv X pins σ (upd H2 D (.dT [])) s3 := by
    rw [hs3]
    refine I2.laid (t' := s2.toks) (fun b o e => Heap.get?_push_of_some _ e) (Nat.le_of_eq hD) ?_
    rw [← hD]
    exact dt_empty s2.heap I2.big
  have f3 : ∀ b ∈ fp, FpOk X pins (upd H2 D (.dT [])) b ∧ b < s3.heap.objs.size := fun b hb => by
    obtain ⟨o, eo, _⟩ := T.obj _ _ st2 b hb
    have hlt : b < s2.heap.objs.size := Heap.lt_size eo
    obtain ⟨f4, f5⟩ := f2 b hb
    refine ⟨⟨?_, f5⟩, by rw [h3, Heap.size_push]; exact Nat.lt_succ_of_lt hlt⟩
    rw [upd_ne (by rw [← hD]; exact Nat.ne_of_lt hlt)]
    exact f4
  have st3 : tn 0 s3.heap := T.keep _ _ _ st2 fun b _ o e => by rw [h3]; exact Heap.get?_push_of_some _ e
  rw [← hs3]
  clear hs3 h3 st2 f2
  have I4 := block_start I3 ok hN f3
  have pg := hg s3 (upd H2 D (.dT [])) s3.heap.objs.size (cellsFrom (s3.heap.objs.size + 1) scope.names (cloFrom X.env.cells scope.names [])) fp
  have pt := ht s3 (upd H2 D (.dT [])) s3.heap.objs.size (cellsFrom (s3.heap.objs.size + 1) scope.names (cloFrom X.env.cells scope.names [])) fp
  have pk := hk s3 (upd H2 D (.dT [])) s3.heap.objs.size (cellsFrom (s3.heap.objs.size + 1) scope.names (cloFrom X.env.cells scope.names [])) fp
  have pe := he s3 (upd H2 D (.dT [])) s3.heap.objs.size (cellsFrom (s3.heap.objs.size + 1) scope.names (cloFrom X.env.cells scope.names [])) fp
  have nfp : ∀ b ∈ fp, (upd H2 D (.dT [])) b = none := fun b hb => (f3 b hb).1.1
  show codeAny _ _ (.compStart (.DictComp kx vx [⟨tg, iter, ifs, 0⟩] scope pos) 0 (.ref it) (.ref D) (compEnvC scope (cellsFrom (s3.heap.objs.size + 1) scope.names (cloFrom X.env.cells scope.names [])) s3.heap.objs.size X.env)) (compPost (model X.prog X.w) X.A X.xe use Qf (.ref D) s3.heap.objs.size) { s3 with heap := pushCells (s3.heap.push { cls := .type "dict", data := .dict #[] }) scope.names }
  have cL : (compEnvC scope (cellsFrom (s3.heap.objs.size + 1) scope.names (cloFrom X.env.cells scope.names [])) s3.heap.objs.size X.env).locals = s3.heap.objs.size := rfl
  revert I4 pg pt pk pe cL
  generalize compEnvC scope (cellsFrom (s3.heap.objs.size + 1) scope.names (cloFrom X.env.cells scope.names [])) s3.heap.objs.size X.env = ce
  have hst4 : tn 0 ({ s3 with heap := pushCells (s3.heap.push { cls := .type "dict", data := .dict #[] }) scope.names } : Shared).heap := T.keep _ _ _ st3 fun b _ o e => pushCells_keeps _ _ _ _ (Heap.get?_push_of_some _ e)
  revert hst4
  generalize ({ s3 with heap := pushCells (s3.heap.push { cls := .type "dict", data := .dict #[] }) scope.names } : Shared) = s4
  intro st4 I4 pg pt pk pe cL
  revert I3 I4 pg pt pk pe w0 nfp f3
  generalize upd H2 D (.dT []) = H3
  intro w0 I3 f3 nfp I4 pg pt pk pe
  -- the walked object's parts: pinned while the block's own code runs
  have stat : ∀ {σ' : L2.St} {H' : Hp} {s' : Shared}, Inv (X.blk s3 H3 scope ce fp) [] σ' H' s' → (∀ b ∈ fp, H' b = none) → ∀ b ∈ fp, FpOk (X.blk s3 H3 scope ce fp) [] H' b := fun {σ' H' s'} I' hn b hb =>
    ⟨hn b hb, (I'.ok.exf b hb).1, I'.ok.exfs b hb, .inl hb, fun x c e => (I'.ok.exf b hb).2 x c e, fun p hp => absurd (show p ∈ ([] : List (Addr × Obj)) ++ [] from hp) (by simp)⟩
  have loop : codeAny (model X.prog X.w) X.A (.compLoop (.DictComp kx vx [⟨tg, iter, ifs, 0⟩] scope pos) 0 (.ref it) (.ref D) ce) (compPost (model X.prog X.w) X.A X.xe use Qf (.ref D) s3.heap.objs.size) s4 := by
    refine compLoop_anyD (fun n s' => ∃ i H', Inv (X.blk s3 H3 scope ce fp) [] (wipe σ (own.map (·.2))) H' s' ∧ tn i s'.heap ∧ (∀ b ∈ fp, H' b = none) ∧ W i n H') ?_ m0 ⟨0, H3, I4, st4, nfp, w0⟩
    rintro n s5 ⟨i, H5, I5, st5, n5, w5⟩
    rcases turn i n H5 w5 with ⟨stop, qq⟩ | ⟨go, Nx, hNx, step⟩
    · refine thnF (T.done (X.blk s3 H3 scope ce fp) rfl rfl rfl hc i [] s5 _ H5 (fun _ _ => False) I5 (stat I5 n5) st5 stop) fun r s6 ⟨hr, I6⟩ => ?_
      subst hr
      have nC : H5 s3.heap.objs.size = none := by rw [← cL]; exact I6.free
      obtain ⟨m, hn, _⟩ := I6.loc
      rw [show (X.blk s3 H3 scope ce fp).env.locals = s3.heap.objs.size from cL] at hn
      have I7 : Inv X pins σ H5 s6 := I3.call' (ch := fp) I6.os I6.base I6.hok I6.bare fun b hb => ⟨(f3 b hb).1.2.2.2.1, (f3 b hb).1.2.1, (f3 b hb).1.2.2.2.2.1, (f3 b hb).1.2.2.2.2.2⟩
      exact hRR D s3.heap.objs.size s6 m H5 I7 qq hn (I3.fpOk (Nat.le_refl _) nC)
    · refine thnF (T.item (X.blk s3 H3 scope ce fp) rfl rfl rfl hc i [] s5 _ H5 (fun _ _ => False) I5 (stat I5 n5) st5 go) fun r s6 ⟨u, hr, h6⟩ => ?_
      subst hr
      refine thnF h6 fun _ s7 ⟨x, H7, I7, r7, y7, st7, n7⟩ => ?_
      refine thnF (pg.run _ s7 _ H7 x u _ (I7.pinned (stat I7 n7) (T.obj _ _ st7)) r7 (step x H7 y7)) fun _ s8 ⟨σ8, H8, I8, hw8, q8⟩ => ?_
      refine thnF (pt.run _ s8 σ8 H8 _ I8 q8) fun b s9 ⟨H9, I9, q9⟩ => ?_
      have fin : ∀ {s' : Shared} {H' : Hp}, Inv (X.blk s3 H3 scope ce fp) ([] ++ pinsAt fp s7.heap) σ8 H' s' → Nx H' → ∃ m, m < n ∧ ∃ i H', Inv (X.blk s3 H3 scope ce fp) [] (wipe σ (own.map (·.2))) H' s' ∧ tn i s'.heap ∧ (∀ b ∈ fp, H' b = none) ∧ W i m H' := fun {s' H'} I' nx => by
        obtain ⟨m', hm, w'⟩ := hNx H' nx
        have pin' : ∀ b ∈ fp, ∀ o, s7.heap.get? b = some o → s'.heap.get? b = some o ∧ H' b = none := fun b hb o e =>
          have z := I'.pin (b, o) (List.mem_append_right _ (List.mem_append_right _ (mem_pinsAt hb e)))
          ⟨z.1, z.2.1⟩
        refine ⟨m', hm, i + 1, H', (I'.unpinned (pins := [])).weak (by rw [← hw8, wipe_length]) (fun j v e => ?_), T.keep _ _ _ st7 fun b hb o e => (pin' b hb o e).1, fun b hb => ?_, w'⟩
        · rw [← hw8] at e
          exact (wipe_some e).1
        · obtain ⟨o, e, _⟩ := T.obj _ _ st7 b hb
          exact (pin' b hb o e).2
      cases b with
      | false => exact fin I9 (by simpa using q9)
      | true =>
        have q9 := (by simpa using q9 : tk σ8 H9 fun y H4 => tv σ8 H4 fun z H5 => ∃ H6, DPut H5 D y z H6 ∧ Nx H6)
        refine thnF (pk.run _ s9 σ8 H9 _ I9 q9) fun z s10 ⟨yk, H10, I10, r10, q10⟩ => ?_
        refine thnF (pe.run _ s10 σ8 H10 _ I10 q10) fun z2 s11 ⟨yv, H11, I11, r11, H12, hp, nx⟩ => ?_
        exact put_dict (X := X.blk s3 H3 scope ce fp) hu I11 hp r10 r11 fun s12 I12 => fin I12 nx
  exact codeAny_compStart_dict loop (T.self X.A 0 _ _ _ st4 loop)
theorem pe_dcT {X : Cx} {kx vx tg iter : Expr} {ifs : List Expr} {scope : Scope} {own : List (Str × Nat)} {pos : Pos} {wi : TI} {g : TG} {tt : TT} {tk tv : TE} (hc : X.calm = true) (hN : X.N.Nodup) (hu : X.A.units < cLine) (hi : PI X tg iter wi) (ok : BlkOk X.N X.env.scope scope own)
    (hg : ∀ (s : Shared) (H : Hp) (C : Addr) (cl : List (Str × Addr)) (fp : List Addr), PG (X.blk s H scope (compEnvC scope cl C X.env) fp) tg g) (ht : ∀ (s : Shared) (H : Hp) (C : Addr) (cl : List (Str × Addr)) (fp : List Addr), PTs (X.blk s H scope (compEnvC scope cl C X.env) fp) ifs tt)
    (hk : ∀ (s : Shared) (H : Hp) (C : Addr) (cl : List (Str × Addr)) (fp : List Addr), PE (X.blk s H scope (compEnvC scope cl C X.env) fp) kx tk)
    (he : ∀ (s : Shared) (H : Hp) (C : Addr) (cl : List (Str × Addr)) (fp : List Addr), PE (X.blk s H scope (compEnvC scope cl C X.env) fp) vx tv) (hs : ∀ x, foldedSetIterable iter X.env x = pure x := by intro _; rfl) :
    PE X (.DictComp kx vx [⟨tg, iter, ifs, 0⟩] scope pos) (tDcT wi g tt tk tv (own.map (·.2))) := by
  refine ⟨fun pins s σ H Q I h => ?_⟩
  rw [arm_eval_DictComp]
  refine dcT_core I hc hN hu hi ok hg ht hk he hs h fun D C s' m H' I' q hn f => ⟨m, hn, fun h'' sb => ?_⟩
  obtain ⟨f0, f1, f2, f3, f4, f5⟩ := f
  exact ⟨.ref D, H', I'.turned (t' := s'.toks) (fun b o hb e => (sb.2 b hb).trans e) f0 f1 f3 f4 f5, rfl, q⟩
/-- stored at once under a name of the same line -/
theorem ps_setDcT {X : Cx} {i : Nat} {y : Str} {py : Pos} {kx vx tg iter : Expr} {ifs : List Expr} {scope : Scope} {own : List (Str × Nat)} {pos spos : Pos} {wi : TI} {g : TG} {tt : TT} {tk tv : TE} (hy : X.N[i]? = some y) (hyl : X.env.scope.names.lookup y = some .local)
    (hsw : swapsWith (.DictComp kx vx [⟨tg, iter, ifs, 0⟩] scope pos) (some (.Name y py)) spos.line X.env = pure true) (hc : X.calm = true) (hN : X.N.Nodup) (hu : X.A.units < cLine) (hi : PI X tg iter wi) (ok : BlkOk X.N X.env.scope scope own)
    (hg : ∀ (s : Shared) (H : Hp) (C : Addr) (cl : List (Str × Addr)) (fp : List Addr), PG (X.blk s H scope (compEnvC scope cl C X.env) fp) tg g) (ht : ∀ (s : Shared) (H : Hp) (C : Addr) (cl : List (Str × Addr)) (fp : List Addr), PTs (X.blk s H scope (compEnvC scope cl C X.env) fp) ifs tt)
    (hk : ∀ (s : Shared) (H : Hp) (C : Addr) (cl : List (Str × Addr)) (fp : List Addr), PE (X.blk s H scope (compEnvC scope cl C X.env) fp) kx tk)
    (he : ∀ (s : Shared) (H : Hp) (C : Addr) (cl : List (Str × Addr)) (fp : List Addr), PE (X.blk s H scope (compEnvC scope cl C X.env) fp) vx tv) (hs : ∀ x, foldedSetIterable iter X.env x = pure x := by intro _; rfl) :
    PS X (.Assign [.Name y py] (.DictComp kx vx [⟨tg, iter, ifs, 0⟩] scope pos) spos) (tAsg (tDcT wi g tt tk tv (own.map (·.2))) (gName i)) := by
  refine ⟨fun pins s σ H D I h => ?_⟩
  rw [exec_Assign_Name_used _ _ _ _ hsw]
  refine wpAny_bind (wpAny_standAt (wpAny_bind ?_))
  show wpAny _ X.A (do let _ ← comprehension (.DictComp kx vx [⟨tg, iter, ifs, 0⟩] scope pos) scope X.env (firstIterPos [⟨tg, iter, ifs, 0⟩] pos) newDict false (eval iter X.env) (some (assign (.Name y py) X.env))) _ _ s
  have h : tDcT wi g tt tk tv (own.map (·.2)) σ H (fun x H1 => gName i x σ H1 D.nx) := h
  refine wpAny_bind (thn (dcT_core (Qf := fun _ s' => SP X pins D .next s') I hc hN hu hi ok hg ht hk he hs h fun L C s' m H' I' q hn f => ?_) fun _ s' hq => wpAny_pure (wpAny_pure hq))
  show wpAny _ _ (assign (.Name y py) X.env (.ref L)) _ _ _
  refine wpAny_assign_Name (store_ok2 (v := V.ref L) I' hN hy (.inl hyl) rfl (fun s2 I2 ⟨a, sb, ha⟩ => ?_) (.inr hyl))
  obtain ⟨f0, f1, f2, f3, f4, f5⟩ := f
  have haC : C ≠ a := ha.elim (fun z => by rw [z]; exact f1) fun z e => f4 y a z e.symm
  exact ⟨m, hn.sameBut sb haC, fun h3 sb3 => ⟨_, H', I2.turned (t' := s2.toks) (fun b o hb e => (sb3.2 b hb).trans e) f0 f1 f3 f4 f5, q⟩⟩
theorem sw_trueD {kx vx : Expr} {gs : List Comprehension} {scope : Scope} {pos py : Pos} {y : Str} {l : Nat} {env : Env} (hk : env.scope.kind = .function) (hy : env.scope.names.lookup y = some .local) (hl : (py.line == pos.line) = true)
    (ha : (scope.names.any fun (n, k) => n == y && (k == .local || k == .cell)) = false) : swapsWith (.DictComp kx vx gs scope pos) (some (.Name y py)) l env = pure true := by
  have hb : env.blockKind = .function := by unfold Env.blockKind; rw [hk]; rfl
  unfold swapsWith
  simp only [hb, show env.kindOf y = some .local from hy, ha, Expr.pos, hl]
  rfl
theorem dcT_it {J : It} {n : Nat} {G : Hp → Prop} {Y : Nat → Hp → V → Hp → Prop} (w : Walk J n G Y) {g : TG} {tt : TT} {tk tv : TE} {vs : List Nat} {σ : L2.St} {H1 : Hp} {D : Addr} {Qd : Hp → Prop} (Pv : Nat → Hp → Prop) (h0 : Pv 0 (upd H1 D (.dT []))) (hG : ∀ i H, i ≤ n → Pv i H → G H)
    (hs : ∀ i x H H', i < n → Pv i H → Y i H x H' → g x (wipe σ vs) H' fun σ2 H2 => wipe σ2 vs = wipe σ vs ∧ tt σ2 H2 fun b H3 =>
      if b = true then tk σ2 H3 fun y H4 => tv σ2 H4 fun z H5 => ∃ H6, DPut H5 D y z H6 ∧ Pv (i + 1) H6 else Pv (i + 1) H3) (hd : ∀ H, Pv n H → Qd H) :
    ∃ W : Nat → Nat → Hp → Prop, (∃ m, W 0 m (upd H1 D (.dT []))) ∧ ∀ i m H, W i m H →
      (J.stop i H ∧ Qd H) ∨ (J.go i H ∧ ∃ Nx : Hp → Prop, (∀ H', Nx H' → ∃ m', m' < m ∧ W (i + 1) m' H') ∧ ∀ x H', J.yld i H x H' → g x (wipe σ vs) H' fun σ2 H2 => wipe σ2 vs = wipe σ vs ∧ tt σ2 H2 fun b H3 =>
        if b = true then tk σ2 H3 fun y H4 => tv σ2 H4 fun z H5 => ∃ H6, DPut H5 D y z H6 ∧ Nx H6 else Nx H3) := by
  refine ⟨fun i m H => m = n - i ∧ i ≤ n ∧ Pv i H, ⟨n, (Nat.sub_zero n).symm, Nat.zero_le n, h0⟩, ?_⟩
  rintro i m H ⟨em, hi, p⟩
  have q := hG i H hi p
  rcases Nat.lt_or_ge i n with hlt | hge
  · refine .inr ⟨w.goes i H hlt q, Pv (i + 1), fun H' p' => ⟨n - (i + 1), by omega, rfl, hlt, p'⟩, fun x H' y => ?_⟩
    exact hs i x H H' hlt p (w.yields i H x H' hlt q y)
  · have e : i = n := by omega
    subst e
    exact .inl ⟨w.stops H q, hd H p⟩
/-! a dict that nobody else has, walked: it stays locked -/
def iKeysC (td : TE) : TI := fun σ H R => td σ H fun x H1 => ∃ d kvs, x = .ref d ∧ H1 d = some (.dT kvs) ∧ ∀ od, R (Itkt d od kvs) (upd H1 d (.frz od (.dT kvs)))
theorem pi_keysC {X : Cx} {tg e : Expr} {td : TE} (he : PE X e td) : PI X tg e (iKeysC td) := by
  refine ⟨fun pins s σ H R I h => ?_⟩
  refine thn (he.run pins s σ H _ I h) fun u s1 ⟨x, H1, I0, rx, d, kvs, ex, h0, q⟩ => ?_
  subst ex
  obtain rfl : u = Value.ref d := rx
  obtain ⟨od, I1⟩ := I0.lock h0 True.intro
  obtain ⟨hs, hgd, hx, es, ep, hdt, hsz, ent⟩ := I1.frzT upd_same
  refine iter_keys hs hgd hx hdt (pi_one (tk := s1.toks) I1 _ (turn_keysT _ hdt) ⟨_, Heap.get?_push_size _ rfl, rfl, ?_⟩ (q od))
  rw [hsz] <;> rfl
/-! x in [tuples], in a comprehension's block too -/
theorem un65 {k : Nat} {A : Around} (r : Room k A) : A.units + 65 < cLine := by have := un70 r; omega
theorem op_inDK {X : Cx} {K : PySem.W.Frag} (h : X.K = K) (hu : X.A.units + 65 < cLine) : OpR X (compareOp .In) (rInD K) := h ▸ op_inD hu
theorem op_notInDK {X : Cx} {K : PySem.W.Frag} (h : X.K = K) (hu : X.A.units + 65 < cLine) : OpR X (compareOp .NotIn) (rNotInD K) := h ▸ op_notInD hu
end Nw

/-! an own exception class called with keywords: what is passed by name goes to its own __init__ -/
namespace PySem
namespace HandSPX
open Builtin Builtin.ObjectAttr
section
variable {M : Model} {A : Around} {E : Value → Shared → Prop} {h : Heap} {g : Array GenState} {d : Drawn} {t : Nat} {os : OsState}
variable {nm q : Str} {C N : Addr} {bs bm bmB : List Value} {hdct : Bool} {sn : List Str} {sub : List Value} {ab : Bool} {col : Option Bool} {dd : Option Addr} {k0 k1 k2 k3 k5 : Option Value} {B newId initId : String} {kw : List (Str × Value)}
theorem nw_check_new (F : ExcBaseFacts B newId initId bmB) (hT : ∀ X : String, bm.contains (.type X) = bmB.contains (.type X)) {rest : List Value} {Q : Unit → Shared → Prop}
    (hC : h.get? C = some (excClassObj nm q C N bs bm hdct sn sub ab col dd k0 k1 k2 k3 k5 newId)) (hq : Q () ⟨h, g, d, t, os⟩) : wpAny M A (checkBuiltinCall newId ⟨.ref C :: rest, kw⟩) Q E ⟨h, g, d, t, os⟩ := by
  have hcont : (Value.ref C :: bm).contains (.type B) = true := by rw [List.contains_cons, hT, F.hasB, Bool.or_true]
  have hstar := F.noStar
  simp only [checkBuiltinCall, F.newKind, F.newSplit, F.newRow]
  repeat (first | refine wpAny_loadPart_at hC ?_ | (refine wpAny_isSubtype_exc hC ?_; rw [hcont]) | refine wpAny_staticBase_exc hC ?_ | refine wpAny_madeBy_exc hC ?_ | simp only [bne_self_eq_false, Bool.false_eq_true, if_false] | wp_step)
  exact hq
theorem nw_check_type {rest : List Value} {Q : Unit → Shared → Prop} (hC : h.get? C = some (excClassObj nm q C N bs bm hdct sn sub ab col dd k0 k1 k2 k3 k5 newId))
    (hq : Q () ⟨h, g, d, t, os⟩) : wpAny M A (checkBuiltinCall "type.__call__" ⟨.ref C :: rest, kw⟩) Q E ⟨h, g, d, t, os⟩ := by
  have f3 := tc_sub
  have hT : (⟨h, g, d, t, os⟩ : Shared).TypeIs (.ref C) "type" := ⟨_, hC, rfl⟩
  simp only [checkBuiltinCall, tc_kind, tc_split]
  repeat (any_goals (first | assumption | with_reducible refine wpAny_loadPart_at hC ?_ | with_reducible refine wpAny_onRaise ?_ | with_reducible refine wpAny_map ?_ | wp_step))
end
section
variable {prog : Program} {w : World} {A : Around} {E : Value → Shared → Prop} {R : Result → Shared → Prop} {h : Heap} {g : Array GenState} {d : Drawn} {t : Nat} {os : OsState}
variable {nm q : Str} {C N : Addr} {bs bm bmB : List Value} {hdct : Bool} {sn : List Str} {sub : List Value} {ab : Bool} {col : Option Bool} {dd : Option Addr} {k0 k1 k2 k3 k5 : Option Value} {B newId initId : String} {kw : List (Str × Value)}
theorem nw_new (F : ExcBaseFacts B newId initId bmB) (hT : ∀ X : String, bm.contains (.type X) = bmB.contains (.type X)) {rest : List Value}
    (hC : h.get? C = some (excClassObj nm q C N bs bm hdct sn sub ab col dd k0 k1 k2 k3 k5 newId))
    (hq : R (.ok (.ret (.ref (h.objs.size + 1)))) ⟨(h.push { cls := .type "tuple", data := .seq rest.toArray }).push
      { cls := .ref C, data := .fields #[.ref h.objs.size, .none, .none, .none, .bool false, .none] }, g, d, t, os⟩) (hrest : rest.length ≤ sizeLine) :
    codeAny (model prog w) A (.builtin newId ⟨.ref C :: rest, kw⟩) R ⟨h, g, d, t, os⟩ := by
  have hends := F.ends
  have hcB : (Value.ref C :: bm).contains (.type B) = true := by rw [List.contains_cons, hT, F.hasB, Bool.or_true]
  have hcA : (Value.ref C :: bm).contains (.type "AttributeError") = false := by rw [List.contains_cons, hT, F.noAttr]; rfl
  have hcN : (Value.ref C :: bm).contains (.type "NameError") = false := by rw [List.contains_cons, hT, F.noName]; rfl
  refine codeAny_builtinAt F.entry ?_
  unfold Builtin.«BaseException.__new__»
  refine wpAt_bind ?_
  show wpAt _ _ _ (stack >>= _) _ _ _
  refine wpAt_bind (wpAt_stack fun p below => wpAt_of_wpAny ?_)
  wp_walk
  refine wpAt_of_wpAny ?_
  rw [F.owner]
  repeat (first | with_reducible refine wpAny_madeHere_exc F.canon hC ?_ | with_reducible refine wpAny_loadPart_at hC ?_ | (with_reducible refine wpAny_isSubtype_exc hC ?_; first | rw [hcB] | rw [hcA] | rw [hcN]) | wp_step)
  show R _ _
  rw [Heap.size_push]
  exact hq
theorem nw_type_call (F : ExcBaseFacts B newId initId bmB) (hT : ∀ X : String, bm.contains (.type X) = bmB.contains (.type X)) {rest : List Value} {fI : Addr} {Q : Fin → Shared → Prop}
    (hC : h.get? C = some (excClassObj nm q C N bs bm hdct sn sub ab col dd k0 k1 k2 k3 k5 newId))
    (hi : W.Looks (model prog w) h (typeLookup (.ref C) "__init__") (some (.ref fI))) (hb : ∀ self, W.Looks (model prog w) h (bindSpecial (.ref fI) self) (.ref fI, [self])) (hrest : rest.length ≤ sizeLine)
    (hq : codeAny (model prog w) A (.call (.ref fI) ⟨.ref (h.objs.size + 1) :: rest, kw⟩)
      (fun r s' => match r with | .ok (.ret v) => v = .none ∧ Q (.done (.ret (.ref (h.objs.size + 1)))) s' | .ok _ => False | .error e => E e s')
      ⟨(h.push (W.kdv_tup rest)).push (excO C h.objs.size), g, d, t, os⟩) :
    wpAny (model prog w) A (Builtin.«type.__call__» ⟨.ref C :: rest, kw⟩) Q E ⟨h, g, d, t, os⟩ := by
  repeat (first | with_reducible refine wpAny_loadPart_at hC ?_ | with_reducible refine wpAny_madeBy_exc hC ?_ | wp_step)
  refine codeAny_call_builtin_code (Code.quiet_builtin _ F.quiet) (nw_check_new F hT hC ?_)
  refine nw_new F hT hC ?_ hrest
  show wpAny _ _ _ _ _ _
  have k : ∀ b o, h.get? b = some o → ((h.push (W.kdv_tup rest)).push (excO C h.objs.size)).get? b = some o := fun b o e => Heap.get?_push_of_some _ (Heap.get?_push_of_some _ e)
  have hC₁ := k _ _ hC
  have hget : ((h.push (W.kdv_tup rest)).push (excO C h.objs.size)).get? (h.objs.size + 1) = some (excO C h.objs.size) := by heap_get
  have hcC : (Value.ref C :: bm).contains (.ref C) = true := by simp
  have i1 := hi.keeps k
  have b1 := (hb (.ref (h.objs.size + 1))).keeps k
  unfold isInstance
  repeat (first | with_reducible refine wpAny_loadPart_at hget ?_ | (with_reducible refine wpAny_isSubtype_exc hC₁ ?_; rw [hcC]) | wp_step)
  show wpAny _ _ (typeLookup (.ref C) _) _ _ _
  refine i1.at ?_
  refine wpAny_holding (wpAny_bind (b1.at ?_))
  refine wpAny_bind (wpAny_call (codeAny_mono hq fun r s' z => ?_))
  rcases r with e | (v | _ | _ | _) <;> first | exact z | exact z.elim | skip
  obtain ⟨rfl, z⟩ := z
  first
    | exact wpAny_pure (wpAny_pure z)
    | (wp_walk; exact z)
theorem nw_call (F : ExcBaseFacts B newId initId bmB) (hT : ∀ X : String, bm.contains (.type X) = bmB.contains (.type X)) {rest : List Value} {fI : Addr}
    (hC : h.get? C = some (excClassObj nm q C N bs bm hdct sn sub ab col dd k0 k1 k2 k3 k5 newId))
    (hi : W.Looks (model prog w) h (typeLookup (.ref C) "__init__") (some (.ref fI))) (hb : ∀ self, W.Looks (model prog w) h (bindSpecial (.ref fI) self) (.ref fI, [self])) (hrest : rest.length ≤ sizeLine)
    (hq : codeAny (model prog w) (A.under (.builtin "type.__call__" ⟨.ref C :: rest, kw⟩)) (.call (.ref fI) ⟨.ref (h.objs.size + 1) :: rest, kw⟩) (W.InitBack (h.objs.size + 1) R)
      ⟨(h.push (W.kdv_tup rest)).push (excO C h.objs.size), g, d, t, os⟩) :
    codeAny (model prog w) A (.call (.ref C) ⟨rest, kw⟩) R ⟨h, g, d, t, os⟩ := by
  have f1 := tc_lookup
  have f2 := tc_bind (.ref C)
  have hTy : (⟨h, g, d, t, os⟩ : Shared).TypeIs (.ref C) "type" := ⟨_, hC, rfl⟩
  refine codeAny_of_tree ?_
  show wpAny _ _ (callAny (.ref C) _) _ _ _
  repeat (any_goals (first | assumption | with_reducible refine wpAny_loadPart_at hC ?_ | wp_step))
  refine ⟨rfl, ?_⟩
  refine codeAny_call_builtin_at (Code.quiet_builtin _ (by decide +kernel)) entry_typeCall (nw_check_type hC (nw_type_call F hT hC hi hb hrest ?_))
  refine codeAny_mono hq fun r s' z => ?_
  rcases r with e | (v | _ | _ | _) <;> exact z
end
end HandSPX
end PySem
namespace Nw
open PySem PySem.Spec PyProof.Rows L2
/-! ### what makes an exception, as a value -/
section
variable {X : Cx} {e : Expr} {tx : L2.St → Hp → XK → Prop}
/-- the new one stands as a value -/
def tExV (tx : L2.St → Hp → XK → Prop) : TE := fun σ H Q => tx σ H fun cls d H1 => ∀ a, H1 a = none → Q (.ref a) (upd H1 a (ExV cls d a))
theorem pe_exv (h : PMk X e tx) : PE X e (tExV tx) := by
  refine ⟨fun pins s σ H Q I q => wpAny_mono (h pins s σ H _ I q) (fun u s1 hu => ?_) fun _ _ z => z⟩
  obtain ⟨a, oe, vs, sI, H1, cls, d, rfl, J, k, hne, ha, hz, hd, h1, na, os, ag, r, q1⟩ := hu
  have L := J.laidN (t' := s1.toks) (o := ExV cls d a) k hne na ⟨⟨oe, vs, ha, hz, hd⟩, ⟨oe, ha⟩, fun _ _ ⟨o, v, q, r⟩ k => ⟨o, v, k o q, r⟩⟩
  exact ⟨.ref a, upd H1 a (ExV cls d a), ⟨L.ok, os.trans L.os, ag, L.base, L.loc, L.cell, L.free, L.freeC, L.pin, L.hok, L.len⟩, rfl, q1 a na⟩
end
/-! ### C(k = v, ..), C an own exception class with its own __init__, nothing by position -/
def tMkK (m : Nat) (C : Addr) (sp : Sp) (gV : List V → List V → List V) (tk : TA) : L2.St → Hp → XK → Prop := fun σ H Q => tk σ H fun zs H1 => zs.length = m ∧ ∀ a, H1 a = none → sp (gV [.ref a] zs) (upd H1 a (exo a C none))
  (fun v H2 => v = .non ∧ ∃ (d : Addr) (fs : List (Str × V)), H2 a = some (exo a C (some d)) ∧ H2 d = some (exd d fs) ∧ H1 d = none ∧ Q (.ref C) (some d) (upd (del H2 a) d (.xd fs))) (fun _ _ _ => False)
section
variable {X : Cx} {CX : CXT} {k : Nat} {C fI : Addr} {fd : FuncData} {ps ks : List Str} {g : List Value → List Value → List Value} {gV : List V → List V → List V} {sp : Sp} {x : Str} {np pos : Pos} {kws : List Keyword} {tk : TA}
theorem pmk_oexK (T : OexC X.K C) (iC : PySem.W.findIn X.K (.ref C) "__init__" = some (some (.ref fI))) (tI : PySem.W.typeIn X.K (.ref fI) = some (.type "function"))
    (F1 : FnOk X.prog X.w X.K X.mg X.base CX k fI fd ps sp) (hr : Room (k + 1) X.A) (hb : KBn X.K fd ps 1 ks g gV) (hx : Passes CX X (fun _ _ _ => False)) (hg : Gl X x) (hm : X.mg x = some (.ref C)) (hkw : PK X kws tk)
    (hdb : (x == ("__debug__" : Str)) = false := by decide) (hall : (backToKw pos (keywordEach kws X.env)).all (·.1.isSome) = true := by rfl) (hks : (backToKw pos (keywordEach kws X.env)).filterMap (·.1) = ks := by rfl)
    (hpl : ((backTo pos (starEach [] X.env)).any (·.1) || (backToKw pos (keywordEach kws X.env)).any (·.1.isNone)) = false := by rfl) :
    PMk X (.Call (.Name x np) [] kws pos) (tMkK ks.length C sp gV tk) := by
  intro pins s σ H Q I h
  obtain ⟨nm, q, N, bs, bm, sn, sub, ab, col, dd, k0, k1, k2, k3, k5, hC, hbm⟩ := T.cls
  refine wpAny_Call_Name_kw (ld_glob I hg hm ?_ hdb)
  refine PySem.W.callWith_KW0 (h₀ := X.base) I.ok.mod.kin T.kC hall (thn (hkw.run pos pins s σ H _ I h) fun ws s1 ⟨zs, H1, I1, rz, hm', q1⟩ => ⟨I1.kIn, ?_⟩) hpl
  rw [hks]
  obtain ⟨hp, g', dr, tk', os⟩ := s1
  have hsz : hp.objs.size ≤ hp.objs.size + 1 := Nat.le_succ _
  have hn : H1 (hp.objs.size + 1) = none := I1.hok.fresh hsz
  have hq := q1 (hp.objs.size + 1) hn
  have kk : ∀ b o, hp.get? b = some o → ((hp.push (PySem.W.kdv_tup [])).push (PySem.HandSPX.excO C hp.objs.size)).get? b = some o := fun b o e => Heap.get?_push_of_some _ (Heap.get?_push_of_some _ e)
  have hget : ((hp.push (PySem.W.kdv_tup [])).push (PySem.HandSPX.excO C hp.objs.size)).get? (hp.objs.size + 1) = some (PySem.HandSPX.excO C hp.objs.size) := by heap_get
  have I2 : Inv X pins σ (upd H1 (hp.objs.size + 1) (exo (hp.objs.size + 1) C none)) ⟨(hp.push (PySem.W.kdv_tup [])).push (PySem.HandSPX.excO C hp.objs.size), g', dr, tk', os⟩ :=
    I1.laid (t' := tk') (a := hp.objs.size + 1) (o := exo (hp.objs.size + 1) C none) (h' := (hp.push (PySem.W.kdv_tup [])).push (PySem.HandSPX.excO C hp.objs.size)) kk hsz (exo_ok hget)
  have r2 : Vals (gV [.ref (hp.objs.size + 1)] zs) (g [.ref (hp.objs.size + 1)] ws) := hb.rel (.cons rfl .nil) rz
  refine wpAny_call (PySem.HandSPX.nw_call F.excBase_ValueError (fun Y => PySem.HandSPX.refsVE_contains Y bm hbm) (I1.kIn _ _ hC) (PySem.W.looks_findIn I1.kIn iC) (fun self => PySem.W.bind_fn I1.kIn self tI) (Nat.zero_le _)
    (codeAny_mono (F1.run _ X.stack _ _ ⟨[Value.ref (hp.objs.size + 1)], ks.zip ws⟩ (g [.ref (hp.objs.size + 1)] ws) _ _ (fun _ _ _ => False) (hr.make C [] (ks.zip ws)) (I2.env0.make C [] (ks.zip ws)) (hb.to _ [Value.ref (hp.objs.size + 1)] ws I2.kIn rfl (rz.length.symm.trans hm')) r2 hq) fun r s' hq' => ?_))
  cases r with
  | error er => exact hx pins σ _ _ er s' I2 hq'
  | ok fl =>
    cases fl with
    | ret u =>
      obtain ⟨v, H2, os2, bare2, un2, hok2, rv, ev, d, fs, ea, ed, hd1, q2⟩ := hq'
      subst ev
      obtain ⟨h2, g2, d2, t2, os'⟩ := s'
      exact ⟨rv, mk_end (raises_own T.exC T.tyC) I1 hsz kk un2 hok2 os2 bare2 ea ed hd1 q2⟩
    | next => exact False.elim hq'
    | brk => exact False.elim hq'
    | cont => exact False.elim hq'
theorem vals_rev : ∀ {xs : List V} {ys : List Value}, Vals xs ys → Vals xs.reverse ys.reverse
  | _, _, .nil => .nil
  | _, _, .cons h t => by
    rw [List.reverse_cons, List.reverse_cons]
    exact (vals_rev t).append (.cons h .nil)
/-- the keywords' values behind the others, the last keyword first -/
def gRev {α : Type} (us ws : List α) : List α := us ++ ws.reverse
theorem kb_at {K : PySem.W.Frag} {x qual : Str} {st : Stmt} {f : Addr} {fd : FuncData} {ps ks : List Str} (F : FnAt K x qual st f) (lk : ∃ oc od osl, K.lookup f = some ⟨oc, od, .func fd, osl⟩) (n : Nat)
    (h : ∀ (kV doc pm : Value) (an : Option Addr) (cdv ct : Value) (us ws : List Value), us.length = n → ws.length = ks.length → bindArgs (PySem.W.fnOf x qual (defArgs st) (defBody st) (defScope st) .none kV doc pm an cdv ct) ⟨us, ks.zip ws⟩ = pure (ps.zip (gRev us ws))) : KBn K fd ps n ks gRev gRev := by
  obtain ⟨fd', F⟩ := F
  obtain ⟨oc, od, dV, kV, doc, pm, an, cdv, ct, osl, rfl, lk', hcd, hD, hK⟩ := F.ex
  obtain ⟨oc', od', osl', lk⟩ := lk
  rw [lk'] at lk
  cases lk
  rcases hD with ⟨_, rfl⟩ | ⟨e, _⟩
  · exact ⟨fun s us ws _ l1 l2 => BindsTo.of_eq (h kV doc pm an cdv ct us ws l1 l2), fun r1 r2 => r1.append (vals_rev r2)⟩
  · exact absurd rfl e
theorem pmk_oexKC {f : Addr} {qual m : Str} {st : Stmt} (T : OexC X.K C) (M : Meth X.K C "__init__" f) (F : FnAt X.K m qual st f) (G : Ok X.prog X.w X.K X.mg X.base CX0 k f ps sp) (hr : Room (k + 1) X.A) (hm : X.mg x = some (.ref C)) (hkw : PK X kws tk)
    (h : ∀ (kV doc pm : Value) (an : Option Addr) (cdv ct : Value) (us ws : List Value), us.length = 1 → ws.length = ks.length → bindArgs (PySem.W.fnOf m qual (defArgs st) (defBody st) (defScope st) .none kV doc pm an cdv ct) ⟨us, ks.zip ws⟩ = pure (ps.zip (gRev us ws)))
    (hg : Gl X x := by rfl) (hdb : (x == ("__debug__" : Str)) = false := by decide) (hall : (backToKw pos (keywordEach kws X.env)).all (·.1.isSome) = true := by rfl) (hks : (backToKw pos (keywordEach kws X.env)).filterMap (·.1) = ks := by rfl)
    (hpl : ((backTo pos (starEach [] X.env)).any (·.1) || (backToKw pos (keywordEach kws X.env)).any (·.1.isNone)) = false := by rfl) : PMk X (.Call (.Name x np) [] kws pos) (tMkK ks.length C sp gRev tk) := by
  obtain ⟨fd, F1, b, kp, lk⟩ := G.ok
  exact pmk_oexK T M.at_ (beq_iff_eq.mp M.fn) F1 hr (kb_at F lk 1 h) pass0 hg hm hkw hdb hall hks hpl
end
end Nw

namespace Nw
open PySem PySem.Spec PyProof.Rows L2
/-! ### repr and != of data or of {} -/
section
variable {X : Cx} {pins : List (Addr × Obj)} {σ : L2.St} {H : Hp} {s : Shared}
theorem reads_empty {b : Addr} (I : Inv X pins σ H s) (hb : H b = some (.dK [])) : ∃ as, Reads s.heap (.ref b) (.dict []) as ∧ sysModules ∉ as := by
  obtain ⟨_, hsm, vs, kv, dd⟩ := dk_of I.hok hb
  obtain ⟨ob, es, ep, hob, hex, hdb, _, pr, _⟩ := dd
  cases kv
  cases hes : es.toList with
  | cons e l => rw [hes] at pr; cases pr
  | nil =>
    have rd : Reads s.heap (.ref b) (.dict []) (b :: [] ++ []) := Reads.dict hob hex.1 hdb (by rw [hes]; exact .nil) (by rw [hes]; exact .nil)
    exact ⟨_, rd, by simpa using fun z => beq_eq_false_iff_ne.mp hsm z.symm⟩
end
/-- data, or {} -/
def rReprY (K : PySem.W.Frag) : List V → Hp → VK → Prop := fun xs H Q => (∃ v d, xs = [v] ∧ Dp K H v d ∧ d.showable = true ∧ d.hasDict = false ∧ d.depth ≤ 64 ∧ d.shown.length ≤ sizeLine ∧ Q (.str d.shown) H) ∨
  ∃ b : Addr, xs = [.ref b] ∧ H b = some (.dK []) ∧ Q (.str (PyData.dict []).shown) H
theorem call_reprY {X : Cx} {K : PySem.W.Frag} (h : X.K = K) (hgd : X.A.guards = some []) (hu : X.A.units + 70 < cLine) : CallR X (.builtin "repr") (rReprY K) := by
  subst h
  intro pins s σ H xs us Q I r h
  rcases h with h | ⟨b, rfl, hb, q⟩
  · exact call_reprD hgd hu pins s σ H xs us Q I r h
  · obtain ⟨u, rfl, ru⟩ := vals1 r
    cases ru
    obtain ⟨as, rb, hns⟩ := reads_empty I hb
    have hdep : (PyData.dict []).depth = 1 := by simp only [PyData.depth, PyData.depthAll, PyData.depthKv]
    exact repr_of_reads' rb (by simp only [PyData.showable, PyData.showableAll, PyData.showableKv]) (fun _ => hns) hgd (by rw [hdep]; omega) (fun _ _ z => z) (fun h' u tk hk => ⟨.str _, H, I.kept (t' := tk) hk, ⟨_, rfl⟩, q⟩) (by decide +kernel)
/-- != of data, or of {} and {} -/
def rNeY (K : PySem.W.Frag) : R2 := fun x y H Q => rNeD K x y H Q ∨ rNeDA x y H Q
theorem op_neY {X : Cx} {K : PySem.W.Frag} (h : X.K = K) (hu : X.A.units + 64 < cLine) : OpR X (compareOp .NotEq) (rNeY K) := by
  subst h
  intro pins s σ H x y v u Q I rx ry h
  rcases h with h | h
  · exact op_neD hu pins s σ H x y v u Q I rx ry h
  · exact op_ne_dictA (by omega) pins s σ H x y v u Q I rx ry h
/-- a list display, its address told apart from sys.modules' -/
def tLstS (ta : TA) : TE := fun σ H Q => ta σ H fun vs H1 => vs.length ≤ sizeLine ∧ ∀ l, H1 l = none → l ≠ sysModules → Q (.ref l) (upd H1 l (.lst vs))
theorem pe_lstS {X : Cx} {es : List Expr} {t : TA} {pos : Pos} (h : PA X es t) : PE X (.List es pos) (tLstS t) := by
  refine ⟨fun pins s σ H Q I hq => ?_⟩
  refine wpAny_List_spliced (thn (h.run pos pins s σ H _ I hq) fun us s1 ⟨xs, H1, I1, r, z, q⟩ => ⟨by rw [← r.length]; exact z, ?_⟩)
  have hf : H1 s1.heap.objs.size = none := I1.hok.fresh (Nat.le_refl _)
  refine ⟨.ref s1.heap.objs.size, upd H1 s1.heap.objs.size (.lst xs), I1.laid (t' := s1.toks) (fun b u e => Heap.get?_push_of_some _ e) (Nat.le_refl _) ?_, rfl, q _ hf (Nat.ne_of_gt I1.big)⟩
  exact ⟨z, us, 0, r, Heap.get?_push_size _ rfl⟩
/-- data, or {}, or [{}, {}] -/
def rReprL (K : PySem.W.Frag) : List V → Hp → VK → Prop := fun xs H Q => rReprY K xs H Q ∨
  ∃ a b : Addr, xs = [.ref a] ∧ a ≠ sysModules ∧ H a = some (.lst [.ref b, .ref b]) ∧ H b = some (.dK []) ∧ Q (.str (PyData.list [.dict [], .dict []]).shown) H
theorem call_reprL {X : Cx} {K : PySem.W.Frag} (h : X.K = K) (hgd : X.A.guards = some []) (hu : X.A.units + 70 < cLine) : CallR X (.builtin "repr") (rReprL K) := by
  intro pins s σ H xs us Q I r hq
  rcases hq with hq | ⟨a, b, rfl, hne, ha, hb, q⟩
  · exact call_reprY h hgd hu pins s σ H xs us Q I r hq
  · obtain ⟨u, rfl, ru⟩ := vals1 r
    cases ru
    obtain ⟨its, rv, ⟨o, n, ho, hc, _, hd⟩, _⟩ := I.list (SqL.of ha)
    obtain ⟨u1, u2, rfl, r1, r2⟩ := vals2 rv
    cases r1
    cases r2
    obtain ⟨as, rb, hns⟩ := reads_empty I hb
    have ra : Reads s.heap (.ref a) (.list [.dict [], .dict []]) (a :: (as ++ (as ++ []))) := Reads.list ho hc hd (.cons rb (.cons rb .nil))
    have hdep : (PyData.list [.dict [], .dict []]).depth = 2 := by simp only [PyData.depth, PyData.depthAll, PyData.depthKv]; rfl
    exact repr_of_reads' ra (by simp only [PyData.showable, PyData.showableAll, PyData.showableKv]; rfl) (fun _ => by
      simp only [List.mem_cons, List.mem_append, List.not_mem_nil, or_false, or_self, not_or]
      exact ⟨fun z => hne z.symm, hns⟩) hgd (by rw [hdep]; omega) (fun _ _ z => z) (fun h' u tk hk => ⟨.str _, H, I.kept (t' := tk) hk, ⟨_, rfl⟩, q⟩) (by decide +kernel)
/-! ### the error classes -/
def exN : List Str := ["NoRow", "NoMoment", "NoRides", "NoTable", "NoLink", "NoPlan", "NoMirror", "NoFacts", "NoSeen", "Clash", "NoNet", "NoProcess", "NoChannel", "NoMessage", "NoText", "TooMany"]
def exA (K : PySem.W.Frag) (i : Nat) : Addr := He.ga K (exN.getD i "")
def kitAll (K : PySem.W.Frag) : Bool := (List.range 16).all fun i => exfB K (exA K i) && (decide (PySem.W.kitOne K (.ref (exA K i)) (.ref (He.ga K "OrderError")) = some true) && (decide (PySem.W.kitOne K (.ref (exA K i)) (.type "ValueError") = some true) &&
  (List.range 16).all fun j => decide (PySem.W.kitOne K (.ref (exA K i)) (.ref (exA K j)) = some (decide (j = i)))))
structure KitA (K : PySem.W.Frag) : Prop where
  f : ∀ i, i < 16 → ExF K (exA K i)
  o : ∀ i, i < 16 → PySem.W.kitOne K (.ref (exA K i)) (.ref (He.ga K "OrderError")) = some true
  v : ∀ i, i < 16 → PySem.W.kitOne K (.ref (exA K i)) (.type "ValueError") = some true
  k : ∀ i j, i < 16 → j < 16 → PySem.W.kitOne K (.ref (exA K i)) (.ref (exA K j)) = some (decide (j = i))
theorem kitAll_ok {K : PySem.W.Frag} (h : kitAll K = true) : KitA K := by
  unfold kitAll at h
  rw [List.all_eq_true] at h
  have g : ∀ i, i < 16 → exfB K (exA K i) = true ∧ PySem.W.kitOne K (.ref (exA K i)) (.ref (He.ga K "OrderError")) = some true ∧ PySem.W.kitOne K (.ref (exA K i)) (.type "ValueError") = some true ∧ ∀ j, j < 16 → PySem.W.kitOne K (.ref (exA K i)) (.ref (exA K j)) = some (decide (j = i)) := fun i hi => by
    have z := h i (List.mem_range.mpr hi)
    rw [Bool.and_eq_true, Bool.and_eq_true, Bool.and_eq_true, decide_eq_true_iff, decide_eq_true_iff, List.all_eq_true] at z
    exact ⟨z.1, z.2.1, z.2.2.1, fun j hj => of_decide_eq_true (z.2.2.2 j (List.mem_range.mpr hj))⟩
  exact ⟨fun i hi => exfB_ok (g i hi).1, fun i hi => (g i hi).2.1, fun i hi => (g i hi).2.2.1, fun i j hi hj => (g i hi).2.2.2 j hj⟩
/-- an error of the i-th class -/
def isEx (K : PySem.W.Frag) (I : Hp) (v : V) (i : Nat) : Prop := ∃ a d, v = .ref a ∧ I a = some (ExV (.ref (exA K i)) d a) ∧ ∀ dx, d = some dx → ∃ fs, I dx = some (.xd fs)
theorem isEx.up {K : PySem.W.Frag} {I I' : Hp} {v : V} {i : Nat} (h : isEx K I v i) (e : Same I I') : isEx K I' v i := let ⟨a, d, h1, h2, h3⟩ := h; ⟨a, d, h1, e _ _ h2, fun dx z => let ⟨fs, q⟩ := h3 dx z; ⟨fs, e _ _ q⟩⟩
theorem isv_of {K : PySem.W.Frag} {H : Hp} {v c : V} {u : Value} {i : Nat} {b : Bool} {Q : VK} (h : isEx K H v i) (hk : KitA K) (hi : i < 16) (hc : ClsV c u) (kit : PySem.W.kitOne K (.ref (exA K i)) u = some b) (q : Q (.bl b) H) : rIsV K [v, c] H Q := by
  obtain ⟨a, d, rfl, h1, h2⟩ := h
  exact ⟨a, _, d, c, u, b, rfl, h1, h2, hk.f i hi, hc, kit, q⟩
/-! ### making them -/
theorem mk1K {K : PySem.W.Frag} {C : Addr} {f : Str} {v : V} {H1 : Hp} {Q : XK} (k : ∀ dx, H1 dx = none → Q (.ref C) (some dx) (upd H1 dx (.xd [(f, v)]))) :
    ∀ a, H1 a = none → spX1 K C f [.ref a, v] (upd H1 a (exo a C none))
      (fun w H2 => w = .non ∧ ∃ (d : Addr) (fs : List (Str × V)), H2 a = some (exo a C (some d)) ∧ H2 d = some (exd d fs) ∧ H1 d = none ∧ Q (.ref C) (some d) (upd (del H2 a) d (.xd fs))) (fun _ _ _ => False) := (mk1 k).2
theorem mk2K {K : PySem.W.Frag} {C : Addr} {f g : Str} {v w : V} {H1 : Hp} {Q : XK} (k : ∀ dx, H1 dx = none → Q (.ref C) (some dx) (upd H1 dx (.xd [(g, w), (f, v)]))) :
    ∀ a, H1 a = none → spX2 K C f g [.ref a, v, w] (upd H1 a (exo a C none))
      (fun w H2 => w = .non ∧ ∃ (d : Addr) (fs : List (Str × V)), H2 a = some (exo a C (some d)) ∧ H2 d = some (exd d fs) ∧ H1 d = none ∧ Q (.ref C) (some d) (upd (del H2 a) d (.xd fs))) (fun _ _ _ => False) := (mk2 k).2
end Nw

namespace Nw
open PySem PySem.Spec PyProof.Rows L2
def top (i : Nat) : Stmt := PySem.Challenge.pw_newsinorder_k14_errors_apart.main.body.getD i (.Pass ⟨0, 0, 0, 0⟩)
abbrev s_NoRides__init : Stmt := inClass (top 4) 0
abbrev n_NoRides__init : List Str := ["self", "at"]
theorem sc_NoRides__init : FnScope n_NoRides__init ["self", "at"] (defScope s_NoRides__init) := ⟨rfl, rfl, rfl, by decide +kernel, rfl, by decide +kernel, by decide +kernel⟩
abbrev s_NoLink__init : Stmt := inClass (top 6) 0
abbrev n_NoLink__init : List Str := ["self", "letter"]
theorem sc_NoLink__init : FnScope n_NoLink__init ["self", "letter"] (defScope s_NoLink__init) := ⟨rfl, rfl, rfl, by decide +kernel, rfl, by decide +kernel, by decide +kernel⟩
abbrev s_NoSeen__init : Stmt := inClass (top 10) 0
abbrev n_NoSeen__init : List Str := ["self", "at"]
theorem sc_NoSeen__init : FnScope n_NoSeen__init ["self", "at"] (defScope s_NoSeen__init) := ⟨rfl, rfl, rfl, by decide +kernel, rfl, by decide +kernel, by decide +kernel⟩
abbrev s_Clash__init : Stmt := inClass (top 11) 0
abbrev n_Clash__init : List Str := ["self", "first", "second"]
theorem sc_Clash__init : FnScope n_Clash__init ["self", "first", "second"] (defScope s_Clash__init) := ⟨rfl, rfl, rfl, by decide +kernel, rfl, by decide +kernel, by decide +kernel⟩
abbrev s_NoText__init : Stmt := inClass (top 16) 0
abbrev n_NoText__init : List Str := ["self", "line"]
theorem sc_NoText__init : FnScope n_NoText__init ["self", "line"] (defScope s_NoText__init) := ⟨rfl, rfl, rfl, by decide +kernel, rfl, by decide +kernel, by decide +kernel⟩
abbrev s_TooMany__init : Stmt := inClass (top 17) 0
abbrev n_TooMany__init : List Str := ["self", "most"]
theorem sc_TooMany__init : FnScope n_TooMany__init ["self", "most"] (defScope s_TooMany__init) := ⟨rfl, rfl, rfl, by decide +kernel, rfl, by decide +kernel, by decide +kernel⟩
abbrev s_l_begun : Stmt := top 19
abbrev n_l_begun : List Str := ["_law_script", "_law_great", "_law_lump"]
theorem sc_l_begun : FnScope n_l_begun ["_law_script"] (defScope s_l_begun) := ⟨rfl, rfl, rfl, by decide +kernel, rfl, by decide +kernel, by decide +kernel⟩
abbrev s_l_next : Stmt := top 20
abbrev n_l_next : List Str := ["_law_draw", "_law_many", "_law_found", "_law_turn", "_law_lump", "_law_mixed"]
theorem sc_l_next : FnScope n_l_next ["_law_draw", "_law_many"] (defScope s_l_next) := ⟨rfl, rfl, rfl, by decide +kernel, rfl, by decide +kernel, by decide +kernel⟩
abbrev s_l_pick : Stmt := top 21
abbrev n_l_pick : List Str := ["_law_draw", "_law_some"]
theorem sc_l_pick : FnScope n_l_pick ["_law_draw", "_law_some"] (defScope s_l_pick) := ⟨rfl, rfl, rfl, by decide +kernel, rfl, by decide +kernel, by decide +kernel⟩
abbrev s_l_marks : Stmt := top 22
abbrev n_l_marks : List Str := ["_law_e", "_law_marks_here"]
theorem sc_l_marks : FnScope n_l_marks ["_law_e"] (defScope s_l_marks) := ⟨rfl, rfl, rfl, by decide +kernel, rfl, by decide +kernel, by decide +kernel⟩
abbrev s_l_right : Stmt := top 23
abbrev n_l_right : List Str := ["_law_e", "_law_spot", "_law_due", "_law_k"]
theorem sc_l_right : FnScope n_l_right ["_law_e", "_law_spot"] (defScope s_l_right) := ⟨rfl, rfl, rfl, by decide +kernel, rfl, by decide +kernel, by decide +kernel⟩
abbrev s_l_plain_right : Stmt := top 24
abbrev n_l_plain_right : List Str := ["_law_text", "_law_some", "_law_e", "_law_place"]
theorem sc_l_plain_right : FnScope n_l_plain_right ["_law_text"] (defScope s_l_plain_right) := ⟨rfl, rfl, rfl, by decide +kernel, rfl, by decide +kernel, by decide +kernel⟩
abbrev s_l_fields_right : Stmt := top 25
abbrev n_l_fields_right : List Str := ["_law_worth", "_law_more", "_law_some", "_law_found", "_law_e", "_law_place", "_law_one"]
theorem sc_l_fields_right : FnScope n_l_fields_right ["_law_worth", "_law_more"] (defScope s_l_fields_right) := ⟨rfl, rfl, rfl, by decide +kernel, rfl, by decide +kernel, by decide +kernel⟩
abbrev s_law : Stmt := top 26
abbrev n_law : List Str := ["_law_script", "_law_draw", "_law_turn", "_law_some"]
theorem sc_law : FnScope n_law ["_law_script"] (defScope s_law) := ⟨rfl, rfl, rfl, by decide +kernel, rfl, by decide +kernel, by decide +kernel⟩
structure Txt (K : PySem.W.Frag) (mg : Str → Option Value) : Prop where
  b_abs : mg "abs" = none
  b_int : mg "int" = none
  b_isinstance : mg "isinstance" = none
  b_len : mg "len" = none
  b_range : mg "range" = none
  b_repr : mg "repr" = none
  b_ValueError : mg "ValueError" = none
  g__law_begun : mg "_law_begun" = some (.ref (He.ga K "_law_begun"))
  g__law_next : mg "_law_next" = some (.ref (He.ga K "_law_next"))
  g__law_pick : mg "_law_pick" = some (.ref (He.ga K "_law_pick"))
  g__law_marks : mg "_law_marks" = some (.ref (He.ga K "_law_marks"))
  g__law_right : mg "_law_right" = some (.ref (He.ga K "_law_right"))
  g__law_plain_right : mg "_law_plain_right" = some (.ref (He.ga K "_law_plain_right"))
  g__law_fields_right : mg "_law_fields_right" = some (.ref (He.ga K "_law_fields_right"))
  g_law : mg "law" = some (.ref (He.ga K "law"))
  g_OrderError : mg "OrderError" = some (.ref (He.ga K "OrderError"))
  g_NoRow : mg "NoRow" = some (.ref (He.ga K "NoRow"))
  xp_NoRow : PySem.W.excIn K (He.ga K "NoRow") He.veBase "ValueError.__new__" = true ∧ PySem.W.keepIn K (.ref (He.ga K "NoRow")) = true ∧ PySem.W.subIn K (.ref (He.ga K "NoRow")) (.type "BaseException") = some true ∧ PySem.W.typeIn K (.ref (He.ga K "NoRow")) = some (.type "type")
  g_NoMoment : mg "NoMoment" = some (.ref (He.ga K "NoMoment"))
  xp_NoMoment : PySem.W.excIn K (He.ga K "NoMoment") He.veBase "ValueError.__new__" = true ∧ PySem.W.keepIn K (.ref (He.ga K "NoMoment")) = true ∧ PySem.W.subIn K (.ref (He.ga K "NoMoment")) (.type "BaseException") = some true ∧ PySem.W.typeIn K (.ref (He.ga K "NoMoment")) = some (.type "type")
  g_NoRides : mg "NoRides" = some (.ref (He.ga K "NoRides"))
  m_NoRides___init__ : Meth K (He.ga K "NoRides") "__init__" (He.ma K (He.ga K "NoRides") "__init__")
  na_NoRides_at : NoAttr K (He.ga K "NoRides") "at"
  g_NoTable : mg "NoTable" = some (.ref (He.ga K "NoTable"))
  xp_NoTable : PySem.W.excIn K (He.ga K "NoTable") He.veBase "ValueError.__new__" = true ∧ PySem.W.keepIn K (.ref (He.ga K "NoTable")) = true ∧ PySem.W.subIn K (.ref (He.ga K "NoTable")) (.type "BaseException") = some true ∧ PySem.W.typeIn K (.ref (He.ga K "NoTable")) = some (.type "type")
  g_NoLink : mg "NoLink" = some (.ref (He.ga K "NoLink"))
  m_NoLink___init__ : Meth K (He.ga K "NoLink") "__init__" (He.ma K (He.ga K "NoLink") "__init__")
  na_NoLink_letter : NoAttr K (He.ga K "NoLink") "letter"
  g_NoPlan : mg "NoPlan" = some (.ref (He.ga K "NoPlan"))
  xp_NoPlan : PySem.W.excIn K (He.ga K "NoPlan") He.veBase "ValueError.__new__" = true ∧ PySem.W.keepIn K (.ref (He.ga K "NoPlan")) = true ∧ PySem.W.subIn K (.ref (He.ga K "NoPlan")) (.type "BaseException") = some true ∧ PySem.W.typeIn K (.ref (He.ga K "NoPlan")) = some (.type "type")
  g_NoMirror : mg "NoMirror" = some (.ref (He.ga K "NoMirror"))
  xp_NoMirror : PySem.W.excIn K (He.ga K "NoMirror") He.veBase "ValueError.__new__" = true ∧ PySem.W.keepIn K (.ref (He.ga K "NoMirror")) = true ∧ PySem.W.subIn K (.ref (He.ga K "NoMirror")) (.type "BaseException") = some true ∧ PySem.W.typeIn K (.ref (He.ga K "NoMirror")) = some (.type "type")
  g_NoFacts : mg "NoFacts" = some (.ref (He.ga K "NoFacts"))
  xp_NoFacts : PySem.W.excIn K (He.ga K "NoFacts") He.veBase "ValueError.__new__" = true ∧ PySem.W.keepIn K (.ref (He.ga K "NoFacts")) = true ∧ PySem.W.subIn K (.ref (He.ga K "NoFacts")) (.type "BaseException") = some true ∧ PySem.W.typeIn K (.ref (He.ga K "NoFacts")) = some (.type "type")
  g_NoSeen : mg "NoSeen" = some (.ref (He.ga K "NoSeen"))
  m_NoSeen___init__ : Meth K (He.ga K "NoSeen") "__init__" (He.ma K (He.ga K "NoSeen") "__init__")
  na_NoSeen_at : NoAttr K (He.ga K "NoSeen") "at"
  g_Clash : mg "Clash" = some (.ref (He.ga K "Clash"))
  m_Clash___init__ : Meth K (He.ga K "Clash") "__init__" (He.ma K (He.ga K "Clash") "__init__")
  na_Clash_first : NoAttr K (He.ga K "Clash") "first"
  na_Clash_second : NoAttr K (He.ga K "Clash") "second"
  g_NoNet : mg "NoNet" = some (.ref (He.ga K "NoNet"))
  xp_NoNet : PySem.W.excIn K (He.ga K "NoNet") He.veBase "ValueError.__new__" = true ∧ PySem.W.keepIn K (.ref (He.ga K "NoNet")) = true ∧ PySem.W.subIn K (.ref (He.ga K "NoNet")) (.type "BaseException") = some true ∧ PySem.W.typeIn K (.ref (He.ga K "NoNet")) = some (.type "type")
  g_NoProcess : mg "NoProcess" = some (.ref (He.ga K "NoProcess"))
  xp_NoProcess : PySem.W.excIn K (He.ga K "NoProcess") He.veBase "ValueError.__new__" = true ∧ PySem.W.keepIn K (.ref (He.ga K "NoProcess")) = true ∧ PySem.W.subIn K (.ref (He.ga K "NoProcess")) (.type "BaseException") = some true ∧ PySem.W.typeIn K (.ref (He.ga K "NoProcess")) = some (.type "type")
  g_NoChannel : mg "NoChannel" = some (.ref (He.ga K "NoChannel"))
  xp_NoChannel : PySem.W.excIn K (He.ga K "NoChannel") He.veBase "ValueError.__new__" = true ∧ PySem.W.keepIn K (.ref (He.ga K "NoChannel")) = true ∧ PySem.W.subIn K (.ref (He.ga K "NoChannel")) (.type "BaseException") = some true ∧ PySem.W.typeIn K (.ref (He.ga K "NoChannel")) = some (.type "type")
  g_NoMessage : mg "NoMessage" = some (.ref (He.ga K "NoMessage"))
  xp_NoMessage : PySem.W.excIn K (He.ga K "NoMessage") He.veBase "ValueError.__new__" = true ∧ PySem.W.keepIn K (.ref (He.ga K "NoMessage")) = true ∧ PySem.W.subIn K (.ref (He.ga K "NoMessage")) (.type "BaseException") = some true ∧ PySem.W.typeIn K (.ref (He.ga K "NoMessage")) = some (.type "type")
  g_NoText : mg "NoText" = some (.ref (He.ga K "NoText"))
  m_NoText___init__ : Meth K (He.ga K "NoText") "__init__" (He.ma K (He.ga K "NoText") "__init__")
  na_NoText_line : NoAttr K (He.ga K "NoText") "line"
  g_TooMany : mg "TooMany" = some (.ref (He.ga K "TooMany"))
  m_TooMany___init__ : Meth K (He.ga K "TooMany") "__init__" (He.ma K (He.ga K "TooMany") "__init__")
  na_TooMany_most : NoAttr K (He.ga K "TooMany") "most"
  xf_NoRow : ExF K (He.ga K "NoRow")
  xf_NoMoment : ExF K (He.ga K "NoMoment")
  xf_NoRides : ExF K (He.ga K "NoRides")
  xf_NoTable : ExF K (He.ga K "NoTable")
  xf_NoLink : ExF K (He.ga K "NoLink")
  xf_NoPlan : ExF K (He.ga K "NoPlan")
  xf_NoMirror : ExF K (He.ga K "NoMirror")
  xf_NoFacts : ExF K (He.ga K "NoFacts")
  xf_NoSeen : ExF K (He.ga K "NoSeen")
  xf_Clash : ExF K (He.ga K "Clash")
  xf_NoNet : ExF K (He.ga K "NoNet")
  xf_NoProcess : ExF K (He.ga K "NoProcess")
  xf_NoChannel : ExF K (He.ga K "NoChannel")
  xf_NoMessage : ExF K (He.ga K "NoMessage")
  xf_NoText : ExF K (He.ga K "NoText")
  xf_TooMany : ExF K (He.ga K "TooMany")
  nf_NoRides_at : PySem.W.findIn K (.ref (He.ga K "NoRides")) "at" = some none
  nf_NoLink_letter : PySem.W.findIn K (.ref (He.ga K "NoLink")) "letter" = some none
  nf_NoSeen_at : PySem.W.findIn K (.ref (He.ga K "NoSeen")) "at" = some none
  nf_Clash_first : PySem.W.findIn K (.ref (He.ga K "Clash")) "first" = some none
  nf_Clash_second : PySem.W.findIn K (.ref (He.ga K "Clash")) "second" = some none
  nf_NoText_line : PySem.W.findIn K (.ref (He.ga K "NoText")) "line" = some none
  nf_TooMany_most : PySem.W.findIn K (.ref (He.ga K "TooMany")) "most" = some none
  xo_NoRides : OexC K (He.ga K "NoRides")
  xo_NoLink : OexC K (He.ga K "NoLink")
  xo_NoSeen : OexC K (He.ga K "NoSeen")
  xo_Clash : OexC K (He.ga K "Clash")
  xo_NoText : OexC K (He.ga K "NoText")
  xo_TooMany : OexC K (He.ga K "TooMany")
  oe : OeI K (He.ga K "OrderError")
  kita : KitA K
end Nw

namespace Nw
open PySem PySem.Spec PyProof.Rows L2
/-! ### the errors with fields -/
section
variable {P : Program} {w : World} {K : PySem.W.Frag} {mg : Str → Option Value} {base : Heap}
abbrev sp_NoRides__init (K : PySem.W.Frag) : Sp := spX1 K (He.ga K "NoRides") "at"
theorem ok_NoRides__init (T : Txt K mg) (F : FnAt K "__init__" "NoRides.__init__" s_NoRides__init (He.ma K (He.ga K "NoRides") "__init__")) : Ok P w K mg base CX0 1 (He.ma K (He.ga K "NoRides") "__init__") ["self", "at"] (spX1 K (He.ga K "NoRides") "at") := by
  refine ok_of F sc_NoRides__init (fun _ _ _ _ _ _ us hl => match us, hl with | [_, _], _ => rfl) (fun vs H Q E h => ?_) (fun cdv A outer s H vs Q E hr h => ?_)
  · obtain ⟨_, _, rfl, _⟩ := h
    rfl
  · obtain ⟨a, v, rfl, ha, k⟩ := h
    exact ⟨_, (pss_cons (ps_expr (pe_oeinit T.oe T.g_OrderError (pa_cons (pv 0) (pa_cons pe_str pa_nil))))
      (pss_one (ps_ost (pv 0) (pv 1)))), _, rfl, a, _, _, rfl, by simp, T.xo_NoRides, ha, _, rfl, _, rfl, a, _, rfl, T.xo_NoRides, T.na_NoRides_at, .inl ⟨ha, k⟩⟩
abbrev sp_NoLink__init (K : PySem.W.Frag) : Sp := spX1 K (He.ga K "NoLink") "letter"
theorem ok_NoLink__init (T : Txt K mg) (F : FnAt K "__init__" "NoLink.__init__" s_NoLink__init (He.ma K (He.ga K "NoLink") "__init__")) : Ok P w K mg base CX0 1 (He.ma K (He.ga K "NoLink") "__init__") ["self", "letter"] (spX1 K (He.ga K "NoLink") "letter") := by
  refine ok_of F sc_NoLink__init (fun _ _ _ _ _ _ us hl => match us, hl with | [_, _], _ => rfl) (fun vs H Q E h => ?_) (fun cdv A outer s H vs Q E hr h => ?_)
  · obtain ⟨_, _, rfl, _⟩ := h
    rfl
  · obtain ⟨a, v, rfl, ha, k⟩ := h
    exact ⟨_, (pss_cons (ps_expr (pe_oeinit T.oe T.g_OrderError (pa_cons (pv 0) (pa_cons pe_str pa_nil))))
      (pss_one (ps_ost (pv 0) (pv 1)))), _, rfl, a, _, _, rfl, by simp, T.xo_NoLink, ha, _, rfl, _, rfl, a, _, rfl, T.xo_NoLink, T.na_NoLink_letter, .inl ⟨ha, k⟩⟩
abbrev sp_NoSeen__init (K : PySem.W.Frag) : Sp := spX1 K (He.ga K "NoSeen") "at"
theorem ok_NoSeen__init (T : Txt K mg) (F : FnAt K "__init__" "NoSeen.__init__" s_NoSeen__init (He.ma K (He.ga K "NoSeen") "__init__")) : Ok P w K mg base CX0 1 (He.ma K (He.ga K "NoSeen") "__init__") ["self", "at"] (spX1 K (He.ga K "NoSeen") "at") := by
  refine ok_of F sc_NoSeen__init (fun _ _ _ _ _ _ us hl => match us, hl with | [_, _], _ => rfl) (fun vs H Q E h => ?_) (fun cdv A outer s H vs Q E hr h => ?_)
  · obtain ⟨_, _, rfl, _⟩ := h
    rfl
  · obtain ⟨a, v, rfl, ha, k⟩ := h
    exact ⟨_, (pss_cons (ps_expr (pe_oeinit T.oe T.g_OrderError (pa_cons (pv 0) (pa_cons pe_str pa_nil))))
      (pss_one (ps_ost (pv 0) (pv 1)))), _, rfl, a, _, _, rfl, by simp, T.xo_NoSeen, ha, _, rfl, _, rfl, a, _, rfl, T.xo_NoSeen, T.na_NoSeen_at, .inl ⟨ha, k⟩⟩
abbrev sp_Clash__init (K : PySem.W.Frag) : Sp := spX2 K (He.ga K "Clash") "first" "second"
theorem ok_Clash__init (T : Txt K mg) (F : FnAt K "__init__" "Clash.__init__" s_Clash__init (He.ma K (He.ga K "Clash") "__init__")) : Ok P w K mg base CX0 1 (He.ma K (He.ga K "Clash") "__init__") ["self", "first", "second"] (spX2 K (He.ga K "Clash") "first" "second") := by
  refine ok_of F sc_Clash__init (fun _ _ _ _ _ _ us hl => match us, hl with | [_, _, _], _ => rfl) (fun vs H Q E h => ?_) (fun cdv A outer s H vs Q E hr h => ?_)
  · obtain ⟨_, _, _, rfl, _⟩ := h
    rfl
  · obtain ⟨a, v, w1, rfl, ha, k⟩ := h
    refine ⟨_, (pss_cons (ps_expr (pe_oeinit T.oe T.g_OrderError (pa_cons (pv 0) (pa_cons pe_str pa_nil))))
      (pss_cons (ps_ost (pv 0) (pv 1))
      (pss_one (ps_ost (pv 0) (pv 2))))), _, rfl, a, _, _, rfl, by simp, T.xo_Clash, ha, _, rfl, _, rfl, a, _, rfl, T.xo_Clash, T.na_Clash_first, .inl ⟨ha, fun dx hdx ne => ?_⟩⟩
    refine ⟨_, rfl, _, rfl, a, _, rfl, T.xo_Clash, T.na_Clash_second, .inr ⟨dx, _, upd_same, by rw [upd_ne ne]; exact upd_same, by simp, ?_⟩⟩
    rw [upd_comm ne.symm, upd_upd]
    exact k dx hdx ne
abbrev sp_NoText__init (K : PySem.W.Frag) : Sp := spX1 K (He.ga K "NoText") "line"
theorem ok_NoText__init (T : Txt K mg) (F : FnAt K "__init__" "NoText.__init__" s_NoText__init (He.ma K (He.ga K "NoText") "__init__")) : Ok P w K mg base CX0 1 (He.ma K (He.ga K "NoText") "__init__") ["self", "line"] (spX1 K (He.ga K "NoText") "line") := by
  refine ok_of F sc_NoText__init (fun _ _ _ _ _ _ us hl => match us, hl with | [_, _], _ => rfl) (fun vs H Q E h => ?_) (fun cdv A outer s H vs Q E hr h => ?_)
  · obtain ⟨_, _, rfl, _⟩ := h
    rfl
  · obtain ⟨a, v, rfl, ha, k⟩ := h
    exact ⟨_, (pss_cons (ps_expr (pe_oeinit T.oe T.g_OrderError (pa_cons (pv 0) (pa_cons pe_str pa_nil))))
      (pss_one (ps_ost (pv 0) (pv 1)))), _, rfl, a, _, _, rfl, by simp, T.xo_NoText, ha, _, rfl, _, rfl, a, _, rfl, T.xo_NoText, T.na_NoText_line, .inl ⟨ha, k⟩⟩
abbrev sp_TooMany__init (K : PySem.W.Frag) : Sp := spX1 K (He.ga K "TooMany") "most"
theorem ok_TooMany__init (T : Txt K mg) (F : FnAt K "__init__" "TooMany.__init__" s_TooMany__init (He.ma K (He.ga K "TooMany") "__init__")) : Ok P w K mg base CX0 1 (He.ma K (He.ga K "TooMany") "__init__") ["self", "most"] (spX1 K (He.ga K "TooMany") "most") := by
  refine ok_of F sc_TooMany__init (fun _ _ _ _ _ _ us hl => match us, hl with | [_, _], _ => rfl) (fun vs H Q E h => ?_) (fun cdv A outer s H vs Q E hr h => ?_)
  · obtain ⟨_, _, rfl, _⟩ := h
    rfl
  · obtain ⟨a, v, rfl, ha, k⟩ := h
    exact ⟨_, (pss_cons (ps_expr (pe_oeinit T.oe T.g_OrderError (pa_cons (pv 0) (pa_cons pe_str pa_nil))))
      (pss_one (ps_ost (pv 0) (pv 1)))), _, rfl, a, _, _, rfl, by simp, T.xo_TooMany, ha, _, rfl, _, rfl, a, _, rfl, T.xo_TooMany, T.na_TooMany_most, .inl ⟨ha, k⟩⟩
end
end Nw

namespace Nw
open PySem PySem.Spec PyProof.Rows L2
section
variable {P : Program} {w : World} {K : PySem.W.Frag} {mg : Str → Option Value} {base : Heap}
theorem nn_mul {x y : Int} (hx : 0 ≤ x) (hy : 0 ≤ y) : 0 ≤ x * y := Int.mul_nonneg hx hy
theorem pow3_nn {x : Int} (h : 0 ≤ x) (n : Nat) : 0 ≤ x ^ n := Int.pow_nonneg h
theorem ok_l_next (T : Txt K mg) (F : FnAt K "_law_next" "_law_next" s_l_next (He.ga K "_law_next")) : Ok P w K mg base CX0 1 (He.ga K "_law_next") ["_law_draw", "_law_many"] spNext := by
  refine ok_of F sc_l_next (fun _ _ _ _ _ _ us hl => match us, hl with | [_, _], _ => rfl) (fun vs H Q E h => ?_) (fun cdv A outer s H vs Q E hr h => ?_)
  · obtain ⟨_, _, _, _, rfl, _⟩ := h
    rfl
  · obtain ⟨I, D, n, many, rfl, hD, hm0, hm1, hn, k⟩ := h
    refine ⟨_, pss_mid (ps_while PassesOwn.never (PW.pt (pw_and (pt_cmpR op_eq (pe_dget (hu_of hr) (pv 0) pe_str (fun _ _ => rfl)) pe_int (nomark _)) (pw_and1 (pt_cmpR (op_neNil hr.units) (pe_dget (hu_of hr) (pv 0) pe_str (fun _ _ => rfl)) (pe_lst pa_nil) (nomark _))))) (pss_one (ps_dput (hu_of hr) (pv 0) pe_str (pe_bm PySem.F.plainAttrs_list PySem.F.slot_list_pop PySem.F.type_list_pop mt_popAt (pe_dget (hu_of hr) (pv 0) pe_str (fun _ _ => rfl)) (pa_cons pe_int pa_nil)) rfl)))
      (pss_cons (ps_if (pt_cmpR op_gt (pe_dget (hu_of hr) (pv 0) pe_str (fun _ _ => rfl)) pe_int (nomark _)) (pss_cons (ps_set (i := 2) sc_l_next.nd rfl (Or.inl rfl) (pe_op op_mod (pe_callTy call_int1 (by rfl) T.b_int (by decide +kernel) (pa_cons (pe_dget (hu_of hr) (pv 0) pe_str (fun _ _ => rfl)) pa_nil)) (pv 1)))
      (pss_cons (ps_dput (hu_of hr) (pv 0) pe_str (pe_op op_fdiv (pe_dget (hu_of hr) (pv 0) pe_str (fun _ _ => rfl)) (pv 1)) rfl)
      (pss_one (ps_ret (pv 2))))) pss_nil)
      (pss_cons (ps_daug (hu_of hr) (pv 0) pe_str pe_int in_add (fun _ _ _ => rfl))
      (pss_cons (ps_set (i := 3) sc_l_next.nd rfl (Or.inl rfl) (pe_dget (hu_of hr) (pv 0) pe_str (fun _ _ => rfl)))
      (pss_cons (ps_set (i := 4) sc_l_next.nd rfl (Or.inl rfl) pe_int)
      (pss_mid (ps_if (pt_cmpR (op_neNil hr.units) (pe_dget (hu_of hr) (pv 0) pe_str (fun _ _ => rfl)) (pe_lst pa_nil) (nomark _)) (pss_one (ps_set (i := 4) sc_l_next.nd rfl (Or.inl rfl) (pe_ix ix_list (pe_dget (hu_of hr) (pv 0) pe_str (fun _ _ => rfl)) (pe_op op_mod (pe_callTy call_int1 (by rfl) T.b_int (by decide +kernel) (pa_cons (pv 3) pa_nil)) (pe_callB call_len_seq (by rfl) T.b_len (by decide +kernel) (pa_cons (pe_dget (hu_of hr) (pv 0) pe_str (fun _ _ => rfl)) pa_nil))) (fun _ _ => rfl)))) pss_nil)
      (pss_cons (ps_set (i := 5) sc_l_next.nd rfl (Or.inl rfl) (pe_op op_mod (pe_callTy call_int1 (by rfl) T.b_int (by decide +kernel) (pa_cons (pe_op op_pow (pe_op op_add (pe_op op_mod (pe_callTy call_int1 (by rfl) T.b_int (by decide +kernel) (pa_cons (pv 4) pa_nil)) pe_int) (pe_op op_mul pe_int (pv 3))) pe_int) pa_nil)) pe_int))
      (pss_one (ps_ret (pe_op op_mod (pe_callTy call_int1 (by rfl) T.b_int (by decide +kernel) (pa_cons (pe_op op_fdiv (pe_op op_mod (pe_callTy call_int1 (by rfl) T.b_int (by decide +kernel) (pa_cons (pe_op op_pow (pe_op op_add (pv 5) (pe_op op_mul pe_int (pv 3))) pe_int) pa_nil)) pe_int) pe_int) pa_nil)) (pv 1)))))))))), ?_⟩
    obtain ⟨dig0, tn, gs0, ls, s0, hd0, ht0, htn, hg0, hl0⟩ := hD.ex
    -- the while: the rest of the great numbers falls
    refine ⟨fun σ H2 => ∃ (dig : Int) (gs : List Int), σ = [some (.ref D.d), some (.int many), none, none, none, none] ∧ DrS D dig tn gs ls I H2 ∧ 0 ≤ dig ∧ (∀ g ∈ gs, 0 ≤ g) ∧ Grow (TD D) I H I H2, ?_, ?_⟩
    · refine ⟨fun m σ H' => ∃ (dig : Int) (gs : List Int), m = gs.length ∧ σ = [some (.ref D.d), some (.int many), none, none, none, none] ∧ DrS D dig tn gs ls I H' ∧ 0 ≤ dig ∧ (∀ g ∈ gs, 0 ≤ g) ∧ Grow (TD D) I H I H',
        ⟨_, dig0, gs0, rfl, rfl, s0, hd0, hg0, Grow.refl s0.sub⟩, ?_⟩
      rintro m σ H1 ⟨dig, gs, rfl, rfl, s1, hd1, hg1, G1⟩
      refine ⟨_, rfl, D.d, _, rfl, s1.get_dig, rfl, _, rfl, ?_⟩
      by_cases c : dig = 0
      · subst c
        rw [decide_eq_true rfl]
        refine iteT ⟨_, rfl, D.d, _, rfl, s1.get_great, by decide, fun p hp => ⟨D.g, p, _, rfl, rfl, SqL.of (by rw [upd_ne (ne_of_none s1.hg hp)]; exact s1.hg), SqL.of upd_same, _, rfl, ?_⟩⟩
        have G2 : Grow (TD D) I H I (upd H1 p (.lst [])) := G1.trans (Grow.mine G1.sub hp)
        have s2 : DrS D 0 tn gs ls I (upd H1 p (.lst [])) := s1.put (fun t => s1.live p t hp) (G1.sub.free hp)
        cases gs with
        | nil => exact ⟨0, [], rfl, s2, hd1, hg1, G2⟩
        | cons g r =>
          refine ⟨fun σ' H' => ∃ (dig : Int), σ' = [some (.ref D.d), some (.int many), none, none, none, none] ∧ DrS D dig tn r ls I H' ∧ 0 ≤ dig ∧ (∀ g ∈ r, 0 ≤ g) ∧ Grow (TD D) I H I H', fun σ' H' ⟨dig, e, a⟩ => ⟨r.length, Nat.lt_succ_self _, dig, r, rfl, e, a⟩, ?_⟩
          refine ⟨_, rfl, D.d, _, rfl, s2.get_great, .inl ⟨rfl, _, SqL.of s2.hg⟩, D.g, _, 0, 0, _, rfl, rfl, s2.hg, by decide, by decide, by simp [seqIndex?], rfl, ?_⟩
          have G3 := s2.gg (o := .lst (r.map V.int)) G2
          have s3 : DrS D 0 tn r ls I (upd (upd H1 p (.lst [])) D.g (.lst (r.map V.int))) := s2.up G3.sub (by rw [upd_ne s1.dg]; exact s2.hd) upd_same (by rw [upd_ne s1.gl.symm]; exact s2.hl)
          refine ⟨_, rfl, D.d, _, rfl, s3.put_dig, g, rfl, ?_, hg1 g (List.mem_cons_self ..), fun x hx => hg1 x (List.mem_cons_of_mem _ hx), s3.gd G3⟩
          exact s3.up (s3.gd G3).sub upd_same (by rw [upd_ne s1.dg.symm]; exact s3.hg) (by rw [upd_ne s1.dl.symm]; exact s3.hl)
      · rw [decide_eq_false (fun z => c (V.int.inj z))]
        exact iteF ⟨dig, gs, rfl, s1, hd1, hg1, G1⟩
    · rintro σ H1 ⟨dig, gs, rfl, s1, hd1, hg1, G1⟩
      refine ⟨_, rfl, D.d, _, rfl, s1.get_dig, _, _, rfl, rfl, _, rfl, ?_⟩
      by_cases c : 0 < dig
      · rw [decide_eq_true c]
        refine iteT ⟨_, rfl, D.d, _, rfl, s1.get_dig, .inl ⟨_, rfl, _, rfl, _, _, rfl, rfl, hm0, ?_⟩⟩
        refine ⟨_, rfl, D.d, _, rfl, s1.get_dig, _, rfl, _, _, rfl, rfl, ⟨hm0, hm1⟩, _, rfl, D.d, _, rfl, s1.put_dig, _, rfl, ?_⟩
        refine k _ _ (Int.emod_nonneg _ (Int.ne_of_gt hm0)) (Int.emod_lt_of_pos _ hm0) (s1.gd G1) ⟨dig / many, tn, gs, ls, ?_, Int.ediv_nonneg hd1 (Int.le_of_lt hm0), ht0, by omega, hg1, hl0⟩
        exact s1.up (s1.gd G1).sub upd_same (by rw [upd_ne s1.dg.symm]; exact s1.hg) (by rw [upd_ne s1.dl.symm]; exact s1.hl)
      · rw [decide_eq_false c]
        refine iteF ?_
        -- the turn
        have G2 := s1.gd (o := .dK (drK D dig (tn + 1))) G1
        have s2 : DrS D dig (tn + 1) gs ls I (upd H1 D.d (.dK (drK D dig (tn + 1)))) := s1.up G2.sub upd_same (by rw [upd_ne s1.dg.symm]; exact s1.hg) (by rw [upd_ne s1.dl.symm]; exact s1.hl)
        refine ⟨_, rfl, D.d, _, rfl, s1.get_turn, _, _, rfl, rfl, _, s1.put_turn, ?_⟩
        refine ⟨_, rfl, D.d, _, rfl, s2.get_turn, ?_⟩
        -- a lump
        have ht1 : 0 ≤ tn + 1 := by omega
        refine ⟨fun σ H2 => ∃ (lump : Int), σ = [some (.ref D.d), some (.int many), none, some (.int (tn + 1)), some (.int lump), none] ∧ 0 ≤ lump ∧ DrS D dig (tn + 1) gs ls I H2 ∧ Grow (TD D) I H I H2, ?_, ?_⟩
        · refine ⟨_, rfl, D.d, _, rfl, s2.get_lumps, by decide, fun p hp => ⟨D.l, p, _, rfl, rfl, SqL.of (by rw [upd_ne (ne_of_none s2.hl hp)]; exact s2.hl), SqL.of upd_same, _, rfl, ?_⟩⟩
          have G3 : Grow (TD D) I H I (upd (upd H1 D.d (.dK (drK D dig (tn + 1)))) p (.lst [])) := G2.trans (Grow.mine G2.sub hp)
          have s3 : DrS D dig (tn + 1) gs ls I (upd (upd H1 D.d (.dK (drK D dig (tn + 1)))) p (.lst [])) := s2.put (fun t => s2.live p t hp) (G2.sub.free hp)
          cases ls with
          | nil => exact ⟨0, rfl, Int.le_refl 0, s3, G3⟩
          | cons l0 lr =>
            have hpos : (0 : Int) < ((List.map V.int (l0 :: lr)).length : Int) := by simp only [List.map_cons, List.length_cons]; omega
            have hi0 := Int.emod_nonneg (tn + 1) (Int.ne_of_gt hpos)
            have hi1 := Int.emod_lt_of_pos (tn + 1) hpos
            have hlt : ((tn + 1) % ((List.map V.int (l0 :: lr)).length : Int)).toNat < (l0 :: lr).length := by
              have e : (List.map V.int (l0 :: lr)).length = (l0 :: lr).length := List.length_map ..
              rw [e] at hi0 hi1 ⊢
              omega
            refine ⟨_, rfl, D.d, _, rfl, s3.get_lumps, _, rfl, .inl ⟨_, rfl, _, rfl, D.d, _, rfl, s3.get_lumps, D.l, _, rfl, .inl (SqL.of s3.hl), ?_⟩⟩
            refine ⟨_, _, rfl, rfl, hpos, D.l, _, _, .int ((l0 :: lr)[((tn + 1) % ((List.map V.int (l0 :: lr)).length : Int)).toNat]'hlt), rfl, rfl, SqL.of s3.hl, ?_, ?_⟩
            · have e : (tn + 1) % ((List.map V.int (l0 :: lr)).length : Int) = (((tn + 1) % ((List.map V.int (l0 :: lr)).length : Int)).toNat : Int) := (Int.toNat_of_nonneg hi0).symm
              refine at_of e ?_
              rw [List.getElem?_map, List.getElem?_eq_getElem hlt]
              rfl
            · exact ⟨_, rfl, hl0 _ (List.getElem_mem hlt), s3, G3⟩
        · rintro σ H2 ⟨lump, rfl, hlump, s3, G3⟩
          have hb : tn + 1 ≤ 1099511627776 := by
            have q : n < 1099511627776 := hn
            omega
          have m0 := Int.emod_nonneg lump (show (2147483629 : Int) ≠ 0 by decide)
          have m1 := Int.emod_lt_of_pos lump (show (0 : Int) < 2147483629 by decide)
          refine ⟨_, rfl, .inl ⟨_, rfl, _, _, rfl, rfl, (by show (0 : Int) < 2147483629; decide), _, rfl, _, _, rfl, rfl, .inl ⟨by decide, by decide⟩, ?_⟩⟩
          refine ⟨_, _, rfl, rfl, _, _, rfl, rfl, ⟨by decide, by decide, ?_⟩, .inl ⟨_, rfl, _, _, rfl, rfl, (by show (0 : Int) < 2147483647; decide), ?_⟩⟩
          · omega
          have q0 : (0 : Int) ≤ (lump % 2147483629 + 40009 * (tn + 1)) ^ (3 : Int).toNat % 2147483647 := Int.emod_nonneg _ (by decide)
          have q1 : (lump % 2147483629 + 40009 * (tn + 1)) ^ (3 : Int).toNat % 2147483647 < 2147483647 := Int.emod_lt_of_pos _ (by decide)
          revert q0 q1
          generalize (lump % 2147483629 + 40009 * (tn + 1)) ^ (3 : Int).toNat % 2147483647 = mixed
          intro q0 q1
          refine ⟨_, rfl, _, rfl, _, _, rfl, rfl, .inl ⟨by decide, by decide⟩, ?_⟩
          refine ⟨_, _, rfl, rfl, _, _, rfl, rfl, ⟨by decide, by decide, by omega⟩, .inl ⟨_, rfl, _, _, rfl, rfl, (by show (0 : Int) < 2147483629; decide), _, _, rfl, rfl, ⟨by decide, by decide⟩, .inl ⟨_, rfl, ?_⟩⟩⟩
          refine ⟨_, rfl, _, _, rfl, rfl, hm0, ?_⟩
          exact k _ _ (Int.emod_nonneg _ (Int.ne_of_gt hm0)) (Int.emod_lt_of_pos _ hm0) G3 ⟨dig, tn + 1, gs, ls, s3, hd1, ht1, by omega, hg1, hl0⟩

theorem getI0 {ns : List Int} {i : Nat} {v : V} (h : (ns.map V.int)[i]? = some v) : ∃ k, ns[i]? = some k ∧ v = .int k := by
  rw [List.getElem?_map] at h
  cases e : ns[i]? with
  | none => rw [e] at h; cases h
  | some k => rw [e] at h; exact ⟨k, rfl, (Option.some.inj h).symm⟩
/-- the source of draws of a script -/
def spBegun (K : PySem.W.Frag) : Sp := fun vs H Q _ => ∃ (I : Hp) (a : Addr) (ns : List Int), vs = [.ref a] ∧ Same I H ∧ SqL K I a (ns.map V.int) ∧ ns.length ≤ 63 ∧
  ∀ (D : DA) (I' H' : Hp), Grow No I H I' H' → Drw D 0 I' H' → Q (.ref D.d) H'
theorem abs_nn (i : Int) : 0 ≤ (if i < 0 then -i else i) := by split <;> omega
theorem ok_l_begun (T : Txt K mg) (F : FnAt K "_law_begun" "_law_begun" s_l_begun (He.ga K "_law_begun")) : Ok P w K mg base CX0 1 (He.ga K "_law_begun") ["_law_script"] (spBegun K) := by
  refine ok_of F sc_l_begun (fun _ _ _ _ _ _ us hl => match us, hl with | [_], _ => rfl) (fun vs H Q E h => ?_) (fun cdv A outer s H vs Q E hr h => ?_)
  · obtain ⟨_, _, _, rfl, _⟩ := h
    rfl
  · obtain ⟨I, a, ns, rfl, sb, hS, hl, k⟩ := h
    refine ⟨_, (pss_cons (ps_setLc (i := 1) (own := [("_law_lump", 2)]) (g := (gName 2)) rfl sc_l_begun.nd rfl rfl (sw_true rfl rfl rfl (by decide +kernel)) (pi_list (pv 0)) (blkOk_by (own := [("_law_lump", 2)]) (N := n_l_begun) (sc := defScope s_l_begun) (by decide +kernel)) (fun _ _ _ _ _ => (pg_name (i := 2) sc_l_begun.nd rfl (Or.inl rfl))) (fun _ _ _ _ _ => (pts_one (pt_cmpR op_ge (pe_callB call_abs (by rfl) T.b_abs (by decide +kernel) (pa_cons (pv 2) pa_nil)) (pe_op op_pow pe_int pe_int) (nomark _)))) (fun _ _ _ _ _ => (pe_op op_fdivW (pe_callB call_abs (by rfl) T.b_abs (by decide +kernel) (pa_cons (pv 2) pa_nil)) (pe_op op_pow pe_int pe_int))))
      (pss_one (ps_ret (pe_disp (pps_cons pe_str pe_int (pps_cons pe_str (pv 1) (pps_cons pe_str (pe_lc (own := [("_law_lump", 2)]) (g := (gName 2)) rfl sc_l_begun.nd (pi_list (pv 0)) (blkOk_by (own := [("_law_lump", 2)]) (N := n_l_begun) (sc := defScope s_l_begun) (by decide +kernel)) (fun _ _ _ _ _ => (pg_name (i := 2) sc_l_begun.nd rfl (Or.inl rfl))) (fun _ _ _ _ _ => pts_nil) (fun _ _ _ _ _ => (pe_op op_mod (pe_callTy call_int1 (by rfl) T.b_int (by decide +kernel) (pa_cons (pe_callB call_abs (by rfl) T.b_abs (by decide +kernel) (pa_cons (pv 2) pa_nil)) pa_nil)) (pe_op op_pow pe_int pe_int)))) (pps_cons pe_str pe_int pps_nil)))) (by rfl) (by rfl) (fun z => by cases z) (by decide))))), ?_⟩
    have hS1 : SqL K H a (ns.map V.int) := sb.seq hS
    refine ⟨_, rfl, a, rfl, ⟨_, hS1⟩, fun L hL => ?_⟩
    refine lc_gen (T := No) (I := I) (β := Int) (walk_list (K := K) (a := a) (xs := ns.map V.int)) (fun _ _ _ => True) (fun _ => Stable.triv) sb (fun _ z => z.elim) hL trivial (by rw [List.length_map]; omega) (fun i I' H' g _ => g.same.seq hS1)
      (fun _ o => ∀ y, o = some y → 0 ≤ y) ?_ ?_
    · rintro i x I' H' H'' hi g _ ⟨rfl, hx⟩ Kn Ky kn ky
      obtain ⟨z, hz, rfl⟩ := getI0 hx
      refine ⟨rfl, _, rfl, _, rfl, _, _, rfl, rfl, ⟨by decide, by decide, by decide⟩, _, _, rfl, rfl, _, rfl, ?_⟩
      refine ite2 (fun _ => ?_) (fun _ => kn (fun y e => nomatch e) I' H'' (Grow.refl g.sub) trivial)
      refine ⟨_, rfl, _, rfl, _, _, rfl, rfl, ⟨by decide, by decide, by decide⟩, _, _, rfl, rfl, ⟨by decide, by decide⟩, ?_⟩
      exact ky _ (fun y e => by cases e; exact Int.ediv_nonneg (abs_nn z) (by decide)) _ I' H'' (Grow.refl g.sub) trivial rfl
    · intro os I1 H1 vs' hlen hP g1 _ ow hp
      have hg : ∀ z ∈ os.filterMap id, (0 : Int) ≤ z := fun z hz => by
        obtain ⟨o, ho, e⟩ := List.mem_filterMap.mp hz
        obtain ⟨j, hj, e2⟩ := List.mem_iff_getElem.mp ho
        exact hP j o (by rw [List.getElem?_eq_getElem hj, e2]) z e
      have e1 := Paired.ints hp
      subst e1
      -- the dict, with the second list made within its display
      intro p hp1
      have G2 := g1.trans (Grow.mine (o := .dK []) g1.sub hp1)
      have ow2 := ow.grow (Grow.mine (T := No) (o := .dK []) g1.sub hp1)
      have op : Own No H p (.dK []) I1 (upd H1 p (.dK [])) := Own.new g1.sub (.inr g1.live) (fun _ z => z.elim) hp1
      have npL : p ≠ L := (ne_of_none ow.at_ hp1).symm
      refine ⟨_, rfl, _, rfl, a, rfl, ⟨_, G2.same.seq hS1⟩, fun M hM => ?_⟩
      refine lc_gen (T := No) (I := I1) (β := Int) (walk_list (K := K) (a := a) (xs := ns.map V.int)) (fun _ _ _ => True) (fun _ => Stable.triv) G2.sub (fun _ z => z.elim) hM trivial (by rw [List.length_map]; omega) (fun i I' H' g _ => g.same.seq (G2.same.seq hS1))
        (fun _ o => ∀ y, o = some y → 0 ≤ y) ?_ ?_
      · rintro i x I' H' H'' hi g _ ⟨rfl, hx⟩ Kn Ky kn ky
        obtain ⟨z, hz, rfl⟩ := getI0 hx
        refine ⟨rfl, lc_yes ?_⟩
        refine ⟨_, rfl, _, rfl, .inl ⟨_, rfl, _, _, rfl, rfl, ⟨by decide, by decide, by decide⟩, _, _, rfl, rfl, (by show (0 : Int) < 10 ^ Int.toNat 18; decide), ?_⟩⟩
        exact ky _ (fun y e => by cases e; exact Int.emod_nonneg _ (by decide)) _ I' H'' (Grow.refl g.sub) trivial rfl
      · intro os2 I2 H2 vs2 hlen2 hP2 g2 _ owM hp2
        have hl2 : ∀ z ∈ os2.filterMap id, (0 : Int) ≤ z := fun z hz => by
          obtain ⟨o, ho, e⟩ := List.mem_filterMap.mp hz
          obtain ⟨j, hj, e2⟩ := List.mem_iff_getElem.mp ho
          exact hP2 j o (by rw [List.getElem?_eq_getElem hj, e2]) z e
        have e2 := Paired.ints hp2
        subst e2
        have ow3 := ow2.grow g2
        have op3 := op.grow g2
        have nML : M ≠ L := (ne_of_none ow2.at_ hM).symm
        have nMp : M ≠ p := (ne_of_none op.at_ hM).symm
        refine ⟨op3.at_, [(.inr "digits", .int 0), (.inr "great", .ref L), (.inr "lumps", .ref M), (.inr "turn", .int 0)], rfl, (by show 4 ≤ 15; decide), ?_⟩
        have em : mergeK [] [((.inr "digits" : Key), V.int 0), ((.inr "great" : Key), V.ref L), ((.inr "lumps" : Key), V.ref M), ((.inr "turn" : Key), V.int 0)] = drK ⟨p, L, M⟩ 0 0 := merge_nodup (show ([(.inr "digits" : Key), .inr "great", .inr "lumps", .inr "turn"]).Nodup by decide +kernel)
        rw [em]
        have opg : Own No H p (.dK []) I2 H2 := op3
        have G4 : Grow No I H I2 (upd H2 p (.dK (drK ⟨p, L, M⟩ 0 0))) := (G2.trans g2).put opg
        refine k ⟨p, L, M⟩ I2 _ G4 ⟨0, 0, _, _, ⟨?_, ?_, ?_, ?_, npL, nMp.symm, nML.symm, upd_same, by rw [upd_ne npL.symm]; exact ow3.at_, by rw [upd_ne nMp]; exact owM.at_⟩, Int.le_refl 0, Int.le_refl 0, Int.le_refl 0, hg, hl2⟩
        · exact G4.sub
        · exact op3.ni
        · exact ow3.ni
        · exact owM.ni
end
end Nw

namespace Nw
open PySem PySem.Spec PyProof.Rows L2
/-! ### a pick; what isinstance says of an error -/
abbrev sp_l_next (K : PySem.W.Frag) : Sp := spNext
abbrev sp_l_begun (K : PySem.W.Frag) : Sp := spBegun K
def sp_l_pick (K : PySem.W.Frag) : Sp := fun vs H Q _ => ∃ (I : Hp) (D : DA) (n : Nat) (v : V), vs = [.ref D.d, v] ∧ Drw D n I H ∧ n < lim ∧
  ((∃ p xs, v = .ref p ∧ ¬ TD D p ∧ H p = some (.lst xs) ∧ xs ≠ [] ∧ xs.length ≤ 1000000 ∧ ∀ (j : Nat) x H', xs[j]? = some x → Grow (TD D) I H I H' → Drw D (n + 1) I H' → Q x H') ∨
   (∃ l, v = .str (mk l) ∧ l ≠ [] ∧ l.length ≤ 1000000 ∧ ∀ (j : Nat) c H', l[j]? = some c → Grow (TD D) I H I H' → Drw D (n + 1) I H' → Q (.str (sg c)) H'))
theorem atI_of {α : Type} {xs : List α} {r : Int} (h0 : 0 ≤ r) (h1 : r < xs.length) : ∃ x, xs[r.toNat]? = some x ∧ atI xs r = some x := by
  have hlt : r.toNat < xs.length := by omega
  refine ⟨xs[r.toNat], List.getElem?_eq_getElem hlt, ?_⟩
  rw [atI_nat' (j := r.toNat) (by omega)]
  exact List.getElem?_eq_getElem hlt
def marksV (i : Nat) : List V := (List.range 16).map fun j => .bl (decide (j = i))
def sp_l_marks (K : PySem.W.Frag) : Sp := fun vs H Q _ => ∃ (I : Hp) (v : V) (i : Nat), vs = [v] ∧ isEx K I v i ∧ i < 16 ∧ Same I H ∧ ∀ q I' H', Grow No I H I' H' → I' q = some (.lst (marksV i)) → Q (.ref q) H'
def sp_l_right (K : PySem.W.Frag) : Sp := fun vs H Q _ => ∃ (I : Hp) (v : V) (i : Nat), vs = [v, .int i] ∧ isEx K I v i ∧ i < 16 ∧ Same I H ∧ ∀ I' H', Grow No I H I' H' → Q (.bl true) H'
def marksD (i : Nat) : PyData := .list ((List.range 16).map fun j => .bool (decide (j = i)))
theorem dps_marks {K : PySem.W.Frag} {H : Hp} {i : Nat} : ∀ l : List Nat, DpAll K H (l.map fun j => .bl (decide (j = i))) (l.map fun j => .bool (decide (j = i)))
  | [] => .nil
  | j :: l => .cons (.bl _) (dps_marks l)
theorem lay_marks (i : Nat) : (marksD i).canLay0 = true := rfl
theorem eqD_marks {K : PySem.W.Frag} {H : Hp} {q L : Addr} {i : Nat} {Q : VK} (h1 : H q = some (.lst (marksV i))) (h2 : H L = some (.lst (marksV i))) (k : Q (.bl true) H) : rEqD K (.ref q) (.ref L) H Q := by
  refine ⟨marksD i, marksD i, .lst (SqL.of h1) (dps_marks _), .lst (SqL.of h2) (dps_marks _), ?_, ?_, ?_⟩
  · rfl
  · rfl
  · rw [SeqAt.eqv_refl _ (lay_marks i)]
    exact k
theorem bools_eq {I : Hp} : ∀ {vs : List V} {bs : List Bool}, Paired (Rep.is I) vs bs → vs = bs.map V.bl
  | _, _, .nil => rfl
  | _, _, .cons h t => by
    have e : _ = V.bl _ := h
    rw [List.map_cons, e, bools_eq t]
section
variable {P : Program} {w : World} {K : PySem.W.Frag} {mg : Str → Option Value} {base : Heap}
theorem ok_l_pick (T : Txt K mg) (F : FnAt K "_law_pick" "_law_pick" s_l_pick (He.ga K "_law_pick")) (G_l_next : Ok P w K mg base CX0 1 (He.ga K "_law_next") ["_law_draw", "_law_many"] (sp_l_next K)) : Ok P w K mg base CX0 2 (He.ga K "_law_pick") ["_law_draw", "_law_some"] (sp_l_pick K) := by
  refine ok_of F sc_l_pick (fun _ _ _ _ _ _ us hl => match us, hl with | [_, _], _ => rfl) (fun vs H Q E h => ?_) (fun cdv A outer s H vs Q E hr h => ?_)
  · obtain ⟨_, _, _, _, rfl, _⟩ := h
    rfl
  · obtain ⟨I, D, n, v, rfl, dr, hn, k⟩ := h
    refine ⟨_, (pss_one (ps_ret (pe_ix ix_seq (pv 1) (pe_callC G_l_next (hr.mono (by decide)) T.g__law_next (pa_cons (pv 0) (pa_cons (pe_callB call_len (by rfl) T.b_len (by decide +kernel) (pa_cons (pv 1) pa_nil)) pa_nil))) (fun _ _ => rfl)))), ?_⟩
    rcases k with ⟨p, xs, rfl, ht, hp, hne, hz, k⟩ | ⟨l, rfl, hne, hz, k⟩
    · have hpos : 0 < xs.length := List.length_pos_iff.mpr hne
      refine ⟨_, rfl, _, rfl, _, rfl, _, _, rfl, .inl ⟨xs, SqL.of hp, rfl⟩, I, D, n, _, rfl, dr, by omega, by omega, hn, fun r H' h0 h1 g d => ?_⟩
      obtain ⟨x, e1, e2⟩ := atI_of h0 h1
      exact .inl ⟨p, xs, r, x, rfl, rfl, SqL.of (g.keep p _ ht hp), e2, k _ x H' e1 g d⟩
    · have hpos : 0 < l.length := List.length_pos_iff.mpr hne
      refine ⟨_, rfl, _, rfl, _, rfl, _, _, rfl, ⟨by rw [mk_len, sizeLine_eq]; omega, (mk_len l).symm⟩, I, D, n, _, rfl, dr, by omega, by omega, hn, fun r H' h0 h1 g d => ?_⟩
      obtain ⟨x, e1, e2⟩ := atI_of h0 h1
      exact .inr (.inr ⟨mk l, r, x, rfl, rfl, by rw [mk_len, sizeLine_eq]; omega, by rw [mk_cps]; exact e2, k _ x H' e1 g d⟩)
theorem ok_l_marks (T : Txt K mg) (F : FnAt K "_law_marks" "_law_marks" s_l_marks (He.ga K "_law_marks"))  : Ok P w K mg base CX0 1 (He.ga K "_law_marks") ["_law_e"] (sp_l_marks K) := by
  refine ok_of F sc_l_marks (fun _ _ _ _ _ _ us hl => match us, hl with | [_], _ => rfl) (fun vs H Q E h => ?_) (fun cdv A outer s H vs Q E hr h => ?_)
  · obtain ⟨_, _, _, rfl, _⟩ := h
    rfl
  · obtain ⟨I, v, i, rfl, ⟨a, d, rfl, e1, e2⟩, hi, sb, k⟩ := h
    refine ⟨_, (pss_cons (ps_set (i := 1) sc_l_marks.nd rfl (Or.inl rfl) (pe_lst (pa_cons (pe_callB call_isV (by rfl) T.b_isinstance (by decide +kernel) (pa_cons (pv 0) (pa_cons (pe_gref T.g_NoRow) pa_nil))) (pa_cons (pe_callB call_isV (by rfl) T.b_isinstance (by decide +kernel) (pa_cons (pv 0) (pa_cons (pe_gref T.g_NoMoment) pa_nil))) (pa_cons (pe_callB call_isV (by rfl) T.b_isinstance (by decide +kernel) (pa_cons (pv 0) (pa_cons (pe_gref T.g_NoRides) pa_nil))) (pa_cons (pe_callB call_isV (by rfl) T.b_isinstance (by decide +kernel) (pa_cons (pv 0) (pa_cons (pe_gref T.g_NoTable) pa_nil))) pa_nil))))))
      (pss_cons (ps_set (i := 1) sc_l_marks.nd rfl (Or.inl rfl) (pe_op op_cat (pv 1) (pe_lst (pa_cons (pe_callB call_isV (by rfl) T.b_isinstance (by decide +kernel) (pa_cons (pv 0) (pa_cons (pe_gref T.g_NoLink) pa_nil))) (pa_cons (pe_callB call_isV (by rfl) T.b_isinstance (by decide +kernel) (pa_cons (pv 0) (pa_cons (pe_gref T.g_NoPlan) pa_nil))) (pa_cons (pe_callB call_isV (by rfl) T.b_isinstance (by decide +kernel) (pa_cons (pv 0) (pa_cons (pe_gref T.g_NoMirror) pa_nil))) (pa_cons (pe_callB call_isV (by rfl) T.b_isinstance (by decide +kernel) (pa_cons (pv 0) (pa_cons (pe_gref T.g_NoFacts) pa_nil))) pa_nil)))))))
      (pss_cons (ps_set (i := 1) sc_l_marks.nd rfl (Or.inl rfl) (pe_op op_cat (pv 1) (pe_lst (pa_cons (pe_callB call_isV (by rfl) T.b_isinstance (by decide +kernel) (pa_cons (pv 0) (pa_cons (pe_gref T.g_NoSeen) pa_nil))) (pa_cons (pe_callB call_isV (by rfl) T.b_isinstance (by decide +kernel) (pa_cons (pv 0) (pa_cons (pe_gref T.g_Clash) pa_nil))) (pa_cons (pe_callB call_isV (by rfl) T.b_isinstance (by decide +kernel) (pa_cons (pv 0) (pa_cons (pe_gref T.g_NoNet) pa_nil))) (pa_cons (pe_callB call_isV (by rfl) T.b_isinstance (by decide +kernel) (pa_cons (pv 0) (pa_cons (pe_gref T.g_NoProcess) pa_nil))) pa_nil)))))))
      (pss_cons (ps_set (i := 1) sc_l_marks.nd rfl (Or.inl rfl) (pe_op op_cat (pv 1) (pe_lst (pa_cons (pe_callB call_isV (by rfl) T.b_isinstance (by decide +kernel) (pa_cons (pv 0) (pa_cons (pe_gref T.g_NoChannel) pa_nil))) (pa_cons (pe_callB call_isV (by rfl) T.b_isinstance (by decide +kernel) (pa_cons (pv 0) (pa_cons (pe_gref T.g_NoMessage) pa_nil))) (pa_cons (pe_callB call_isV (by rfl) T.b_isinstance (by decide +kernel) (pa_cons (pv 0) (pa_cons (pe_gref T.g_NoText) pa_nil))) pa_nil))))))
      (pss_one (ps_ret (pe_op op_cat (pv 1) (pe_lst (pa_cons (pe_callB call_isV (by rfl) T.b_isinstance (by decide +kernel) (pa_cons (pv 0) (pa_cons (pe_gref T.g_TooMany) pa_nil))) pa_nil))))))))), ?_⟩
    have hk := T.kita
    have up : ∀ {I' H' : Hp}, Grow No I H I' H' → H' a = some (ExV (.ref (exA K i)) d a) ∧ ∀ dx, d = some dx → ∃ fs, H' dx = some (.xd fs) := fun g => ⟨g.sub _ _ (g.view _ _ e1), fun dx z => let ⟨fs, q⟩ := e2 dx z; ⟨fs, g.sub _ _ (g.view _ _ q)⟩⟩
    have g0 : Grow No I H I H := Grow.refl sb
    have u0 := up g0
    refine ⟨_, rfl, a, _, d, _, _, _, rfl, u0.1, u0.2, hk.f i hi, .own (exA K 0), hk.k i 0 hi (by decide), ?_⟩
    refine ⟨_, rfl, a, _, d, _, _, _, rfl, u0.1, u0.2, hk.f i hi, .own (exA K 1), hk.k i 1 hi (by decide), ?_⟩
    refine ⟨_, rfl, a, _, d, _, _, _, rfl, u0.1, u0.2, hk.f i hi, .own (exA K 2), hk.k i 2 hi (by decide), ?_⟩
    refine ⟨_, rfl, a, _, d, _, _, _, rfl, u0.1, u0.2, hk.f i hi, .own (exA K 3), hk.k i 3 hi (by decide), ?_⟩
    refine ⟨(by show 4 ≤ sizeLine; decide), fun p0 hp0 => ?_⟩
    have g1 : Grow No I H (upd I p0 (.lst [V.bl (decide (0 = i)), V.bl (decide (1 = i)), V.bl (decide (2 = i)), V.bl (decide (3 = i))])) (upd H p0 (.lst [V.bl (decide (0 = i)), V.bl (decide (1 = i)), V.bl (decide (2 = i)), V.bl (decide (3 = i))])) := g0.trans (Grow.new g0.sub hp0)
    have q1 : upd I p0 (.lst [V.bl (decide (0 = i)), V.bl (decide (1 = i)), V.bl (decide (2 = i)), V.bl (decide (3 = i))]) p0 = some (.lst [V.bl (decide (0 = i)), V.bl (decide (1 = i)), V.bl (decide (2 = i)), V.bl (decide (3 = i))]) := upd_same
    revert g1 q1
    generalize upd I p0 (.lst [V.bl (decide (0 = i)), V.bl (decide (1 = i)), V.bl (decide (2 = i)), V.bl (decide (3 = i))]) = I1
    generalize upd H p0 (.lst [V.bl (decide (0 = i)), V.bl (decide (1 = i)), V.bl (decide (2 = i)), V.bl (decide (3 = i))]) = H1
    intro g1 q1
    have u1 := up g1
    refine ⟨_, rfl, _, rfl, a, _, d, _, _, _, rfl, u1.1, u1.2, hk.f i hi, .own (exA K 4), hk.k i 4 hi (by decide), ?_⟩
    refine ⟨_, rfl, a, _, d, _, _, _, rfl, u1.1, u1.2, hk.f i hi, .own (exA K 5), hk.k i 5 hi (by decide), ?_⟩
    refine ⟨_, rfl, a, _, d, _, _, _, rfl, u1.1, u1.2, hk.f i hi, .own (exA K 6), hk.k i 6 hi (by decide), ?_⟩
    refine ⟨_, rfl, a, _, d, _, _, _, rfl, u1.1, u1.2, hk.f i hi, .own (exA K 7), hk.k i 7 hi (by decide), ?_⟩
    refine ⟨(by show 4 ≤ sizeLine; decide), fun p1 hp1 => ?_⟩
    have g2 : Grow No I H (upd I1 p1 (.lst [V.bl (decide (4 = i)), V.bl (decide (5 = i)), V.bl (decide (6 = i)), V.bl (decide (7 = i))])) (upd H1 p1 (.lst [V.bl (decide (4 = i)), V.bl (decide (5 = i)), V.bl (decide (6 = i)), V.bl (decide (7 = i))])) := g1.trans (Grow.new g1.sub hp1)
    have q2 : upd I1 p1 (.lst [V.bl (decide (4 = i)), V.bl (decide (5 = i)), V.bl (decide (6 = i)), V.bl (decide (7 = i))]) p1 = some (.lst [V.bl (decide (4 = i)), V.bl (decide (5 = i)), V.bl (decide (6 = i)), V.bl (decide (7 = i))]) := upd_same
    have r2 : upd I1 p1 (.lst [V.bl (decide (4 = i)), V.bl (decide (5 = i)), V.bl (decide (6 = i)), V.bl (decide (7 = i))]) p0 = some (.lst [V.bl (decide (0 = i)), V.bl (decide (1 = i)), V.bl (decide (2 = i)), V.bl (decide (3 = i))]) := (Grow.new (T := No) (o := .lst [V.bl (decide (4 = i)), V.bl (decide (5 = i)), V.bl (decide (6 = i)), V.bl (decide (7 = i))]) g1.sub hp1).view _ _ q1
    revert g2 q2 r2
    generalize upd I1 p1 (.lst [V.bl (decide (4 = i)), V.bl (decide (5 = i)), V.bl (decide (6 = i)), V.bl (decide (7 = i))]) = I2
    generalize upd H1 p1 (.lst [V.bl (decide (4 = i)), V.bl (decide (5 = i)), V.bl (decide (6 = i)), V.bl (decide (7 = i))]) = H2
    intro g2 q2 r2
    have u2 := up g2
    refine ⟨p0, p1, _, _, rfl, rfl, g2.sub _ _ r2, g2.sub _ _ q2, (by show 8 ≤ sizeLine; decide), fun c1 hc1 => ?_⟩
    have g3 : Grow No I H (upd I2 c1 (.lst [V.bl (decide (0 = i)), V.bl (decide (1 = i)), V.bl (decide (2 = i)), V.bl (decide (3 = i)), V.bl (decide (4 = i)), V.bl (decide (5 = i)), V.bl (decide (6 = i)), V.bl (decide (7 = i))])) (upd H2 c1 (.lst [V.bl (decide (0 = i)), V.bl (decide (1 = i)), V.bl (decide (2 = i)), V.bl (decide (3 = i)), V.bl (decide (4 = i)), V.bl (decide (5 = i)), V.bl (decide (6 = i)), V.bl (decide (7 = i))])) := g2.trans (Grow.new g2.sub hc1)
    have q3 : upd I2 c1 (.lst [V.bl (decide (0 = i)), V.bl (decide (1 = i)), V.bl (decide (2 = i)), V.bl (decide (3 = i)), V.bl (decide (4 = i)), V.bl (decide (5 = i)), V.bl (decide (6 = i)), V.bl (decide (7 = i))]) c1 = some (.lst [V.bl (decide (0 = i)), V.bl (decide (1 = i)), V.bl (decide (2 = i)), V.bl (decide (3 = i)), V.bl (decide (4 = i)), V.bl (decide (5 = i)), V.bl (decide (6 = i)), V.bl (decide (7 = i))]) := upd_same
    revert g3 q3
    generalize upd I2 c1 (.lst [V.bl (decide (0 = i)), V.bl (decide (1 = i)), V.bl (decide (2 = i)), V.bl (decide (3 = i)), V.bl (decide (4 = i)), V.bl (decide (5 = i)), V.bl (decide (6 = i)), V.bl (decide (7 = i))]) = I3
    generalize hG3 : upd H2 c1 (.lst [V.bl (decide (0 = i)), V.bl (decide (1 = i)), V.bl (decide (2 = i)), V.bl (decide (3 = i)), V.bl (decide (4 = i)), V.bl (decide (5 = i)), V.bl (decide (6 = i)), V.bl (decide (7 = i))]) = H3
    intro g3 q3
    have hG3' : upd H2 c1 (.lst ([V.bl (decide (0 = i)), V.bl (decide (1 = i)), V.bl (decide (2 = i)), V.bl (decide (3 = i))] ++ [V.bl (decide (4 = i)), V.bl (decide (5 = i)), V.bl (decide (6 = i)), V.bl (decide (7 = i))])) = H3 := hG3
    rw [hG3']
    have u3 := up g3
    refine ⟨_, rfl, _, rfl, a, _, d, _, _, _, rfl, u3.1, u3.2, hk.f i hi, .own (exA K 8), hk.k i 8 hi (by decide), ?_⟩
    refine ⟨_, rfl, a, _, d, _, _, _, rfl, u3.1, u3.2, hk.f i hi, .own (exA K 9), hk.k i 9 hi (by decide), ?_⟩
    refine ⟨_, rfl, a, _, d, _, _, _, rfl, u3.1, u3.2, hk.f i hi, .own (exA K 10), hk.k i 10 hi (by decide), ?_⟩
    refine ⟨_, rfl, a, _, d, _, _, _, rfl, u3.1, u3.2, hk.f i hi, .own (exA K 11), hk.k i 11 hi (by decide), ?_⟩
    refine ⟨(by show 4 ≤ sizeLine; decide), fun p2 hp2 => ?_⟩
    have g4 : Grow No I H (upd I3 p2 (.lst [V.bl (decide (8 = i)), V.bl (decide (9 = i)), V.bl (decide (10 = i)), V.bl (decide (11 = i))])) (upd H3 p2 (.lst [V.bl (decide (8 = i)), V.bl (decide (9 = i)), V.bl (decide (10 = i)), V.bl (decide (11 = i))])) := g3.trans (Grow.new g3.sub hp2)
    have q4 : upd I3 p2 (.lst [V.bl (decide (8 = i)), V.bl (decide (9 = i)), V.bl (decide (10 = i)), V.bl (decide (11 = i))]) p2 = some (.lst [V.bl (decide (8 = i)), V.bl (decide (9 = i)), V.bl (decide (10 = i)), V.bl (decide (11 = i))]) := upd_same
    have r4 : upd I3 p2 (.lst [V.bl (decide (8 = i)), V.bl (decide (9 = i)), V.bl (decide (10 = i)), V.bl (decide (11 = i))]) c1 = some (.lst [V.bl (decide (0 = i)), V.bl (decide (1 = i)), V.bl (decide (2 = i)), V.bl (decide (3 = i)), V.bl (decide (4 = i)), V.bl (decide (5 = i)), V.bl (decide (6 = i)), V.bl (decide (7 = i))]) := (Grow.new (T := No) (o := .lst [V.bl (decide (8 = i)), V.bl (decide (9 = i)), V.bl (decide (10 = i)), V.bl (decide (11 = i))]) g3.sub hp2).view _ _ q3
    revert g4 q4 r4
    generalize upd I3 p2 (.lst [V.bl (decide (8 = i)), V.bl (decide (9 = i)), V.bl (decide (10 = i)), V.bl (decide (11 = i))]) = I4
    generalize upd H3 p2 (.lst [V.bl (decide (8 = i)), V.bl (decide (9 = i)), V.bl (decide (10 = i)), V.bl (decide (11 = i))]) = H4
    intro g4 q4 r4
    have u4 := up g4
    refine ⟨c1, p2, _, _, rfl, rfl, g4.sub _ _ r4, g4.sub _ _ q4, (by show 12 ≤ sizeLine; decide), fun c2 hc2 => ?_⟩
    have g5 : Grow No I H (upd I4 c2 (.lst [V.bl (decide (0 = i)), V.bl (decide (1 = i)), V.bl (decide (2 = i)), V.bl (decide (3 = i)), V.bl (decide (4 = i)), V.bl (decide (5 = i)), V.bl (decide (6 = i)), V.bl (decide (7 = i)), V.bl (decide (8 = i)), V.bl (decide (9 = i)), V.bl (decide (10 = i)), V.bl (decide (11 = i))])) (upd H4 c2 (.lst [V.bl (decide (0 = i)), V.bl (decide (1 = i)), V.bl (decide (2 = i)), V.bl (decide (3 = i)), V.bl (decide (4 = i)), V.bl (decide (5 = i)), V.bl (decide (6 = i)), V.bl (decide (7 = i)), V.bl (decide (8 = i)), V.bl (decide (9 = i)), V.bl (decide (10 = i)), V.bl (decide (11 = i))])) := g4.trans (Grow.new g4.sub hc2)
    have q5 : upd I4 c2 (.lst [V.bl (decide (0 = i)), V.bl (decide (1 = i)), V.bl (decide (2 = i)), V.bl (decide (3 = i)), V.bl (decide (4 = i)), V.bl (decide (5 = i)), V.bl (decide (6 = i)), V.bl (decide (7 = i)), V.bl (decide (8 = i)), V.bl (decide (9 = i)), V.bl (decide (10 = i)), V.bl (decide (11 = i))]) c2 = some (.lst [V.bl (decide (0 = i)), V.bl (decide (1 = i)), V.bl (decide (2 = i)), V.bl (decide (3 = i)), V.bl (decide (4 = i)), V.bl (decide (5 = i)), V.bl (decide (6 = i)), V.bl (decide (7 = i)), V.bl (decide (8 = i)), V.bl (decide (9 = i)), V.bl (decide (10 = i)), V.bl (decide (11 = i))]) := upd_same
    revert g5 q5
    generalize upd I4 c2 (.lst [V.bl (decide (0 = i)), V.bl (decide (1 = i)), V.bl (decide (2 = i)), V.bl (decide (3 = i)), V.bl (decide (4 = i)), V.bl (decide (5 = i)), V.bl (decide (6 = i)), V.bl (decide (7 = i)), V.bl (decide (8 = i)), V.bl (decide (9 = i)), V.bl (decide (10 = i)), V.bl (decide (11 = i))]) = I5
    generalize hG5 : upd H4 c2 (.lst [V.bl (decide (0 = i)), V.bl (decide (1 = i)), V.bl (decide (2 = i)), V.bl (decide (3 = i)), V.bl (decide (4 = i)), V.bl (decide (5 = i)), V.bl (decide (6 = i)), V.bl (decide (7 = i)), V.bl (decide (8 = i)), V.bl (decide (9 = i)), V.bl (decide (10 = i)), V.bl (decide (11 = i))]) = H5
    intro g5 q5
    have hG5' : upd H4 c2 (.lst ([V.bl (decide (0 = i)), V.bl (decide (1 = i)), V.bl (decide (2 = i)), V.bl (decide (3 = i)), V.bl (decide (4 = i)), V.bl (decide (5 = i)), V.bl (decide (6 = i)), V.bl (decide (7 = i))] ++ [V.bl (decide (8 = i)), V.bl (decide (9 = i)), V.bl (decide (10 = i)), V.bl (decide (11 = i))])) = H5 := hG5
    rw [hG5']
    have u5 := up g5
    refine ⟨_, rfl, _, rfl, a, _, d, _, _, _, rfl, u5.1, u5.2, hk.f i hi, .own (exA K 12), hk.k i 12 hi (by decide), ?_⟩
    refine ⟨_, rfl, a, _, d, _, _, _, rfl, u5.1, u5.2, hk.f i hi, .own (exA K 13), hk.k i 13 hi (by decide), ?_⟩
    refine ⟨_, rfl, a, _, d, _, _, _, rfl, u5.1, u5.2, hk.f i hi, .own (exA K 14), hk.k i 14 hi (by decide), ?_⟩
    refine ⟨(by show 3 ≤ sizeLine; decide), fun p3 hp3 => ?_⟩
    have g6 : Grow No I H (upd I5 p3 (.lst [V.bl (decide (12 = i)), V.bl (decide (13 = i)), V.bl (decide (14 = i))])) (upd H5 p3 (.lst [V.bl (decide (12 = i)), V.bl (decide (13 = i)), V.bl (decide (14 = i))])) := g5.trans (Grow.new g5.sub hp3)
    have q6 : upd I5 p3 (.lst [V.bl (decide (12 = i)), V.bl (decide (13 = i)), V.bl (decide (14 = i))]) p3 = some (.lst [V.bl (decide (12 = i)), V.bl (decide (13 = i)), V.bl (decide (14 = i))]) := upd_same
    have r6 : upd I5 p3 (.lst [V.bl (decide (12 = i)), V.bl (decide (13 = i)), V.bl (decide (14 = i))]) c2 = some (.lst [V.bl (decide (0 = i)), V.bl (decide (1 = i)), V.bl (decide (2 = i)), V.bl (decide (3 = i)), V.bl (decide (4 = i)), V.bl (decide (5 = i)), V.bl (decide (6 = i)), V.bl (decide (7 = i)), V.bl (decide (8 = i)), V.bl (decide (9 = i)), V.bl (decide (10 = i)), V.bl (decide (11 = i))]) := (Grow.new (T := No) (o := .lst [V.bl (decide (12 = i)), V.bl (decide (13 = i)), V.bl (decide (14 = i))]) g5.sub hp3).view _ _ q5
    revert g6 q6 r6
    generalize upd I5 p3 (.lst [V.bl (decide (12 = i)), V.bl (decide (13 = i)), V.bl (decide (14 = i))]) = I6
    generalize upd H5 p3 (.lst [V.bl (decide (12 = i)), V.bl (decide (13 = i)), V.bl (decide (14 = i))]) = H6
    intro g6 q6 r6
    have u6 := up g6
    refine ⟨c2, p3, _, _, rfl, rfl, g6.sub _ _ r6, g6.sub _ _ q6, (by show 15 ≤ sizeLine; decide), fun c3 hc3 => ?_⟩
    have g7 : Grow No I H (upd I6 c3 (.lst [V.bl (decide (0 = i)), V.bl (decide (1 = i)), V.bl (decide (2 = i)), V.bl (decide (3 = i)), V.bl (decide (4 = i)), V.bl (decide (5 = i)), V.bl (decide (6 = i)), V.bl (decide (7 = i)), V.bl (decide (8 = i)), V.bl (decide (9 = i)), V.bl (decide (10 = i)), V.bl (decide (11 = i)), V.bl (decide (12 = i)), V.bl (decide (13 = i)), V.bl (decide (14 = i))])) (upd H6 c3 (.lst [V.bl (decide (0 = i)), V.bl (decide (1 = i)), V.bl (decide (2 = i)), V.bl (decide (3 = i)), V.bl (decide (4 = i)), V.bl (decide (5 = i)), V.bl (decide (6 = i)), V.bl (decide (7 = i)), V.bl (decide (8 = i)), V.bl (decide (9 = i)), V.bl (decide (10 = i)), V.bl (decide (11 = i)), V.bl (decide (12 = i)), V.bl (decide (13 = i)), V.bl (decide (14 = i))])) := g6.trans (Grow.new g6.sub hc3)
    have q7 : upd I6 c3 (.lst [V.bl (decide (0 = i)), V.bl (decide (1 = i)), V.bl (decide (2 = i)), V.bl (decide (3 = i)), V.bl (decide (4 = i)), V.bl (decide (5 = i)), V.bl (decide (6 = i)), V.bl (decide (7 = i)), V.bl (decide (8 = i)), V.bl (decide (9 = i)), V.bl (decide (10 = i)), V.bl (decide (11 = i)), V.bl (decide (12 = i)), V.bl (decide (13 = i)), V.bl (decide (14 = i))]) c3 = some (.lst [V.bl (decide (0 = i)), V.bl (decide (1 = i)), V.bl (decide (2 = i)), V.bl (decide (3 = i)), V.bl (decide (4 = i)), V.bl (decide (5 = i)), V.bl (decide (6 = i)), V.bl (decide (7 = i)), V.bl (decide (8 = i)), V.bl (decide (9 = i)), V.bl (decide (10 = i)), V.bl (decide (11 = i)), V.bl (decide (12 = i)), V.bl (decide (13 = i)), V.bl (decide (14 = i))]) := upd_same
    revert g7 q7
    generalize upd I6 c3 (.lst [V.bl (decide (0 = i)), V.bl (decide (1 = i)), V.bl (decide (2 = i)), V.bl (decide (3 = i)), V.bl (decide (4 = i)), V.bl (decide (5 = i)), V.bl (decide (6 = i)), V.bl (decide (7 = i)), V.bl (decide (8 = i)), V.bl (decide (9 = i)), V.bl (decide (10 = i)), V.bl (decide (11 = i)), V.bl (decide (12 = i)), V.bl (decide (13 = i)), V.bl (decide (14 = i))]) = I7
    generalize hG7 : upd H6 c3 (.lst [V.bl (decide (0 = i)), V.bl (decide (1 = i)), V.bl (decide (2 = i)), V.bl (decide (3 = i)), V.bl (decide (4 = i)), V.bl (decide (5 = i)), V.bl (decide (6 = i)), V.bl (decide (7 = i)), V.bl (decide (8 = i)), V.bl (decide (9 = i)), V.bl (decide (10 = i)), V.bl (decide (11 = i)), V.bl (decide (12 = i)), V.bl (decide (13 = i)), V.bl (decide (14 = i))]) = H7
    intro g7 q7
    have hG7' : upd H6 c3 (.lst ([V.bl (decide (0 = i)), V.bl (decide (1 = i)), V.bl (decide (2 = i)), V.bl (decide (3 = i)), V.bl (decide (4 = i)), V.bl (decide (5 = i)), V.bl (decide (6 = i)), V.bl (decide (7 = i)), V.bl (decide (8 = i)), V.bl (decide (9 = i)), V.bl (decide (10 = i)), V.bl (decide (11 = i))] ++ [V.bl (decide (12 = i)), V.bl (decide (13 = i)), V.bl (decide (14 = i))])) = H7 := hG7
    rw [hG7']
    have u7 := up g7
    refine ⟨_, rfl, _, rfl, a, _, d, _, _, _, rfl, u7.1, u7.2, hk.f i hi, .own (exA K 15), hk.k i 15 hi (by decide), ?_⟩
    refine ⟨(by show 1 ≤ sizeLine; decide), fun p4 hp4 => ?_⟩
    have g8 : Grow No I H (upd I7 p4 (.lst [V.bl (decide (15 = i))])) (upd H7 p4 (.lst [V.bl (decide (15 = i))])) := g7.trans (Grow.new g7.sub hp4)
    have q8 : upd I7 p4 (.lst [V.bl (decide (15 = i))]) p4 = some (.lst [V.bl (decide (15 = i))]) := upd_same
    have r8 : upd I7 p4 (.lst [V.bl (decide (15 = i))]) c3 = some (.lst [V.bl (decide (0 = i)), V.bl (decide (1 = i)), V.bl (decide (2 = i)), V.bl (decide (3 = i)), V.bl (decide (4 = i)), V.bl (decide (5 = i)), V.bl (decide (6 = i)), V.bl (decide (7 = i)), V.bl (decide (8 = i)), V.bl (decide (9 = i)), V.bl (decide (10 = i)), V.bl (decide (11 = i)), V.bl (decide (12 = i)), V.bl (decide (13 = i)), V.bl (decide (14 = i))]) := (Grow.new (T := No) (o := .lst [V.bl (decide (15 = i))]) g7.sub hp4).view _ _ q7
    revert g8 q8 r8
    generalize upd I7 p4 (.lst [V.bl (decide (15 = i))]) = I8
    generalize upd H7 p4 (.lst [V.bl (decide (15 = i))]) = H8
    intro g8 q8 r8
    have u8 := up g8
    refine ⟨c3, p4, _, _, rfl, rfl, g8.sub _ _ r8, g8.sub _ _ q8, (by show 16 ≤ sizeLine; decide), fun c4 hc4 => ?_⟩
    exact k _ _ _ (g8.trans (Grow.new (T := No) (o := .lst [V.bl (decide (0 = i)), V.bl (decide (1 = i)), V.bl (decide (2 = i)), V.bl (decide (3 = i)), V.bl (decide (4 = i)), V.bl (decide (5 = i)), V.bl (decide (6 = i)), V.bl (decide (7 = i)), V.bl (decide (8 = i)), V.bl (decide (9 = i)), V.bl (decide (10 = i)), V.bl (decide (11 = i)), V.bl (decide (12 = i)), V.bl (decide (13 = i)), V.bl (decide (14 = i)), V.bl (decide (15 = i))]) g8.sub hc4)) upd_same
theorem ok_l_right (T : Txt K mg) (F : FnAt K "_law_right" "_law_right" s_l_right (He.ga K "_law_right")) (G_l_marks : Ok P w K mg base CX0 1 (He.ga K "_law_marks") ["_law_e"] (sp_l_marks K)) : Ok P w K mg base CX0 2 (He.ga K "_law_right") ["_law_e", "_law_spot"] (sp_l_right K) := by
  refine ok_of F sc_l_right (fun _ _ _ _ _ _ us hl => match us, hl with | [_, _], _ => rfl) (fun vs H Q E h => ?_) (fun cdv A outer s H vs Q E hr h => ?_)
  · obtain ⟨_, _, _, rfl, _⟩ := h
    rfl
  · obtain ⟨I, v, i, rfl, hx, hi, sb, k⟩ := h
    refine ⟨_, (pss_cons (ps_setLc (i := 2) (own := [("_law_k", 3)]) (g := (gName 3)) rfl sc_l_right.nd rfl rfl (sw_true rfl rfl rfl (by decide +kernel)) (pi_range1 rfl T.b_range (pa_cons pe_int pa_nil)) (blkOk_by (own := [("_law_k", 3)]) (N := n_l_right) (sc := defScope s_l_right) (by decide +kernel)) (fun _ _ _ _ _ => (pg_name (i := 3) sc_l_right.nd rfl (Or.inl rfl))) (fun _ _ _ _ _ => pts_nil) (fun _ _ _ _ _ => (pe_cmpR op_eq (pv 3) (pv 1) (nomark _))))
      (pss_one (ps_ret (pe_and (pe_callB call_isV (by rfl) T.b_isinstance (by decide +kernel) (pa_cons (pv 0) (pa_cons (pe_gref T.g_OrderError) pa_nil))) (pe_and (pe_callB call_isV (by rfl) T.b_isinstance (by decide +kernel) (pa_cons (pv 0) (pa_cons (pe_bltn (v := .ty "ValueError") rfl T.b_ValueError (by decide +kernel) rfl) pa_nil))) (pe_one (pe_cmpR (op_eqD hr.units) (pe_callC G_l_marks (hr.mono (by decide)) T.g__law_marks (pa_cons (pv 0) pa_nil)) (pv 2) (nomark _)))))))), ?_⟩
    have hk := T.kita
    refine ⟨_, rfl, by decide, by decide, fun L hL => ?_⟩
    refine lc_pure (β := Bool) (walk_range (lo := 0) (n := 16)) (List.range 16) (fun j => some (decide (j = i))) List.length_range sb hL (by decide) (fun _ _ _ => trivial) ?_ ?_
    · rintro m j x I' H' H'' hm g ⟨rfl, rfl⟩ Kn Ky kn ky
      have hmj : m = j := by
        have z := (List.getElem?_eq_some_iff.mp hm).2
        rw [List.getElem_range] at z
        exact z
      subst hmj
      refine ⟨rfl, lc_yes ⟨_, rfl, _, rfl, rfl, ?_⟩⟩
      refine ky (decide (m = i)) rfl _ _ _ (Grow.refl g.sub) (congrArg V.bl ?_)
      rw [Bool.eq_iff_iff, decide_eq_true_iff, decide_eq_true_iff]
      constructor
      · intro z
        have := V.int.inj z
        omega
      · intro z
        subst z
        show V.int (0 + (m : Int)) = V.int m
        rw [Int.zero_add]
    intro I1 H1 vs1 g1 ow1 hp1
    have e1 : vs1 = marksV i := by
      have z := bools_eq hp1
      rw [List.filterMap_eq_map', List.map_map] at z
      exact z
    subst e1
    have g2 := g1.give ow1
    have hL2 : upd I1 L (.lst (marksV i)) L = some (.lst (marksV i)) := upd_same
    revert g2 hL2
    generalize upd I1 L (.lst (marksV i)) = I2
    intro g2 hL2
    clear g1 ow1 hp1
    have h2 := hx.up g2.view
    refine ⟨_, rfl, ?_⟩
    obtain ⟨a, d, rfl, e1, e2⟩ := id h2
    have e2' : ∀ dx, d = some dx → ∃ fs, H1 dx = some (.xd fs) := fun dx z => let ⟨fs, q⟩ := e2 dx z; ⟨fs, g2.sub _ _ q⟩
    refine ⟨a, _, d, _, _, true, rfl, g2.sub _ _ e1, e2', hk.f i hi, .own (He.ga K "OrderError"), hk.o i hi, true, rfl, iteT ?_⟩
    refine ⟨_, rfl, a, _, d, .ty "ValueError", _, true, rfl, g2.sub _ _ e1, e2', hk.f i hi, .ty _, hk.v i hi, true, rfl, iteT ?_⟩
    refine ⟨_, rfl, I2, _, i, rfl, h2, hi, g2.sub, fun q I3 H3 g3 hq => ⟨_, rfl, ?_⟩⟩
    exact eqD_marks (g3.sub _ _ hq) (g3.sub _ _ (g3.view _ _ hL2)) (k _ _ (g2.trans g3))
end
end Nw

namespace Nw
open PySem PySem.Spec PyProof.Rows L2
/-! ### errors made as values, and told apart; their fields -/
/-- a pair: an error of the i-th class, and i -/
def isEp (K : PySem.W.Frag) (I : Hp) (v : V) (i : Nat) : Prop := ∃ t e, v = .ref t ∧ I t = some (.tup [e, .int i]) ∧ isEx K I e i
theorem isEp.up {K : PySem.W.Frag} {I I' : Hp} {v : V} {i : Nat} (h : isEp K I v i) (e : Same I I') : isEp K I' v i := let ⟨t, x, h1, h2, h3⟩ := h; ⟨t, x, h1, e _ _ h2, h3.up e⟩
theorem ep_up {K : PySem.W.Frag} {I I' : Hp} {vs : List V} {cs : List Nat} (e : Same I I') (h : Paired (isEp K I) vs cs) : Paired (isEp K I') vs cs := Paired.mono' (fun _ _ z => z.up e) h
theorem ep_snoc {K : PySem.W.Frag} {I : Hp} {v : V} {c : Nat} : ∀ {vs : List V} {cs : List Nat}, Paired (isEp K I) vs cs → isEp K I v c → Paired (isEp K I) (vs ++ [v]) (cs ++ [c])
  | _, _, .nil, h => .cons h .nil
  | _, _, .cons x t, h => .cons x (ep_snoc t h)
theorem ep_plain {K : PySem.W.Frag} {I H : Hp} {vs : List V} {cs : List Nat} {a t C : Addr} {c : Nat} {z : Int} (sub : Same I H) (es : Paired (isEp K I) vs cs) (ha : H a = none) (ht : upd H a (ExV (.ref C) none a) t = none) (hC : exA K c = C := by rfl) (hz : (c : Int) = z := by rfl) :
    ∃ J, Grow No I H J (upd (upd H a (ExV (.ref C) none a)) t (.tup [.ref a, .int z])) ∧ Paired (isEp K J) (vs ++ [.ref t]) (cs ++ [c]) := by
  subst hC
  subst hz
  have g1 : Grow No I H (upd I a (ExV (.ref (exA K c)) none a)) (upd H a (ExV (.ref (exA K c)) none a)) := Grow.new sub ha
  have g2 : Grow No _ _ (upd (upd I a (ExV (.ref (exA K c)) none a)) t (.tup [.ref a, .int c])) (upd (upd H a (ExV (.ref (exA K c)) none a)) t (.tup [.ref a, .int c])) := Grow.new g1.sub ht
  refine ⟨_, g1.trans g2, ep_snoc (ep_up (g1.view.trans g2.view) es) ⟨t, _, rfl, upd_same, a, none, rfl, g2.view _ _ upd_same, fun _ z => nomatch z⟩⟩
theorem ex_own {I H : Hp} {a dx C : Addr} {fs : List (Str × V)} (sub : Same I H) (hd : H dx = none) (ha : upd H dx (.xd fs) a = none) : ∃ J, Grow No I H J (upd (upd H dx (.xd fs)) a (ExV (.ref C) (some dx) a)) := by
  have g1 : Grow No I H (upd I dx (.xd fs)) (upd H dx (.xd fs)) := Grow.new sub hd
  have g2 : Grow No _ _ (upd (upd I dx (.xd fs)) a (ExV (.ref C) (some dx) a)) (upd (upd H dx (.xd fs)) a (ExV (.ref C) (some dx) a)) := Grow.new g1.sub ha
  exact ⟨_, g1.trans g2⟩
theorem at_dx {H : Hp} {a dx : Addr} {fs : List (Str × V)} {o : HO} (ha : upd H dx (.xd fs) a = none) : upd (upd H dx (.xd fs)) a o dx = some (.xd fs) := by
  rw [upd_ne fun z => by rw [← z, upd_same] at ha; cases ha]
  exact upd_same
theorem ep_own {K : PySem.W.Frag} {I H : Hp} {vs : List V} {cs : List Nat} {a t dx C : Addr} {fs : List (Str × V)} {c : Nat} {z : Int} (sub : Same I H) (es : Paired (isEp K I) vs cs) (hd : H dx = none) (ha : upd H dx (.xd fs) a = none) (ht : upd (upd H dx (.xd fs)) a (ExV (.ref C) (some dx) a) t = none) (hC : exA K c = C := by rfl) (hz : (c : Int) = z := by rfl) :
    ∃ J, Grow No I H J (upd (upd (upd H dx (.xd fs)) a (ExV (.ref C) (some dx) a)) t (.tup [.ref a, .int z])) ∧ Paired (isEp K J) (vs ++ [.ref t]) (cs ++ [c]) := by
  subst hC
  subst hz
  have g1 : Grow No I H (upd I dx (.xd fs)) (upd H dx (.xd fs)) := Grow.new sub hd
  have g2 : Grow No _ _ (upd (upd I dx (.xd fs)) a (ExV (.ref (exA K c)) (some dx) a)) (upd (upd H dx (.xd fs)) a (ExV (.ref (exA K c)) (some dx) a)) := Grow.new g1.sub ha
  have g3 : Grow No _ _ (upd (upd (upd I dx (.xd fs)) a (ExV (.ref (exA K c)) (some dx) a)) t (.tup [.ref a, .int c])) (upd (upd (upd H dx (.xd fs)) a (ExV (.ref (exA K c)) (some dx) a)) t (.tup [.ref a, .int c])) := Grow.new g2.sub ht
  refine ⟨_, g1.trans (g2.trans g3), ep_snoc (ep_up (g1.view.trans (g2.view.trans g3.view)) es) ⟨t, _, rfl, upd_same, a, some dx, rfl, g3.view _ _ upd_same, fun dx' z => ?_⟩⟩
  cases z
  exact ⟨fs, g3.view _ _ (at_dx (g1.sub.free ha))⟩
def sp_l_plain_right (K : PySem.W.Frag) : Sp := fun vs H Q _ => ∃ (I : Hp) (z : Str), vs = [.str z] ∧ Same I H ∧ ∀ I' H', Grow No I H I' H' → Q (.bl true) H'
/-- data that repr shows, or {} -/
def goodV (K : PySem.W.Frag) (I : Hp) (v : V) : Prop := (∃ d : PyData, Dp K I v d ∧ SeqAt.shaped d = true ∧ d.canLay0 = true ∧ Shows d ∧ Shows (.list [d, d])) ∨ ∃ b, v = .ref b ∧ I b = some (.dK [])
theorem goodV.up {K : PySem.W.Frag} {I I' : Hp} {v : V} (h : goodV K I v) (e : Same I I') : goodV K I' v := h.imp (fun ⟨d, h1, h2⟩ => ⟨d, Nw.Dp.up h1 e, h2⟩) fun ⟨b, h1, h2⟩ => ⟨b, h1, e _ _ h2⟩
/-- what repr says of it, and of a list of it twice; it is equal to itself -/
theorem good_reads {K : PySem.W.Frag} {I : Hp} {v : V} (h : goodV K I v) : ∃ t u : Str, (∀ (H : Hp) (Q : VK), Same I H → Q (.str t) H → rReprY K [v] H Q) ∧ (∀ (H : Hp) (Q : VK), Same I H → Q (.bl false) H → rNeY K v v H Q) ∧
    ∀ (H : Hp) (Q : VK) (l : Addr), Same I H → l ≠ sysModules → H l = some (.lst [v, v]) → Q (.str u) H → rReprL K [.ref l] H Q := by
  rcases h with ⟨d, hd, hs, hl, s1, s2⟩ | ⟨b, rfl, hb⟩
  · refine ⟨d.shown, (PyData.list [d, d]).shown, fun H Q e q => .inl ⟨v, d, rfl, (Nw.Dp.up hd e), s1.sh, s1.nd, s1.deep, s1.len, q⟩, fun H Q e q => .inl ⟨d, d, (Nw.Dp.up hd e), (Nw.Dp.up hd e), hs, hs, ?_⟩, fun H Q l e _ hl2 q => .inl (.inl ⟨.ref l, .list [d, d], rfl, .lst (SqL.of hl2) (.cons ((Nw.Dp.up hd e)) (.cons ((Nw.Dp.up hd e)) .nil)), s2.sh, s2.nd, s2.deep, s2.len, q⟩)⟩
    rw [SeqAt.eqv_refl _ hl]
    exact q
  · exact ⟨(PyData.dict []).shown, (PyData.list [.dict [], .dict []]).shown, fun H Q e q => .inr ⟨b, rfl, e _ _ hb, q⟩, fun H Q e q => .inr ⟨b, b, [], [], rfl, rfl, e _ _ hb, e _ _ hb, rfl, fun _ z => (nomatch z), q⟩, fun H Q l e hne hl q => .inr ⟨l, b, rfl, hne, hl, e _ _ hb, q⟩⟩
def sp_l_fields_right (K : PySem.W.Frag) : Sp := fun vs H Q _ => ∃ (I : Hp) (v m : V), vs = [v, m] ∧ goodV K I v ∧ goodV K I m ∧ Same I H ∧ ∀ I' H', Grow No I H I' H' → Q (.bl true) H'
section
variable {P : Program} {w : World} {K : PySem.W.Frag} {mg : Str → Option Value} {base : Heap}

theorem ok_l_plain_right (T : Txt K mg) (F : FnAt K "_law_plain_right" "_law_plain_right" s_l_plain_right (He.ga K "_law_plain_right")) (G_l_right : Ok P w K mg base CX0 2 (He.ga K "_law_right") ["_law_e", "_law_spot"] (sp_l_right K)) : Ok P w K mg base CX0 3 (He.ga K "_law_plain_right") ["_law_text"] (sp_l_plain_right K) := by
  refine ok_of F sc_l_plain_right (fun _ _ _ _ _ _ us hl => match us, hl with | [_], _ => rfl) (fun vs H Q E h => ?_) (fun cdv A outer s H vs Q E hr h => ?_)
  · obtain ⟨_, _, rfl, _⟩ := h
    rfl
  · obtain ⟨I, z, rfl, sb, k⟩ := h
    refine ⟨_, (pss_cons (ps_set (i := 1) sc_l_plain_right.nd rfl (Or.inl rfl) (pe_lst (pa_cons (pe_tup (pa_cons (pe_exv (SkE.pmk_own1 PySem.F.excBase_ValueError T.xp_NoRow.1 T.g_NoRow T.xp_NoRow.2.1 (raises_own T.xp_NoRow.2.2.1 T.xp_NoRow.2.2.2) rfl (pv 0))) (pa_cons pe_int pa_nil))) (pa_cons (pe_tup (pa_cons (pe_exv (SkE.pmk_own1 PySem.F.excBase_ValueError T.xp_NoMoment.1 T.g_NoMoment T.xp_NoMoment.2.1 (raises_own T.xp_NoMoment.2.2.1 T.xp_NoMoment.2.2.2) rfl (pv 0))) (pa_cons pe_int pa_nil))) (pa_cons (pe_tup (pa_cons (pe_exv (SkE.pmk_own1 PySem.F.excBase_ValueError T.xp_NoTable.1 T.g_NoTable T.xp_NoTable.2.1 (raises_own T.xp_NoTable.2.2.1 T.xp_NoTable.2.2.2) rfl (pv 0))) (pa_cons pe_int pa_nil))) (pa_cons (pe_tup (pa_cons (pe_exv (SkE.pmk_own1 PySem.F.excBase_ValueError T.xp_NoPlan.1 T.g_NoPlan T.xp_NoPlan.2.1 (raises_own T.xp_NoPlan.2.2.1 T.xp_NoPlan.2.2.2) rfl (pv 0))) (pa_cons pe_int pa_nil))) (pa_cons (pe_tup (pa_cons (pe_exv (SkE.pmk_own1 PySem.F.excBase_ValueError T.xp_NoMirror.1 T.g_NoMirror T.xp_NoMirror.2.1 (raises_own T.xp_NoMirror.2.2.1 T.xp_NoMirror.2.2.2) rfl (pv 0))) (pa_cons pe_int pa_nil))) pa_nil)))))))
      (pss_cons (ps_set (i := 1) sc_l_plain_right.nd rfl (Or.inl rfl) (pe_op op_cat (pv 1) (pe_lst (pa_cons (pe_tup (pa_cons (pe_exv (SkE.pmk_own1 PySem.F.excBase_ValueError T.xp_NoFacts.1 T.g_NoFacts T.xp_NoFacts.2.1 (raises_own T.xp_NoFacts.2.2.1 T.xp_NoFacts.2.2.2) rfl (pv 0))) (pa_cons pe_int pa_nil))) (pa_cons (pe_tup (pa_cons (pe_exv (SkE.pmk_own1 PySem.F.excBase_ValueError T.xp_NoNet.1 T.g_NoNet T.xp_NoNet.2.1 (raises_own T.xp_NoNet.2.2.1 T.xp_NoNet.2.2.2) rfl (pv 0))) (pa_cons pe_int pa_nil))) (pa_cons (pe_tup (pa_cons (pe_exv (SkE.pmk_own1 PySem.F.excBase_ValueError T.xp_NoProcess.1 T.g_NoProcess T.xp_NoProcess.2.1 (raises_own T.xp_NoProcess.2.2.1 T.xp_NoProcess.2.2.2) rfl (pv 0))) (pa_cons pe_int pa_nil))) (pa_cons (pe_tup (pa_cons (pe_exv (SkE.pmk_own1 PySem.F.excBase_ValueError T.xp_NoChannel.1 T.g_NoChannel T.xp_NoChannel.2.1 (raises_own T.xp_NoChannel.2.2.1 T.xp_NoChannel.2.2.2) rfl (pv 0))) (pa_cons pe_int pa_nil))) pa_nil)))))))
      (pss_cons (ps_expr (pe_bm PySem.F.plainAttrs_list PySem.F.slot_list_append PySem.F.type_list_append mt_append (pv 1) (pa_cons (pe_tup (pa_cons (pe_exv (SkE.pmk_own1 PySem.F.excBase_ValueError T.xp_NoMessage.1 T.g_NoMessage T.xp_NoMessage.2.1 (raises_own T.xp_NoMessage.2.2.1 T.xp_NoMessage.2.2.2) rfl (pv 0))) (pa_cons pe_int pa_nil))) pa_nil)))
      (pss_one (ps_ret (pe_cmpR (op_eqNil hr.units) (pe_lc (own := [("_law_e", 2), ("_law_place", 3)]) (g := (gTup K 2 (gCons (gName 2) (gCons (gName 3) gNil)))) rfl sc_l_plain_right.nd (pi_list (pv 1)) (blkOk_by (own := [("_law_e", 2), ("_law_place", 3)]) (N := n_l_plain_right) (sc := defScope s_l_plain_right) (by decide +kernel)) (fun _ _ _ _ _ => (pg_tup (by rfl) (pgs_cons (pg_name (i := 2) sc_l_plain_right.nd rfl (Or.inl rfl)) (pgs_cons (pg_name (i := 3) sc_l_plain_right.nd rfl (Or.inl rfl)) pgs_nil)))) (fun _ _ _ _ _ => (pts_one (pt_not (pt_val (pe_callC G_l_right (hr.mono (by decide)) T.g__law_right (pa_cons (pv 2) (pa_cons (pv 3) pa_nil))))))) (fun _ _ _ _ _ => (pv 3))) (pe_lst pa_nil) (nomark _))))))), ?_⟩
    have hk := T.kita
    have g : Grow No I H I H := Grow.refl sb
    have es : Paired (isEp K I) [] [] := .nil
    refine ⟨_, rfl, fun a0 ha0 => ?_⟩
    refine ⟨(by show 2 ≤ sizeLine; decide), fun t0 ht0 => ?_⟩
    obtain ⟨I1, gs, es⟩ := ep_plain (c := 0) (z := 0) g.sub es ha0 ht0
    generalize upd (upd H a0 (ExV (Value.ref (He.ga K "NoRow")) none a0)) t0 (.tup [.ref a0, .int 0]) = H1 at gs es ⊢
    have g := g.trans gs
    clear gs
    refine ⟨_, rfl, fun a1 ha1 => ?_⟩
    refine ⟨(by show 2 ≤ sizeLine; decide), fun t1 ht1 => ?_⟩
    obtain ⟨I2, gs, es⟩ := ep_plain (c := 1) (z := 1) g.sub es ha1 ht1
    generalize upd (upd H1 a1 (ExV (Value.ref (He.ga K "NoMoment")) none a1)) t1 (.tup [.ref a1, .int 1]) = H2 at gs es ⊢
    have g := g.trans gs
    clear gs
    refine ⟨_, rfl, fun a2 ha2 => ?_⟩
    refine ⟨(by show 2 ≤ sizeLine; decide), fun t2 ht2 => ?_⟩
    obtain ⟨I3, gs, es⟩ := ep_plain (c := 3) (z := 3) g.sub es ha2 ht2
    generalize upd (upd H2 a2 (ExV (Value.ref (He.ga K "NoTable")) none a2)) t2 (.tup [.ref a2, .int 3]) = H3 at gs es ⊢
    have g := g.trans gs
    clear gs
    refine ⟨_, rfl, fun a3 ha3 => ?_⟩
    refine ⟨(by show 2 ≤ sizeLine; decide), fun t3 ht3 => ?_⟩
    obtain ⟨I4, gs, es⟩ := ep_plain (c := 5) (z := 5) g.sub es ha3 ht3
    generalize upd (upd H3 a3 (ExV (Value.ref (He.ga K "NoPlan")) none a3)) t3 (.tup [.ref a3, .int 5]) = H4 at gs es ⊢
    have g := g.trans gs
    clear gs
    refine ⟨_, rfl, fun a4 ha4 => ?_⟩
    refine ⟨(by show 2 ≤ sizeLine; decide), fun t4 ht4 => ?_⟩
    obtain ⟨I5, gs, es⟩ := ep_plain (c := 6) (z := 6) g.sub es ha4 ht4
    generalize upd (upd H4 a4 (ExV (Value.ref (He.ga K "NoMirror")) none a4)) t4 (.tup [.ref a4, .int 6]) = H5 at gs es ⊢
    have g := g.trans gs
    clear gs
    refine ⟨(by show 5 ≤ sizeLine; decide), fun p1 hp1 => ?_⟩
    have gs : Grow No I5 H5 (upd I5 p1 (.lst [V.ref t0, V.ref t1, V.ref t2, V.ref t3, V.ref t4])) (upd H5 p1 (.lst [V.ref t0, V.ref t1, V.ref t2, V.ref t3, V.ref t4])) := Grow.new g.sub hp1
    have qp1 : upd I5 p1 (.lst [V.ref t0, V.ref t1, V.ref t2, V.ref t3, V.ref t4]) p1 = some (.lst [V.ref t0, V.ref t1, V.ref t2, V.ref t3, V.ref t4]) := upd_same
    have es := ep_up gs.view es
    generalize upd I5 p1 (.lst [V.ref t0, V.ref t1, V.ref t2, V.ref t3, V.ref t4]) = I6 at gs qp1 es
    generalize upd H5 p1 (.lst [V.ref t0, V.ref t1, V.ref t2, V.ref t3, V.ref t4]) = H6 at gs ⊢
    have g := g.trans gs
    clear gs
    refine ⟨_, rfl, _, rfl, fun a6 ha6 => ?_⟩
    refine ⟨(by show 2 ≤ sizeLine; decide), fun t6 ht6 => ?_⟩
    obtain ⟨I7, gs, es⟩ := ep_plain (c := 7) (z := 7) g.sub es ha6 ht6
    generalize upd (upd H6 a6 (ExV (Value.ref (He.ga K "NoFacts")) none a6)) t6 (.tup [.ref a6, .int 7]) = H7 at gs es ⊢
    have g := g.trans gs
    have qp1 := gs.view _ _ qp1
    clear gs
    refine ⟨_, rfl, fun a7 ha7 => ?_⟩
    refine ⟨(by show 2 ≤ sizeLine; decide), fun t7 ht7 => ?_⟩
    obtain ⟨I8, gs, es⟩ := ep_plain (c := 10) (z := 10) g.sub es ha7 ht7
    generalize upd (upd H7 a7 (ExV (Value.ref (He.ga K "NoNet")) none a7)) t7 (.tup [.ref a7, .int 10]) = H8 at gs es ⊢
    have g := g.trans gs
    have qp1 := gs.view _ _ qp1
    clear gs
    refine ⟨_, rfl, fun a8 ha8 => ?_⟩
    refine ⟨(by show 2 ≤ sizeLine; decide), fun t8 ht8 => ?_⟩
    obtain ⟨I9, gs, es⟩ := ep_plain (c := 11) (z := 11) g.sub es ha8 ht8
    generalize upd (upd H8 a8 (ExV (Value.ref (He.ga K "NoProcess")) none a8)) t8 (.tup [.ref a8, .int 11]) = H9 at gs es ⊢
    have g := g.trans gs
    have qp1 := gs.view _ _ qp1
    clear gs
    refine ⟨_, rfl, fun a9 ha9 => ?_⟩
    refine ⟨(by show 2 ≤ sizeLine; decide), fun t9 ht9 => ?_⟩
    obtain ⟨I10, gs, es⟩ := ep_plain (c := 12) (z := 12) g.sub es ha9 ht9
    generalize upd (upd H9 a9 (ExV (Value.ref (He.ga K "NoChannel")) none a9)) t9 (.tup [.ref a9, .int 12]) = H10 at gs es ⊢
    have g := g.trans gs
    have qp1 := gs.view _ _ qp1
    clear gs
    refine ⟨(by show 4 ≤ sizeLine; decide), fun p2 hp2 => ?_⟩
    have gs : Grow No I10 H10 (upd I10 p2 (.lst [V.ref t6, V.ref t7, V.ref t8, V.ref t9])) (upd H10 p2 (.lst [V.ref t6, V.ref t7, V.ref t8, V.ref t9])) := Grow.new g.sub hp2
    have qp2 : upd I10 p2 (.lst [V.ref t6, V.ref t7, V.ref t8, V.ref t9]) p2 = some (.lst [V.ref t6, V.ref t7, V.ref t8, V.ref t9]) := upd_same
    have es := ep_up gs.view es
    generalize upd I10 p2 (.lst [V.ref t6, V.ref t7, V.ref t8, V.ref t9]) = I11 at gs qp2 es
    generalize upd H10 p2 (.lst [V.ref t6, V.ref t7, V.ref t8, V.ref t9]) = H11 at gs ⊢
    have g := g.trans gs
    have qp1 := gs.view _ _ qp1
    clear gs
    refine ⟨p1, p2, _, _, rfl, rfl, g.sub _ _ qp1, g.sub _ _ qp2, (by show 9 ≤ sizeLine; decide), fun p3 hp3 => ?_⟩
    have o3 : Own No H p3 (.lst [V.ref t0, V.ref t1, V.ref t2, V.ref t3, V.ref t4, V.ref t6, V.ref t7, V.ref t8, V.ref t9]) I11 (upd H11 p3 (.lst [V.ref t0, V.ref t1, V.ref t2, V.ref t3, V.ref t4, V.ref t6, V.ref t7, V.ref t8, V.ref t9])) := Own.new g.sub (.inr g.live) (fun _ z => z.elim) hp3
    have gs : Grow No I11 H11 I11 (upd H11 p3 (.lst [V.ref t0, V.ref t1, V.ref t2, V.ref t3, V.ref t4, V.ref t6, V.ref t7, V.ref t8, V.ref t9])) := Grow.mine g.sub hp3
    have g := g.trans gs
    clear gs
    generalize hG : upd H11 p3 (.lst [V.ref t0, V.ref t1, V.ref t2, V.ref t3, V.ref t4, V.ref t6, V.ref t7, V.ref t8, V.ref t9]) = H12 at g o3
    rw [show upd H11 p3 (.lst ([V.ref t0, V.ref t1, V.ref t2, V.ref t3, V.ref t4] ++ [V.ref t6, V.ref t7, V.ref t8, V.ref t9])) = H12 from hG]
    clear hG
    refine ⟨_, rfl, .inl ⟨rfl, _, SqL.of o3.at_⟩, ?_⟩
    refine ⟨_, rfl, fun a12 ha12 => ?_⟩
    refine ⟨(by show 2 ≤ sizeLine; decide), fun t12 ht12 => ?_⟩
    obtain ⟨I13, gs, es⟩ := ep_plain (c := 13) (z := 13) g.sub es ha12 ht12
    generalize upd (upd H12 a12 (ExV (Value.ref (He.ga K "NoMessage")) none a12)) t12 (.tup [.ref a12, .int 13]) = H13 at gs es ⊢
    have o3 := o3.grow gs
    have g := g.trans gs
    clear gs
    refine ⟨p3, _, _, rfl, rfl, o3.at_, (by show 9 < sizeLine; decide), ?_⟩
    have g := g.put o3 (o' := .lst [V.ref t0, V.ref t1, V.ref t2, V.ref t3, V.ref t4, V.ref t6, V.ref t7, V.ref t8, V.ref t9, V.ref t12])
    have o3 := o3.put (o' := .lst [V.ref t0, V.ref t1, V.ref t2, V.ref t3, V.ref t4, V.ref t6, V.ref t7, V.ref t8, V.ref t9, V.ref t12])
    have g := g.give o3
    have es := ep_up (Same.up (o := .lst [V.ref t0, V.ref t1, V.ref t2, V.ref t3, V.ref t4, V.ref t6, V.ref t7, V.ref t8, V.ref t9, V.ref t12]) o3.ni) es
    have q3 : upd I13 p3 (.lst [V.ref t0, V.ref t1, V.ref t2, V.ref t3, V.ref t4, V.ref t6, V.ref t7, V.ref t8, V.ref t9, V.ref t12]) p3 = some (.lst [V.ref t0, V.ref t1, V.ref t2, V.ref t3, V.ref t4, V.ref t6, V.ref t7, V.ref t8, V.ref t9, V.ref t12]) := upd_same
    generalize upd I13 p3 (.lst [V.ref t0, V.ref t1, V.ref t2, V.ref t3, V.ref t4, V.ref t6, V.ref t7, V.ref t8, V.ref t9, V.ref t12]) = J at g es q3
    generalize hG : upd H13 p3 (.lst [V.ref t0, V.ref t1, V.ref t2, V.ref t3, V.ref t4, V.ref t6, V.ref t7, V.ref t8, V.ref t9, V.ref t12]) = G at g
    rw [show upd H13 p3 (.lst ([V.ref t0, V.ref t1, V.ref t2, V.ref t3, V.ref t4, V.ref t6, V.ref t7, V.ref t8, V.ref t9] ++ [V.ref t12])) = G from hG]
    clear hG o3
    have es : Paired (isEp K J) [V.ref t0, V.ref t1, V.ref t2, V.ref t3, V.ref t4, V.ref t6, V.ref t7, V.ref t8, V.ref t9, V.ref t12] [0, 1, 3, 5, 6, 7, 10, 11, 12, 13] := es
    have h16 : ∀ c ∈ [0, 1, 3, 5, 6, 7, 10, 11, 12, 13], c < 16 := by decide
    refine ⟨_, rfl, p3, rfl, ⟨_, SqL.of (g.sub _ _ q3)⟩, fun L hL => ?_⟩
    refine lc_pure (β := Int) (walk_list (K := K) (a := p3) (xs := [V.ref t0, V.ref t1, V.ref t2, V.ref t3, V.ref t4, V.ref t6, V.ref t7, V.ref t8, V.ref t9, V.ref t12])) ([0, 1, 3, 5, 6, 7, 10, 11, 12, 13] : List Nat) (fun _ => none) rfl g.sub hL (by show 10 ≤ 16777216; decide) (fun I' H' g' => SqL.of (g'.sub _ _ (g'.view _ _ q3))) ?_ ?_
    · rintro j c y I' H' H'' hj g' ⟨rfl, hy⟩ Kn Ky kn ky
      obtain ⟨v', hv', t, e, rfl, ht, hx⟩ := Nw.Paired.at es hj
      rw [hy] at hv'
      cases hv'
      refine ⟨t, _, rfl, SqT.of (g'.sub _ _ (g'.view _ _ ht)), rfl, _, _, rfl, _, _, rfl, rfl, rfl, ?_⟩
      exact ⟨_, rfl, _, rfl, I', e, c, rfl, hx.up g'.view, h16 c (List.mem_of_getElem? hj), g'.sub, fun I2 H2 g2 => ⟨_, rfl, iteF (kn rfl I2 H2 g2)⟩⟩
    intro J2 G2 vs2 g2 ow2 hp2
    rw [show ([0, 1, 3, 5, 6, 7, 10, 11, 12, 13] : List Nat).filterMap (fun _ => (none : Option Int)) = [] from rfl] at hp2
    cases hp2
    refine ⟨(by show 0 ≤ sizeLine; decide), fun p9 hp9 => ?_⟩
    have n9 : L ≠ p9 := fun z => by rw [← z, ow2.at_] at hp9; cases hp9
    refine ⟨L, p9, [], rfl, rfl, SqL.of (by rw [upd_ne n9]; exact ow2.at_), SqL.of upd_same, ?_⟩
    exact k _ _ (g.trans (g2.trans (Grow.mine g2.sub hp9)))
theorem ok_l_fields_right (T : Txt K mg) (F : FnAt K "_law_fields_right" "_law_fields_right" s_l_fields_right (He.ga K "_law_fields_right")) (G_l_right : Ok P w K mg base CX0 2 (He.ga K "_law_right") ["_law_e", "_law_spot"] (sp_l_right K)) (F_NoRides__init : FnAt K "__init__" "NoRides.__init__" s_NoRides__init (He.ma K (He.ga K "NoRides") "__init__")) (G_NoRides__init : Ok P w K mg base CX0 1 (He.ma K (He.ga K "NoRides") "__init__") ["self", "at"] (sp_NoRides__init K)) (F_NoLink__init : FnAt K "__init__" "NoLink.__init__" s_NoLink__init (He.ma K (He.ga K "NoLink") "__init__")) (G_NoLink__init : Ok P w K mg base CX0 1 (He.ma K (He.ga K "NoLink") "__init__") ["self", "letter"] (sp_NoLink__init K)) (F_NoSeen__init : FnAt K "__init__" "NoSeen.__init__" s_NoSeen__init (He.ma K (He.ga K "NoSeen") "__init__")) (G_NoSeen__init : Ok P w K mg base CX0 1 (He.ma K (He.ga K "NoSeen") "__init__") ["self", "at"] (sp_NoSeen__init K)) (F_Clash__init : FnAt K "__init__" "Clash.__init__" s_Clash__init (He.ma K (He.ga K "Clash") "__init__")) (G_Clash__init : Ok P w K mg base CX0 1 (He.ma K (He.ga K "Clash") "__init__") ["self", "first", "second"] (sp_Clash__init K)) (F_NoText__init : FnAt K "__init__" "NoText.__init__" s_NoText__init (He.ma K (He.ga K "NoText") "__init__")) (G_NoText__init : Ok P w K mg base CX0 1 (He.ma K (He.ga K "NoText") "__init__") ["self", "line"] (sp_NoText__init K)) (F_TooMany__init : FnAt K "__init__" "TooMany.__init__" s_TooMany__init (He.ma K (He.ga K "TooMany") "__init__")) (G_TooMany__init : Ok P w K mg base CX0 1 (He.ma K (He.ga K "TooMany") "__init__") ["self", "most"] (sp_TooMany__init K)) : OkG P w K mg base CX0 3 (He.ga K "_law_fields_right") ["_law_worth", "_law_more"] (sp_l_fields_right K) := by
  refine okg_of F sc_l_fields_right (fun _ _ _ _ _ _ us hl => match us, hl with | [_, _], _ => rfl) (fun vs H Q E h => ?_) (fun cdv A outer s H vs Q E hr hgd h => ?_)
  · obtain ⟨_, _, _, rfl, _⟩ := h
    rfl
  · obtain ⟨I, v, m, rfl, hv, hm, sb, k⟩ := h
    obtain ⟨tv, uv, rv1, rv2, rv3⟩ := good_reads hv
    obtain ⟨tm, um, rm1, rm2, rm3⟩ := good_reads hm
    have rn : ∀ {σ : L2.St} {H : Hp} {Q : VK}, Same I H → Q (.str tv) H → tNil σ H fun ys H2 => rReprY K (v :: ys) H2 Q := fun e q => rv1 _ _ e q
    have rnL : ∀ {σ : L2.St} {H : Hp} {Q : VK} {l : Addr}, Same I H → l ≠ sysModules → H l = some (.lst [m, m]) → Q (.str um) H → tNil σ H fun ys H2 => rReprL K (V.ref l :: ys) H2 Q := fun e hne hl q => rm3 _ _ _ e hne hl q
    refine ⟨_, (pss_cons (ps_set (i := 2) sc_l_fields_right.nd rfl (Or.inl rfl) (pe_lst (pa_cons (pe_tup (pa_cons (pe_exv (pmk_oexC T.xo_NoRides T.m_NoRides___init__ G_NoRides__init (hr.mono (by decide)) T.g_NoRides (pa_cons (pv 0) pa_nil))) (pa_cons pe_int pa_nil))) (pa_cons (pe_tup (pa_cons (pe_exv (pmk_oexC T.xo_NoLink T.m_NoLink___init__ G_NoLink__init (hr.mono (by decide)) T.g_NoLink (pa_cons (pv 0) pa_nil))) (pa_cons pe_int pa_nil))) (pa_cons (pe_tup (pa_cons (pe_exv (pmk_oexC T.xo_NoSeen T.m_NoSeen___init__ G_NoSeen__init (hr.mono (by decide)) T.g_NoSeen (pa_cons (pv 0) pa_nil))) (pa_cons pe_int pa_nil))) (pa_cons (pe_tup (pa_cons (pe_exv (pmk_oexC T.xo_Clash T.m_Clash___init__ G_Clash__init (hr.mono (by decide)) T.g_Clash (pa_cons (pv 0) (pa_cons (pv 1) pa_nil)))) (pa_cons pe_int pa_nil))) (pa_cons (pe_tup (pa_cons (pe_exv (pmk_oexC T.xo_NoText T.m_NoText___init__ G_NoText__init (hr.mono (by decide)) T.g_NoText (pa_cons (pv 0) pa_nil))) (pa_cons pe_int pa_nil))) pa_nil)))))))
      (pss_cons (ps_set (i := 2) sc_l_fields_right.nd rfl (Or.inl rfl) (pe_op op_cat (pv 2) (pe_lst (pa_cons (pe_tup (pa_cons (pe_exv (pmk_oexC T.xo_TooMany T.m_TooMany___init__ G_TooMany__init (hr.mono (by decide)) T.g_TooMany (pa_cons (pv 0) pa_nil))) (pa_cons pe_int pa_nil))) (pa_cons (pe_tup (pa_cons (pe_exv (pmk_oexKC (ks := ["at"]) T.xo_NoRides T.m_NoRides___init__ F_NoRides__init G_NoRides__init (hr.mono (by decide)) T.g_NoRides (pk_cons (pv 0) pk_nil) (fun _ _ _ _ _ _ us ws hu hw => match us, ws, hu, hw with | [_], [_], _, _ => rfl))) (pa_cons pe_int pa_nil))) (pa_cons (pe_tup (pa_cons (pe_exv (pmk_oexKC (ks := ["letter"]) T.xo_NoLink T.m_NoLink___init__ F_NoLink__init G_NoLink__init (hr.mono (by decide)) T.g_NoLink (pk_cons (pv 0) pk_nil) (fun _ _ _ _ _ _ us ws hu hw => match us, ws, hu, hw with | [_], [_], _, _ => rfl))) (pa_cons pe_int pa_nil))) (pa_cons (pe_tup (pa_cons (pe_exv (pmk_oexKC (ks := ["at"]) T.xo_NoSeen T.m_NoSeen___init__ F_NoSeen__init G_NoSeen__init (hr.mono (by decide)) T.g_NoSeen (pk_cons (pv 0) pk_nil) (fun _ _ _ _ _ _ us ws hu hw => match us, ws, hu, hw with | [_], [_], _, _ => rfl))) (pa_cons pe_int pa_nil))) pa_nil)))))))
      (pss_cons (ps_set (i := 2) sc_l_fields_right.nd rfl (Or.inl rfl) (pe_op op_cat (pv 2) (pe_lst (pa_cons (pe_tup (pa_cons (pe_exv (pmk_oexKC (ks := ["second", "first"]) T.xo_Clash T.m_Clash___init__ F_Clash__init G_Clash__init (hr.mono (by decide)) T.g_Clash (pk_cons (pv 1) (pk_cons (pv 0) pk_nil)) (fun _ _ _ _ _ _ us ws hu hw => match us, ws, hu, hw with | [_], [_, _], _, _ => rfl))) (pa_cons pe_int pa_nil))) (pa_cons (pe_tup (pa_cons (pe_exv (pmk_oexKC (ks := ["line"]) T.xo_NoText T.m_NoText___init__ F_NoText__init G_NoText__init (hr.mono (by decide)) T.g_NoText (pk_cons (pv 0) pk_nil) (fun _ _ _ _ _ _ us ws hu hw => match us, ws, hu, hw with | [_], [_], _, _ => rfl))) (pa_cons pe_int pa_nil))) (pa_cons (pe_tup (pa_cons (pe_exv (pmk_oexKC (ks := ["most"]) T.xo_TooMany T.m_TooMany___init__ F_TooMany__init G_TooMany__init (hr.mono (by decide)) T.g_TooMany (pk_cons (pv 0) pk_nil) (fun _ _ _ _ _ _ us ws hu hw => match us, ws, hu, hw with | [_], [_], _, _ => rfl))) (pa_cons pe_int pa_nil))) pa_nil))))))
      (pss_cons (ps_if (pt_cmpR (op_neNil hr.units) (pe_lc (own := [("_law_e", 4), ("_law_place", 5)]) (g := (gTup K 2 (gCons (gName 4) (gCons (gName 5) gNil)))) rfl sc_l_fields_right.nd (pi_list (pv 2)) (blkOk_by (own := [("_law_e", 4), ("_law_place", 5)]) (N := n_l_fields_right) (sc := defScope s_l_fields_right) (by decide +kernel)) (fun _ _ _ _ _ => (pg_tup (by rfl) (pgs_cons (pg_name (i := 4) sc_l_fields_right.nd rfl (Or.inl rfl)) (pgs_cons (pg_name (i := 5) sc_l_fields_right.nd rfl (Or.inl rfl)) pgs_nil)))) (fun _ _ _ _ _ => (pts_one (pt_not (pt_val (pe_callC G_l_right (hr.mono (by decide)) T.g__law_right (pa_cons (pv 4) (pa_cons (pv 5) pa_nil))))))) (fun _ _ _ _ _ => (pv 5))) (pe_lst pa_nil) (nomark _)) (pss_one (ps_ret pe_bl)) pss_nil)
      (pss_cons (ps_set (i := 3) sc_l_fields_right.nd rfl (Or.inl rfl) (pe_lst (pa_cons (pe_exf (pe_exv (pmk_oexC T.xo_NoRides T.m_NoRides___init__ G_NoRides__init (hr.mono (by decide)) T.g_NoRides (pa_cons (pv 0) pa_nil)))) (pa_cons (pe_exf (pe_exv (pmk_oexC T.xo_NoLink T.m_NoLink___init__ G_NoLink__init (hr.mono (by decide)) T.g_NoLink (pa_cons (pv 0) pa_nil)))) (pa_cons (pe_exf (pe_exv (pmk_oexC T.xo_NoSeen T.m_NoSeen___init__ G_NoSeen__init (hr.mono (by decide)) T.g_NoSeen (pa_cons (pv 0) pa_nil)))) (pa_cons (pe_exf (pe_exv (pmk_oexC T.xo_Clash T.m_Clash___init__ G_Clash__init (hr.mono (by decide)) T.g_Clash (pa_cons (pv 0) (pa_cons (pv 1) pa_nil))))) (pa_cons (pe_exf (pe_exv (pmk_oexC T.xo_NoText T.m_NoText___init__ G_NoText__init (hr.mono (by decide)) T.g_NoText (pa_cons (pv 0) pa_nil)))) pa_nil)))))))
      (pss_cons (ps_set (i := 3) sc_l_fields_right.nd rfl (Or.inl rfl) (pe_op op_cat (pv 3) (pe_lst (pa_cons (pe_exf (pe_exv (pmk_oexC T.xo_TooMany T.m_TooMany___init__ G_TooMany__init (hr.mono (by decide)) T.g_TooMany (pa_cons (pv 0) pa_nil)))) (pa_cons (pe_exf (pe_exv (pmk_oexKC (ks := ["at"]) T.xo_NoRides T.m_NoRides___init__ F_NoRides__init G_NoRides__init (hr.mono (by decide)) T.g_NoRides (pk_cons (pv 0) pk_nil) (fun _ _ _ _ _ _ us ws hu hw => match us, ws, hu, hw with | [_], [_], _, _ => rfl)))) (pa_cons (pe_exf (pe_exv (pmk_oexKC (ks := ["letter"]) T.xo_NoLink T.m_NoLink___init__ F_NoLink__init G_NoLink__init (hr.mono (by decide)) T.g_NoLink (pk_cons (pv 0) pk_nil) (fun _ _ _ _ _ _ us ws hu hw => match us, ws, hu, hw with | [_], [_], _, _ => rfl)))) (pa_cons (pe_exf (pe_exv (pmk_oexKC (ks := ["at"]) T.xo_NoSeen T.m_NoSeen___init__ F_NoSeen__init G_NoSeen__init (hr.mono (by decide)) T.g_NoSeen (pk_cons (pv 0) pk_nil) (fun _ _ _ _ _ _ us ws hu hw => match us, ws, hu, hw with | [_], [_], _, _ => rfl)))) pa_nil)))))))
      (pss_cons (ps_set (i := 3) sc_l_fields_right.nd rfl (Or.inl rfl) (pe_op op_cat (pv 3) (pe_lst (pa_cons (pe_exf (pe_exv (pmk_oexKC (ks := ["second", "first"]) T.xo_Clash T.m_Clash___init__ F_Clash__init G_Clash__init (hr.mono (by decide)) T.g_Clash (pk_cons (pv 1) (pk_cons (pv 0) pk_nil)) (fun _ _ _ _ _ _ us ws hu hw => match us, ws, hu, hw with | [_], [_, _], _, _ => rfl)))) (pa_cons (pe_exf (pe_exv (pmk_oexKC (ks := ["line"]) T.xo_NoText T.m_NoText___init__ F_NoText__init G_NoText__init (hr.mono (by decide)) T.g_NoText (pk_cons (pv 0) pk_nil) (fun _ _ _ _ _ _ us ws hu hw => match us, ws, hu, hw with | [_], [_], _, _ => rfl)))) (pa_cons (pe_exf (pe_exv (pmk_oexKC (ks := ["most"]) T.xo_TooMany T.m_TooMany___init__ F_TooMany__init G_TooMany__init (hr.mono (by decide)) T.g_TooMany (pk_cons (pv 0) pk_nil) (fun _ _ _ _ _ _ us ws hu hw => match us, ws, hu, hw with | [_], [_], _, _ => rfl)))) pa_nil))))))
      (pss_cons (ps_if (pt_cmpR (op_neNil hr.units) (pe_lc (own := [("_law_one", 6)]) (g := (gName 6)) rfl sc_l_fields_right.nd (pi_list (pv 3)) (blkOk_by (own := [("_law_one", 6)]) (N := n_l_fields_right) (sc := defScope s_l_fields_right) (by decide +kernel)) (fun _ _ _ _ _ => (pg_name (i := 6) sc_l_fields_right.nd rfl (Or.inl rfl))) (fun _ _ _ _ _ => (pts_one (PW.pt (pw_or (pt_cmpR op_ne (pe_callB (call_reprY (K := K) rfl hgd (un70 hr)) (by rfl) T.b_repr (by decide +kernel) (pa_cons (pv 6) pa_nil)) (pe_callB (call_reprY (K := K) rfl hgd (un70 hr)) (by rfl) T.b_repr (by decide +kernel) (pa_cons (pv 0) pa_nil)) (nomark _)) (pw_or1 (pt_cmpR (op_neY (K := K) rfl hr.units) (pv 6) (pv 0) (nomark _))))))) (fun _ _ _ _ _ => (pv 6))) (pe_lst pa_nil) (nomark _)) (pss_one (ps_ret pe_bl)) pss_nil)
      (pss_one (ps_ret (pe_cmpR op_eq (pe_callB (call_reprL (K := K) rfl hgd (un70 hr)) (by rfl) T.b_repr (by decide +kernel) (pa_cons (pe_lstS (pa_cons (pe_exf (pe_exv (pmk_oexC T.xo_Clash T.m_Clash___init__ G_Clash__init (hr.mono (by decide)) T.g_Clash (pa_cons (pv 0) (pa_cons (pv 1) pa_nil))))) (pa_cons (pe_exf (pe_exv (pmk_oexKC (ks := ["second", "first"]) T.xo_Clash T.m_Clash___init__ F_Clash__init G_Clash__init (hr.mono (by decide)) T.g_Clash (pk_cons (pv 1) (pk_cons (pv 0) pk_nil)) (fun _ _ _ _ _ _ us ws hu hw => match us, ws, hu, hw with | [_], [_, _], _, _ => rfl)))) pa_nil))) pa_nil)) (pe_callB (call_reprL (K := K) rfl hgd (un70 hr)) (by rfl) T.b_repr (by decide +kernel) (pa_cons (pe_lstS (pa_cons (pv 1) (pa_cons (pv 1) pa_nil))) pa_nil)) (nomark _)))))))))))), ?_⟩
    have hk := T.kita
    have g : Grow No I H I H := Grow.refl sb
    have es : Paired (isEp K I) [] [] := .nil
    refine ⟨_, rfl, by simp, fun b0 hb0 => ⟨b0, v, rfl, upd_same, fun x0 hx0 ne0 => ⟨rfl, x0, _, upd_same, by rw [upd_ne ne0]; exact upd_same, ?_, ?_⟩⟩⟩
    · rw [upd_ne ne0] at hx0
      exact hx0
    rw [upd_ne ne0] at hx0
    rw [made_heap hb0 ne0]
    refine fun a0 ha0 => ?_
    refine ⟨(by show 2 ≤ sizeLine; decide), fun t0 ht0 => ?_⟩
    obtain ⟨I1, gs, es⟩ := ep_own (c := 2) (z := 2) g.sub es hx0 ha0 ht0
    generalize upd (upd (upd H x0 (.xd [("at", v)])) a0 (ExV (Value.ref (He.ga K "NoRides")) (some x0) a0)) t0 (.tup [.ref a0, .int 2]) = H1 at gs es ⊢
    have g := g.trans gs
    clear gs
    refine ⟨_, rfl, by simp, fun b1 hb1 => ⟨b1, v, rfl, upd_same, fun x1 hx1 ne1 => ⟨rfl, x1, _, upd_same, by rw [upd_ne ne1]; exact upd_same, ?_, ?_⟩⟩⟩
    · rw [upd_ne ne1] at hx1
      exact hx1
    rw [upd_ne ne1] at hx1
    rw [made_heap hb1 ne1]
    refine fun a1 ha1 => ?_
    refine ⟨(by show 2 ≤ sizeLine; decide), fun t1 ht1 => ?_⟩
    obtain ⟨I2, gs, es⟩ := ep_own (c := 4) (z := 4) g.sub es hx1 ha1 ht1
    generalize upd (upd (upd H1 x1 (.xd [("letter", v)])) a1 (ExV (Value.ref (He.ga K "NoLink")) (some x1) a1)) t1 (.tup [.ref a1, .int 4]) = H2 at gs es ⊢
    have g := g.trans gs
    clear gs
    refine ⟨_, rfl, by simp, fun b2 hb2 => ⟨b2, v, rfl, upd_same, fun x2 hx2 ne2 => ⟨rfl, x2, _, upd_same, by rw [upd_ne ne2]; exact upd_same, ?_, ?_⟩⟩⟩
    · rw [upd_ne ne2] at hx2
      exact hx2
    rw [upd_ne ne2] at hx2
    rw [made_heap hb2 ne2]
    refine fun a2 ha2 => ?_
    refine ⟨(by show 2 ≤ sizeLine; decide), fun t2 ht2 => ?_⟩
    obtain ⟨I3, gs, es⟩ := ep_own (c := 8) (z := 8) g.sub es hx2 ha2 ht2
    generalize upd (upd (upd H2 x2 (.xd [("at", v)])) a2 (ExV (Value.ref (He.ga K "NoSeen")) (some x2) a2)) t2 (.tup [.ref a2, .int 8]) = H3 at gs es ⊢
    have g := g.trans gs
    clear gs
    refine ⟨_, rfl, _, rfl, by simp, fun b3 hb3 => ⟨b3, v, m, rfl, upd_same, fun x3 hx3 ne3 => ⟨rfl, x3, _, upd_same, by rw [upd_ne ne3]; exact upd_same, ?_, ?_⟩⟩⟩
    · rw [upd_ne ne3] at hx3
      exact hx3
    rw [upd_ne ne3] at hx3
    rw [made_heap hb3 ne3]
    refine fun a3 ha3 => ?_
    refine ⟨(by show 2 ≤ sizeLine; decide), fun t3 ht3 => ?_⟩
    obtain ⟨I4, gs, es⟩ := ep_own (c := 9) (z := 9) g.sub es hx3 ha3 ht3
    generalize upd (upd (upd H3 x3 (.xd [("second", m), ("first", v)])) a3 (ExV (Value.ref (He.ga K "Clash")) (some x3) a3)) t3 (.tup [.ref a3, .int 9]) = H4 at gs es ⊢
    have g := g.trans gs
    clear gs
    refine ⟨_, rfl, by simp, fun b4 hb4 => ⟨b4, v, rfl, upd_same, fun x4 hx4 ne4 => ⟨rfl, x4, _, upd_same, by rw [upd_ne ne4]; exact upd_same, ?_, ?_⟩⟩⟩
    · rw [upd_ne ne4] at hx4
      exact hx4
    rw [upd_ne ne4] at hx4
    rw [made_heap hb4 ne4]
    refine fun a4 ha4 => ?_
    refine ⟨(by show 2 ≤ sizeLine; decide), fun t4 ht4 => ?_⟩
    obtain ⟨I5, gs, es⟩ := ep_own (c := 14) (z := 14) g.sub es hx4 ha4 ht4
    generalize upd (upd (upd H4 x4 (.xd [("line", v)])) a4 (ExV (Value.ref (He.ga K "NoText")) (some x4) a4)) t4 (.tup [.ref a4, .int 14]) = H5 at gs es ⊢
    have g := g.trans gs
    clear gs
    refine ⟨(by show 5 ≤ sizeLine; decide), fun p1 hp1 => ?_⟩
    have gs : Grow No I5 H5 (upd I5 p1 (.lst [V.ref t0, V.ref t1, V.ref t2, V.ref t3, V.ref t4])) (upd H5 p1 (.lst [V.ref t0, V.ref t1, V.ref t2, V.ref t3, V.ref t4])) := Grow.new g.sub hp1
    have qp1 : upd I5 p1 (.lst [V.ref t0, V.ref t1, V.ref t2, V.ref t3, V.ref t4]) p1 = some (.lst [V.ref t0, V.ref t1, V.ref t2, V.ref t3, V.ref t4]) := upd_same
    have es := ep_up gs.view es
    generalize upd I5 p1 (.lst [V.ref t0, V.ref t1, V.ref t2, V.ref t3, V.ref t4]) = I6 at gs qp1 es
    generalize upd H5 p1 (.lst [V.ref t0, V.ref t1, V.ref t2, V.ref t3, V.ref t4]) = H6 at gs ⊢
    have g := g.trans gs
    clear gs
    refine ⟨_, rfl, _, rfl, by simp, fun b6 hb6 => ⟨b6, v, rfl, upd_same, fun x6 hx6 ne6 => ⟨rfl, x6, _, upd_same, by rw [upd_ne ne6]; exact upd_same, ?_, ?_⟩⟩⟩
    · rw [upd_ne ne6] at hx6
      exact hx6
    rw [upd_ne ne6] at hx6
    rw [made_heap hb6 ne6]
    refine fun a6 ha6 => ?_
    refine ⟨(by show 2 ≤ sizeLine; decide), fun t6 ht6 => ?_⟩
    obtain ⟨I7, gs, es⟩ := ep_own (c := 15) (z := 15) g.sub es hx6 ha6 ht6
    generalize upd (upd (upd H6 x6 (.xd [("most", v)])) a6 (ExV (Value.ref (He.ga K "TooMany")) (some x6) a6)) t6 (.tup [.ref a6, .int 15]) = H7 at gs es ⊢
    have g := g.trans gs
    have qp1 := gs.view _ _ qp1
    clear gs
    refine ⟨_, rfl, rfl, fun b7 hb7 => ⟨b7, v, rfl, upd_same, fun x7 hx7 ne7 => ⟨rfl, x7, _, upd_same, by rw [upd_ne ne7]; exact upd_same, ?_, ?_⟩⟩⟩
    · rw [upd_ne ne7] at hx7
      exact hx7
    rw [upd_ne ne7] at hx7
    rw [made_heap hb7 ne7]
    refine fun a7 ha7 => ?_
    refine ⟨(by show 2 ≤ sizeLine; decide), fun t7 ht7 => ?_⟩
    obtain ⟨I8, gs, es⟩ := ep_own (c := 2) (z := 2) g.sub es hx7 ha7 ht7
    generalize upd (upd (upd H7 x7 (.xd [("at", v)])) a7 (ExV (Value.ref (He.ga K "NoRides")) (some x7) a7)) t7 (.tup [.ref a7, .int 2]) = H8 at gs es ⊢
    have g := g.trans gs
    have qp1 := gs.view _ _ qp1
    clear gs
    refine ⟨_, rfl, rfl, fun b8 hb8 => ⟨b8, v, rfl, upd_same, fun x8 hx8 ne8 => ⟨rfl, x8, _, upd_same, by rw [upd_ne ne8]; exact upd_same, ?_, ?_⟩⟩⟩
    · rw [upd_ne ne8] at hx8
      exact hx8
    rw [upd_ne ne8] at hx8
    rw [made_heap hb8 ne8]
    refine fun a8 ha8 => ?_
    refine ⟨(by show 2 ≤ sizeLine; decide), fun t8 ht8 => ?_⟩
    obtain ⟨I9, gs, es⟩ := ep_own (c := 4) (z := 4) g.sub es hx8 ha8 ht8
    generalize upd (upd (upd H8 x8 (.xd [("letter", v)])) a8 (ExV (Value.ref (He.ga K "NoLink")) (some x8) a8)) t8 (.tup [.ref a8, .int 4]) = H9 at gs es ⊢
    have g := g.trans gs
    have qp1 := gs.view _ _ qp1
    clear gs
    refine ⟨_, rfl, rfl, fun b9 hb9 => ⟨b9, v, rfl, upd_same, fun x9 hx9 ne9 => ⟨rfl, x9, _, upd_same, by rw [upd_ne ne9]; exact upd_same, ?_, ?_⟩⟩⟩
    · rw [upd_ne ne9] at hx9
      exact hx9
    rw [upd_ne ne9] at hx9
    rw [made_heap hb9 ne9]
    refine fun a9 ha9 => ?_
    refine ⟨(by show 2 ≤ sizeLine; decide), fun t9 ht9 => ?_⟩
    obtain ⟨I10, gs, es⟩ := ep_own (c := 8) (z := 8) g.sub es hx9 ha9 ht9
    generalize upd (upd (upd H9 x9 (.xd [("at", v)])) a9 (ExV (Value.ref (He.ga K "NoSeen")) (some x9) a9)) t9 (.tup [.ref a9, .int 8]) = H10 at gs es ⊢
    have g := g.trans gs
    have qp1 := gs.view _ _ qp1
    clear gs
    refine ⟨(by show 4 ≤ sizeLine; decide), fun p2 hp2 => ?_⟩
    have gs : Grow No I10 H10 (upd I10 p2 (.lst [V.ref t6, V.ref t7, V.ref t8, V.ref t9])) (upd H10 p2 (.lst [V.ref t6, V.ref t7, V.ref t8, V.ref t9])) := Grow.new g.sub hp2
    have qp2 : upd I10 p2 (.lst [V.ref t6, V.ref t7, V.ref t8, V.ref t9]) p2 = some (.lst [V.ref t6, V.ref t7, V.ref t8, V.ref t9]) := upd_same
    have es := ep_up gs.view es
    generalize upd I10 p2 (.lst [V.ref t6, V.ref t7, V.ref t8, V.ref t9]) = I11 at gs qp2 es
    generalize upd H10 p2 (.lst [V.ref t6, V.ref t7, V.ref t8, V.ref t9]) = H11 at gs ⊢
    have g := g.trans gs
    have qp1 := gs.view _ _ qp1
    clear gs
    refine ⟨p1, p2, _, _, rfl, rfl, g.sub _ _ qp1, g.sub _ _ qp2, (by show 9 ≤ sizeLine; decide), fun p3 hp3 => ?_⟩
    have gs : Grow No I11 H11 (upd I11 p3 (.lst [V.ref t0, V.ref t1, V.ref t2, V.ref t3, V.ref t4, V.ref t6, V.ref t7, V.ref t8, V.ref t9])) (upd H11 p3 (.lst [V.ref t0, V.ref t1, V.ref t2, V.ref t3, V.ref t4, V.ref t6, V.ref t7, V.ref t8, V.ref t9])) := Grow.new g.sub hp3
    have qp3 : upd I11 p3 (.lst [V.ref t0, V.ref t1, V.ref t2, V.ref t3, V.ref t4, V.ref t6, V.ref t7, V.ref t8, V.ref t9]) p3 = some (.lst [V.ref t0, V.ref t1, V.ref t2, V.ref t3, V.ref t4, V.ref t6, V.ref t7, V.ref t8, V.ref t9]) := upd_same
    have es := ep_up gs.view es
    generalize upd I11 p3 (.lst [V.ref t0, V.ref t1, V.ref t2, V.ref t3, V.ref t4, V.ref t6, V.ref t7, V.ref t8, V.ref t9]) = I12 at gs qp3 es
    generalize hG : upd H11 p3 (.lst [V.ref t0, V.ref t1, V.ref t2, V.ref t3, V.ref t4, V.ref t6, V.ref t7, V.ref t8, V.ref t9]) = H12 at gs
    rw [show upd H11 p3 (.lst ([V.ref t0, V.ref t1, V.ref t2, V.ref t3, V.ref t4] ++ [V.ref t6, V.ref t7, V.ref t8, V.ref t9])) = H12 from hG]
    clear hG
    have g := g.trans gs
    clear gs
    refine ⟨_, rfl, _, rfl, _, rfl, rfl, fun b12 hb12 => ⟨b12, v, m, rfl, upd_same, fun x12 hx12 ne12 => ⟨rfl, x12, _, upd_same, by rw [upd_ne ne12]; exact upd_same, ?_, ?_⟩⟩⟩
    · rw [upd_ne ne12] at hx12
      exact hx12
    rw [upd_ne ne12] at hx12
    rw [made_heap hb12 ne12]
    refine fun a12 ha12 => ?_
    refine ⟨(by show 2 ≤ sizeLine; decide), fun t12 ht12 => ?_⟩
    obtain ⟨I13, gs, es⟩ := ep_own (c := 9) (z := 9) g.sub es hx12 ha12 ht12
    generalize upd (upd (upd H12 x12 (.xd [("second", m), ("first", v)])) a12 (ExV (Value.ref (He.ga K "Clash")) (some x12) a12)) t12 (.tup [.ref a12, .int 9]) = H13 at gs es ⊢
    have g := g.trans gs
    have qp3 := gs.view _ _ qp3
    clear gs
    refine ⟨_, rfl, rfl, fun b13 hb13 => ⟨b13, v, rfl, upd_same, fun x13 hx13 ne13 => ⟨rfl, x13, _, upd_same, by rw [upd_ne ne13]; exact upd_same, ?_, ?_⟩⟩⟩
    · rw [upd_ne ne13] at hx13
      exact hx13
    rw [upd_ne ne13] at hx13
    rw [made_heap hb13 ne13]
    refine fun a13 ha13 => ?_
    refine ⟨(by show 2 ≤ sizeLine; decide), fun t13 ht13 => ?_⟩
    obtain ⟨I14, gs, es⟩ := ep_own (c := 14) (z := 14) g.sub es hx13 ha13 ht13
    generalize upd (upd (upd H13 x13 (.xd [("line", v)])) a13 (ExV (Value.ref (He.ga K "NoText")) (some x13) a13)) t13 (.tup [.ref a13, .int 14]) = H14 at gs es ⊢
    have g := g.trans gs
    have qp3 := gs.view _ _ qp3
    clear gs
    refine ⟨_, rfl, rfl, fun b14 hb14 => ⟨b14, v, rfl, upd_same, fun x14 hx14 ne14 => ⟨rfl, x14, _, upd_same, by rw [upd_ne ne14]; exact upd_same, ?_, ?_⟩⟩⟩
    · rw [upd_ne ne14] at hx14
      exact hx14
    rw [upd_ne ne14] at hx14
    rw [made_heap hb14 ne14]
    refine fun a14 ha14 => ?_
    refine ⟨(by show 2 ≤ sizeLine; decide), fun t14 ht14 => ?_⟩
    obtain ⟨I15, gs, es⟩ := ep_own (c := 15) (z := 15) g.sub es hx14 ha14 ht14
    generalize upd (upd (upd H14 x14 (.xd [("most", v)])) a14 (ExV (Value.ref (He.ga K "TooMany")) (some x14) a14)) t14 (.tup [.ref a14, .int 15]) = H15 at gs es ⊢
    have g := g.trans gs
    have qp3 := gs.view _ _ qp3
    clear gs
    refine ⟨(by show 3 ≤ sizeLine; decide), fun p4 hp4 => ?_⟩
    have gs : Grow No I15 H15 (upd I15 p4 (.lst [V.ref t12, V.ref t13, V.ref t14])) (upd H15 p4 (.lst [V.ref t12, V.ref t13, V.ref t14])) := Grow.new g.sub hp4
    have qp4 : upd I15 p4 (.lst [V.ref t12, V.ref t13, V.ref t14]) p4 = some (.lst [V.ref t12, V.ref t13, V.ref t14]) := upd_same
    have es := ep_up gs.view es
    generalize upd I15 p4 (.lst [V.ref t12, V.ref t13, V.ref t14]) = I16 at gs qp4 es
    generalize upd H15 p4 (.lst [V.ref t12, V.ref t13, V.ref t14]) = H16 at gs ⊢
    have g := g.trans gs
    have qp3 := gs.view _ _ qp3
    clear gs
    refine ⟨p3, p4, _, _, rfl, rfl, g.sub _ _ qp3, g.sub _ _ qp4, (by show 12 ≤ sizeLine; decide), fun p5 hp5 => ?_⟩
    have gs : Grow No I16 H16 (upd I16 p5 (.lst [V.ref t0, V.ref t1, V.ref t2, V.ref t3, V.ref t4, V.ref t6, V.ref t7, V.ref t8, V.ref t9, V.ref t12, V.ref t13, V.ref t14])) (upd H16 p5 (.lst [V.ref t0, V.ref t1, V.ref t2, V.ref t3, V.ref t4, V.ref t6, V.ref t7, V.ref t8, V.ref t9, V.ref t12, V.ref t13, V.ref t14])) := Grow.new g.sub hp5
    have qp5 : upd I16 p5 (.lst [V.ref t0, V.ref t1, V.ref t2, V.ref t3, V.ref t4, V.ref t6, V.ref t7, V.ref t8, V.ref t9, V.ref t12, V.ref t13, V.ref t14]) p5 = some (.lst [V.ref t0, V.ref t1, V.ref t2, V.ref t3, V.ref t4, V.ref t6, V.ref t7, V.ref t8, V.ref t9, V.ref t12, V.ref t13, V.ref t14]) := upd_same
    have es := ep_up gs.view es
    generalize upd I16 p5 (.lst [V.ref t0, V.ref t1, V.ref t2, V.ref t3, V.ref t4, V.ref t6, V.ref t7, V.ref t8, V.ref t9, V.ref t12, V.ref t13, V.ref t14]) = I17 at gs qp5 es
    generalize hG : upd H16 p5 (.lst [V.ref t0, V.ref t1, V.ref t2, V.ref t3, V.ref t4, V.ref t6, V.ref t7, V.ref t8, V.ref t9, V.ref t12, V.ref t13, V.ref t14]) = H17 at gs
    rw [show upd H16 p5 (.lst ([V.ref t0, V.ref t1, V.ref t2, V.ref t3, V.ref t4, V.ref t6, V.ref t7, V.ref t8, V.ref t9] ++ [V.ref t12, V.ref t13, V.ref t14])) = H17 from hG]
    clear hG
    have g := g.trans gs
    clear gs
    have q3 := qp5
    generalize I17 = J at g es q3
    generalize H17 = G at g
    have es : Paired (isEp K J) [V.ref t0, V.ref t1, V.ref t2, V.ref t3, V.ref t4, V.ref t6, V.ref t7, V.ref t8, V.ref t9, V.ref t12, V.ref t13, V.ref t14] [2, 4, 8, 9, 14, 15, 2, 4, 8, 9, 14, 15] := es
    have h16 : ∀ c ∈ [2, 4, 8, 9, 14, 15, 2, 4, 8, 9, 14, 15], c < 16 := by decide
    refine ⟨_, rfl, p5, rfl, ⟨_, SqL.of (g.sub _ _ q3)⟩, fun L hL => ?_⟩
    refine lc_pure (β := Int) (walk_list (K := K) (a := p5) (xs := [V.ref t0, V.ref t1, V.ref t2, V.ref t3, V.ref t4, V.ref t6, V.ref t7, V.ref t8, V.ref t9, V.ref t12, V.ref t13, V.ref t14])) ([2, 4, 8, 9, 14, 15, 2, 4, 8, 9, 14, 15] : List Nat) (fun _ => none) rfl g.sub hL (by show 12 ≤ 16777216; decide) (fun I' H' g' => SqL.of (g'.sub _ _ (g'.view _ _ q3))) ?_ ?_
    · rintro j c y I' H' H'' hj g' ⟨rfl, hy⟩ Kn Ky kn ky
      obtain ⟨v', hv', t, e, rfl, ht, hx⟩ := Nw.Paired.at es hj
      rw [hy] at hv'
      cases hv'
      refine ⟨t, _, rfl, SqT.of (g'.sub _ _ (g'.view _ _ ht)), rfl, _, _, rfl, _, _, rfl, rfl, rfl, ?_⟩
      exact ⟨_, rfl, _, rfl, I', e, c, rfl, hx.up g'.view, h16 c (List.mem_of_getElem? hj), g'.sub, fun I2 H2 g2 => ⟨_, rfl, iteF (kn rfl I2 H2 g2)⟩⟩
    intro J2 G2 vs2 g2 ow2 hp2
    rw [show ([2, 4, 8, 9, 14, 15, 2, 4, 8, 9, 14, 15] : List Nat).filterMap (fun _ => (none : Option Int)) = [] from rfl] at hp2
    cases hp2
    refine ⟨(by show 0 ≤ sizeLine; decide), fun p9 hp9 => ?_⟩
    have n9 : L ≠ p9 := fun z => by rw [← z, ow2.at_] at hp9; cases hp9
    refine ⟨L, p9, [], rfl, rfl, SqL.of (by rw [upd_ne n9]; exact ow2.at_), SqL.of upd_same, ?_⟩
    refine ⟨_, rfl, iteF ?_⟩
    have g := g.trans (g2.trans (Grow.mine (o := .lst []) g2.sub hp9))
    generalize upd G2 p9 (.lst []) = F0 at g ⊢
    clear ow2 hp9 g2 n9 es q3
    refine ⟨_, rfl, by simp, fun b100 hb100 => ⟨b100, v, rfl, upd_same, fun x100 hx100 ne100 => ⟨rfl, x100, _, upd_same, by rw [upd_ne ne100]; exact upd_same, ?_, ?_⟩⟩⟩
    · rw [upd_ne ne100] at hx100
      exact hx100
    rw [upd_ne ne100] at hx100
    rw [made_heap hb100 ne100]
    refine fun a100 ha100 => ?_
    refine ⟨a100, _, x100, _, v, rfl, upd_same, at_dx ha100, hk.f 2 (by decide), T.nf_NoRides_at, rfl, ?_⟩
    obtain ⟨I101, gs⟩ := ex_own g.sub hx100 ha100
    generalize (upd (upd F0 x100 (.xd [("at", v)])) a100 (ExV (Value.ref (He.ga K "NoRides")) (some x100) a100)) = H101 at gs ⊢
    have g := g.trans gs
    clear gs
    refine ⟨_, rfl, by simp, fun b101 hb101 => ⟨b101, v, rfl, upd_same, fun x101 hx101 ne101 => ⟨rfl, x101, _, upd_same, by rw [upd_ne ne101]; exact upd_same, ?_, ?_⟩⟩⟩
    · rw [upd_ne ne101] at hx101
      exact hx101
    rw [upd_ne ne101] at hx101
    rw [made_heap hb101 ne101]
    refine fun a101 ha101 => ?_
    refine ⟨a101, _, x101, _, v, rfl, upd_same, at_dx ha101, hk.f 4 (by decide), T.nf_NoLink_letter, rfl, ?_⟩
    obtain ⟨I102, gs⟩ := ex_own g.sub hx101 ha101
    generalize (upd (upd H101 x101 (.xd [("letter", v)])) a101 (ExV (Value.ref (He.ga K "NoLink")) (some x101) a101)) = H102 at gs ⊢
    have g := g.trans gs
    clear gs
    refine ⟨_, rfl, by simp, fun b102 hb102 => ⟨b102, v, rfl, upd_same, fun x102 hx102 ne102 => ⟨rfl, x102, _, upd_same, by rw [upd_ne ne102]; exact upd_same, ?_, ?_⟩⟩⟩
    · rw [upd_ne ne102] at hx102
      exact hx102
    rw [upd_ne ne102] at hx102
    rw [made_heap hb102 ne102]
    refine fun a102 ha102 => ?_
    refine ⟨a102, _, x102, _, v, rfl, upd_same, at_dx ha102, hk.f 8 (by decide), T.nf_NoSeen_at, rfl, ?_⟩
    obtain ⟨I103, gs⟩ := ex_own g.sub hx102 ha102
    generalize (upd (upd H102 x102 (.xd [("at", v)])) a102 (ExV (Value.ref (He.ga K "NoSeen")) (some x102) a102)) = H103 at gs ⊢
    have g := g.trans gs
    clear gs
    refine ⟨_, rfl, _, rfl, by simp, fun b103 hb103 => ⟨b103, v, m, rfl, upd_same, fun x103 hx103 ne103 => ⟨rfl, x103, _, upd_same, by rw [upd_ne ne103]; exact upd_same, ?_, ?_⟩⟩⟩
    · rw [upd_ne ne103] at hx103
      exact hx103
    rw [upd_ne ne103] at hx103
    rw [made_heap hb103 ne103]
    refine fun a103 ha103 => ?_
    refine ⟨a103, _, x103, _, v, rfl, upd_same, at_dx ha103, hk.f 9 (by decide), T.nf_Clash_first, rfl, ?_⟩
    obtain ⟨I104, gs⟩ := ex_own g.sub hx103 ha103
    generalize (upd (upd H103 x103 (.xd [("second", m), ("first", v)])) a103 (ExV (Value.ref (He.ga K "Clash")) (some x103) a103)) = H104 at gs ⊢
    have g := g.trans gs
    clear gs
    refine ⟨_, rfl, by simp, fun b104 hb104 => ⟨b104, v, rfl, upd_same, fun x104 hx104 ne104 => ⟨rfl, x104, _, upd_same, by rw [upd_ne ne104]; exact upd_same, ?_, ?_⟩⟩⟩
    · rw [upd_ne ne104] at hx104
      exact hx104
    rw [upd_ne ne104] at hx104
    rw [made_heap hb104 ne104]
    refine fun a104 ha104 => ?_
    refine ⟨a104, _, x104, _, v, rfl, upd_same, at_dx ha104, hk.f 14 (by decide), T.nf_NoText_line, rfl, ?_⟩
    obtain ⟨I105, gs⟩ := ex_own g.sub hx104 ha104
    generalize (upd (upd H104 x104 (.xd [("line", v)])) a104 (ExV (Value.ref (He.ga K "NoText")) (some x104) a104)) = H105 at gs ⊢
    have g := g.trans gs
    clear gs
    refine ⟨(by show 5 ≤ sizeLine; decide), fun r1 hr1 => ?_⟩
    have gs : Grow No I105 H105 (upd I105 r1 (.lst [v, v, v, v, v])) (upd H105 r1 (.lst [v, v, v, v, v])) := Grow.new g.sub hr1
    have qr1 : upd I105 r1 (.lst [v, v, v, v, v]) r1 = some (.lst [v, v, v, v, v]) := upd_same
    generalize upd I105 r1 (.lst [v, v, v, v, v]) = I106 at gs qr1
    generalize upd H105 r1 (.lst [v, v, v, v, v]) = H106 at gs ⊢
    have g := g.trans gs
    clear gs
    refine ⟨_, rfl, _, rfl, by simp, fun b106 hb106 => ⟨b106, v, rfl, upd_same, fun x106 hx106 ne106 => ⟨rfl, x106, _, upd_same, by rw [upd_ne ne106]; exact upd_same, ?_, ?_⟩⟩⟩
    · rw [upd_ne ne106] at hx106
      exact hx106
    rw [upd_ne ne106] at hx106
    rw [made_heap hb106 ne106]
    refine fun a106 ha106 => ?_
    refine ⟨a106, _, x106, _, v, rfl, upd_same, at_dx ha106, hk.f 15 (by decide), T.nf_TooMany_most, rfl, ?_⟩
    obtain ⟨I107, gs⟩ := ex_own g.sub hx106 ha106
    generalize (upd (upd H106 x106 (.xd [("most", v)])) a106 (ExV (Value.ref (He.ga K "TooMany")) (some x106) a106)) = H107 at gs ⊢
    have g := g.trans gs
    have qr1 := gs.view _ _ qr1
    clear gs
    refine ⟨_, rfl, rfl, fun b107 hb107 => ⟨b107, v, rfl, upd_same, fun x107 hx107 ne107 => ⟨rfl, x107, _, upd_same, by rw [upd_ne ne107]; exact upd_same, ?_, ?_⟩⟩⟩
    · rw [upd_ne ne107] at hx107
      exact hx107
    rw [upd_ne ne107] at hx107
    rw [made_heap hb107 ne107]
    refine fun a107 ha107 => ?_
    refine ⟨a107, _, x107, _, v, rfl, upd_same, at_dx ha107, hk.f 2 (by decide), T.nf_NoRides_at, rfl, ?_⟩
    obtain ⟨I108, gs⟩ := ex_own g.sub hx107 ha107
    generalize (upd (upd H107 x107 (.xd [("at", v)])) a107 (ExV (Value.ref (He.ga K "NoRides")) (some x107) a107)) = H108 at gs ⊢
    have g := g.trans gs
    have qr1 := gs.view _ _ qr1
    clear gs
    refine ⟨_, rfl, rfl, fun b108 hb108 => ⟨b108, v, rfl, upd_same, fun x108 hx108 ne108 => ⟨rfl, x108, _, upd_same, by rw [upd_ne ne108]; exact upd_same, ?_, ?_⟩⟩⟩
    · rw [upd_ne ne108] at hx108
      exact hx108
    rw [upd_ne ne108] at hx108
    rw [made_heap hb108 ne108]
    refine fun a108 ha108 => ?_
    refine ⟨a108, _, x108, _, v, rfl, upd_same, at_dx ha108, hk.f 4 (by decide), T.nf_NoLink_letter, rfl, ?_⟩
    obtain ⟨I109, gs⟩ := ex_own g.sub hx108 ha108
    generalize (upd (upd H108 x108 (.xd [("letter", v)])) a108 (ExV (Value.ref (He.ga K "NoLink")) (some x108) a108)) = H109 at gs ⊢
    have g := g.trans gs
    have qr1 := gs.view _ _ qr1
    clear gs
    refine ⟨_, rfl, rfl, fun b109 hb109 => ⟨b109, v, rfl, upd_same, fun x109 hx109 ne109 => ⟨rfl, x109, _, upd_same, by rw [upd_ne ne109]; exact upd_same, ?_, ?_⟩⟩⟩
    · rw [upd_ne ne109] at hx109
      exact hx109
    rw [upd_ne ne109] at hx109
    rw [made_heap hb109 ne109]
    refine fun a109 ha109 => ?_
    refine ⟨a109, _, x109, _, v, rfl, upd_same, at_dx ha109, hk.f 8 (by decide), T.nf_NoSeen_at, rfl, ?_⟩
    obtain ⟨I110, gs⟩ := ex_own g.sub hx109 ha109
    generalize (upd (upd H109 x109 (.xd [("at", v)])) a109 (ExV (Value.ref (He.ga K "NoSeen")) (some x109) a109)) = H110 at gs ⊢
    have g := g.trans gs
    have qr1 := gs.view _ _ qr1
    clear gs
    refine ⟨(by show 4 ≤ sizeLine; decide), fun r2 hr2 => ?_⟩
    have gs : Grow No I110 H110 (upd I110 r2 (.lst [v, v, v, v])) (upd H110 r2 (.lst [v, v, v, v])) := Grow.new g.sub hr2
    have qr2 : upd I110 r2 (.lst [v, v, v, v]) r2 = some (.lst [v, v, v, v]) := upd_same
    generalize upd I110 r2 (.lst [v, v, v, v]) = I111 at gs qr2
    generalize upd H110 r2 (.lst [v, v, v, v]) = H111 at gs ⊢
    have g := g.trans gs
    have qr1 := gs.view _ _ qr1
    clear gs
    refine ⟨r1, r2, _, _, rfl, rfl, g.sub _ _ qr1, g.sub _ _ qr2, (by show 9 ≤ sizeLine; decide), fun r3 hr3 => ?_⟩
    have gs : Grow No I111 H111 (upd I111 r3 (.lst [v, v, v, v, v, v, v, v, v])) (upd H111 r3 (.lst [v, v, v, v, v, v, v, v, v])) := Grow.new g.sub hr3
    have qr3 : upd I111 r3 (.lst [v, v, v, v, v, v, v, v, v]) r3 = some (.lst [v, v, v, v, v, v, v, v, v]) := upd_same
    generalize upd I111 r3 (.lst [v, v, v, v, v, v, v, v, v]) = I112 at gs qr3
    generalize hG : upd H111 r3 (.lst [v, v, v, v, v, v, v, v, v]) = H112 at gs
    rw [show upd H111 r3 (.lst ([v, v, v, v, v] ++ [v, v, v, v])) = H112 from hG]
    clear hG
    have g := g.trans gs
    clear gs
    refine ⟨_, rfl, _, rfl, _, rfl, rfl, fun b112 hb112 => ⟨b112, v, m, rfl, upd_same, fun x112 hx112 ne112 => ⟨rfl, x112, _, upd_same, by rw [upd_ne ne112]; exact upd_same, ?_, ?_⟩⟩⟩
    · rw [upd_ne ne112] at hx112
      exact hx112
    rw [upd_ne ne112] at hx112
    rw [made_heap hb112 ne112]
    refine fun a112 ha112 => ?_
    refine ⟨a112, _, x112, _, v, rfl, upd_same, at_dx ha112, hk.f 9 (by decide), T.nf_Clash_first, rfl, ?_⟩
    obtain ⟨I113, gs⟩ := ex_own g.sub hx112 ha112
    generalize (upd (upd H112 x112 (.xd [("second", m), ("first", v)])) a112 (ExV (Value.ref (He.ga K "Clash")) (some x112) a112)) = H113 at gs ⊢
    have g := g.trans gs
    have qr3 := gs.view _ _ qr3
    clear gs
    refine ⟨_, rfl, rfl, fun b113 hb113 => ⟨b113, v, rfl, upd_same, fun x113 hx113 ne113 => ⟨rfl, x113, _, upd_same, by rw [upd_ne ne113]; exact upd_same, ?_, ?_⟩⟩⟩
    · rw [upd_ne ne113] at hx113
      exact hx113
    rw [upd_ne ne113] at hx113
    rw [made_heap hb113 ne113]
    refine fun a113 ha113 => ?_
    refine ⟨a113, _, x113, _, v, rfl, upd_same, at_dx ha113, hk.f 14 (by decide), T.nf_NoText_line, rfl, ?_⟩
    obtain ⟨I114, gs⟩ := ex_own g.sub hx113 ha113
    generalize (upd (upd H113 x113 (.xd [("line", v)])) a113 (ExV (Value.ref (He.ga K "NoText")) (some x113) a113)) = H114 at gs ⊢
    have g := g.trans gs
    have qr3 := gs.view _ _ qr3
    clear gs
    refine ⟨_, rfl, rfl, fun b114 hb114 => ⟨b114, v, rfl, upd_same, fun x114 hx114 ne114 => ⟨rfl, x114, _, upd_same, by rw [upd_ne ne114]; exact upd_same, ?_, ?_⟩⟩⟩
    · rw [upd_ne ne114] at hx114
      exact hx114
    rw [upd_ne ne114] at hx114
    rw [made_heap hb114 ne114]
    refine fun a114 ha114 => ?_
    refine ⟨a114, _, x114, _, v, rfl, upd_same, at_dx ha114, hk.f 15 (by decide), T.nf_TooMany_most, rfl, ?_⟩
    obtain ⟨I115, gs⟩ := ex_own g.sub hx114 ha114
    generalize (upd (upd H114 x114 (.xd [("most", v)])) a114 (ExV (Value.ref (He.ga K "TooMany")) (some x114) a114)) = H115 at gs ⊢
    have g := g.trans gs
    have qr3 := gs.view _ _ qr3
    clear gs
    refine ⟨(by show 3 ≤ sizeLine; decide), fun r4 hr4 => ?_⟩
    have gs : Grow No I115 H115 (upd I115 r4 (.lst [v, v, v])) (upd H115 r4 (.lst [v, v, v])) := Grow.new g.sub hr4
    have qr4 : upd I115 r4 (.lst [v, v, v]) r4 = some (.lst [v, v, v]) := upd_same
    generalize upd I115 r4 (.lst [v, v, v]) = I116 at gs qr4
    generalize upd H115 r4 (.lst [v, v, v]) = H116 at gs ⊢
    have g := g.trans gs
    have qr3 := gs.view _ _ qr3
    clear gs
    refine ⟨r3, r4, _, _, rfl, rfl, g.sub _ _ qr3, g.sub _ _ qr4, (by show 12 ≤ sizeLine; decide), fun r5 hr5 => ?_⟩
    have gs : Grow No I116 H116 (upd I116 r5 (.lst [v, v, v, v, v, v, v, v, v, v, v, v])) (upd H116 r5 (.lst [v, v, v, v, v, v, v, v, v, v, v, v])) := Grow.new g.sub hr5
    have qr5 : upd I116 r5 (.lst [v, v, v, v, v, v, v, v, v, v, v, v]) r5 = some (.lst [v, v, v, v, v, v, v, v, v, v, v, v]) := upd_same
    generalize upd I116 r5 (.lst [v, v, v, v, v, v, v, v, v, v, v, v]) = I117 at gs qr5
    generalize hG : upd H116 r5 (.lst [v, v, v, v, v, v, v, v, v, v, v, v]) = H117 at gs
    rw [show upd H116 r5 (.lst ([v, v, v, v, v, v, v, v, v] ++ [v, v, v])) = H117 from hG]
    clear hG
    have g := g.trans gs
    clear gs
    generalize I117 = J at g qr5
    generalize H117 = G at g
    refine ⟨_, rfl, r5, rfl, ⟨_, SqL.of (g.sub _ _ qr5)⟩, fun L hL => ?_⟩
    refine lc_pure (β := V) (walk_list (K := K) (a := r5) (xs := [v, v, v, v, v, v, v, v, v, v, v, v])) ([v, v, v, v, v, v, v, v, v, v, v, v] : List V) (fun _ => none) rfl g.sub hL (by show 12 ≤ 16777216; decide) (fun I' H' g' => SqL.of (g'.sub _ _ (g'.view _ _ qr5))) ?_ ?_
    · rintro j c y I' H' H'' hj g' ⟨rfl, hy⟩ Kn Ky kn ky
      rw [hj] at hy
      cases hy
      have hcv : c = v := by
        have z := List.mem_of_getElem? hj
        simpa using z
      subst hcv
      have e := (g.trans g').view.trans g'.sub
      refine ⟨rfl, ?_⟩
      refine ⟨_, rfl, rn e ⟨_, rfl, rn e ⟨rfl, _, rfl, ?_⟩⟩⟩
      rw [decide_eq_true rfl]
      exact iteF ⟨_, rfl, _, rfl, rv2 _ _ e ⟨_, rfl, iteF (kn rfl _ _ (Grow.refl g'.sub))⟩⟩
    intro J2 G2 vs2 g2 ow2 hp2
    rw [show ([v, v, v, v, v, v, v, v, v, v, v, v] : List V).filterMap (fun _ => (none : Option V)) = [] from rfl] at hp2
    cases hp2
    refine ⟨(by show 0 ≤ sizeLine; decide), fun p9 hp9 => ?_⟩
    have n9 : L ≠ p9 := fun z => by rw [← z, ow2.at_] at hp9; cases hp9
    refine ⟨L, p9, [], rfl, rfl, SqL.of (by rw [upd_ne n9]; exact ow2.at_), SqL.of upd_same, _, rfl, iteF ?_⟩
    have g := g.trans (g2.trans (Grow.mine (o := .lst []) g2.sub hp9))
    generalize upd G2 p9 (.lst []) = F1 at g ⊢
    clear ow2 hp9 g2 n9 qr5
    refine ⟨_, rfl, _, rfl, by simp, fun b200 hb200 => ⟨b200, v, m, rfl, upd_same, fun x200 hx200 ne200 => ⟨rfl, x200, _, upd_same, by rw [upd_ne ne200]; exact upd_same, ?_, ?_⟩⟩⟩
    · rw [upd_ne ne200] at hx200
      exact hx200
    rw [upd_ne ne200] at hx200
    rw [made_heap hb200 ne200]
    refine fun a200 ha200 => ?_
    refine ⟨a200, _, x200, _, m, rfl, upd_same, at_dx ha200, hk.f 9 (by decide), T.nf_Clash_second, rfl, ?_⟩
    obtain ⟨I201, gs⟩ := ex_own g.sub hx200 ha200
    generalize (upd (upd F1 x200 (.xd [("second", m), ("first", v)])) a200 (ExV (Value.ref (He.ga K "Clash")) (some x200) a200)) = H201 at gs ⊢
    have g := g.trans gs
    clear gs
    refine ⟨_, rfl, _, rfl, rfl, fun b201 hb201 => ⟨b201, v, m, rfl, upd_same, fun x201 hx201 ne201 => ⟨rfl, x201, _, upd_same, by rw [upd_ne ne201]; exact upd_same, ?_, ?_⟩⟩⟩
    · rw [upd_ne ne201] at hx201
      exact hx201
    rw [upd_ne ne201] at hx201
    rw [made_heap hb201 ne201]
    refine fun a201 ha201 => ?_
    refine ⟨a201, _, x201, _, m, rfl, upd_same, at_dx ha201, hk.f 9 (by decide), T.nf_Clash_second, rfl, ?_⟩
    obtain ⟨I202, gs⟩ := ex_own g.sub hx201 ha201
    generalize (upd (upd H201 x201 (.xd [("second", m), ("first", v)])) a201 (ExV (Value.ref (He.ga K "Clash")) (some x201) a201)) = H202 at gs ⊢
    have g := g.trans gs
    clear gs
    refine ⟨(by show 2 ≤ sizeLine; decide), fun l1 hl1 ne1 => ?_⟩
    have g := g.trans (Grow.mine (o := .lst [m, m]) g.sub hl1)
    have ql : upd H202 l1 (.lst [m, m]) l1 = some (.lst [m, m]) := upd_same
    generalize upd H202 l1 (.lst [m, m]) = F2 at g ql ⊢
    refine rnL (g.view.trans g.sub) ne1 ql ⟨_, rfl, _, rfl, (by show 2 ≤ sizeLine; decide), fun l2 hl2 ne2 => ?_⟩
    have g := g.trans (Grow.mine (o := .lst [m, m]) g.sub hl2)
    have ql : upd F2 l2 (.lst [m, m]) l2 = some (.lst [m, m]) := upd_same
    generalize upd F2 l2 (.lst [m, m]) = F3 at g ql ⊢
    refine rnL (g.view.trans g.sub) ne2 ql ⟨rfl, ?_⟩
    rw [decide_eq_true rfl]
    exact k _ _ g
end
end Nw

namespace Nw
open PySem PySem.Spec PyProof.Rows L2
/-! ### the law -/
def sp_law (K : PySem.W.Frag) : Sp := fun vs H Q _ => ∃ (I : Hp) (a : Addr) (ns : List Int), vs = [.ref a] ∧ Same I H ∧ SqL K I a (ns.map V.int) ∧ ns.length ≤ 63 ∧ ∀ H', Q (.bl true) H'
def chk1 (d : PyData) : Bool := d.canLay0 && (d.showable && (decide (d.depth ≤ 64) && decide (rm d ≤ sizeLine)))
def chk (d : PyData) : Bool := SeqAt.shaped d && (chk1 d && chk1 (.list [d, d]))
theorem chk1_ok {d : PyData} (h : chk1 d = true) : Shows d := by
  unfold chk1 at h
  simp only [Bool.and_eq_true, decide_eq_true_eq] at h
  exact ⟨h.1, h.2.1, h.2.2.1, h.2.2.2⟩
theorem good_of {K : PySem.W.Frag} {I : Hp} {v : V} (d : PyData) (hd : Dp K I v d) (h : chk d = true) : goodV K I v := by
  unfold chk at h
  simp only [Bool.and_eq_true] at h
  have s := chk1_ok h.2.1
  exact .inl ⟨d, hd, h.1, s.lay, s, chk1_ok h.2.2⟩
section
variable {P : Program} {w : World} {K : PySem.W.Frag} {mg : Str → Option Value} {base : Heap}
theorem ok_law (T : Txt K mg) {fd : FuncData} (F : FunD K "law" "law" (defArgs s_law) (defBody s_law) (defScope s_law) [] [] (He.ga K "law") fd) (G_l_begun : Ok P w K mg base CX0 1 (He.ga K "_law_begun") ["_law_script"] (sp_l_begun K)) (G_l_next : Ok P w K mg base CX0 1 (He.ga K "_law_next") ["_law_draw", "_law_many"] (sp_l_next K)) (G_l_pick : Ok P w K mg base CX0 2 (He.ga K "_law_pick") ["_law_draw", "_law_some"] (sp_l_pick K)) (G_l_plain_right : Ok P w K mg base CX0 3 (He.ga K "_law_plain_right") ["_law_text"] (sp_l_plain_right K)) (G_l_fields_right : OkG P w K mg base CX0 3 (He.ga K "_law_fields_right") ["_law_worth", "_law_more"] (sp_l_fields_right K)) : FnG P w K mg base CX0 4 (He.ga K "law") fd ["_law_script"] (sp_law K) := by
  refine fng_of F sc_law (fun vs H Q E h => ?_) (fun cdv A outer s H vs Q E hr hgd h => ?_)
  · obtain ⟨_, _, _, rfl, _⟩ := h
    rfl
  · obtain ⟨I, a, ns, rfl, sb, hS, hl, k⟩ := h
    refine ⟨_, (pss_cons (ps_set (i := 1) sc_law.nd rfl (Or.inl rfl) (pe_callC G_l_begun (hr.mono (by decide)) T.g__law_begun (pa_cons (pv 0) pa_nil)))
      (pss_cons (ps_for PassesOwn.never rfl (pi_range1 rfl T.b_range (pa_cons pe_int pa_nil)) (pg_name (i := 2) sc_law.nd rfl (Or.inl rfl)) (pss_cons (ps_set (i := 3) sc_law.nd rfl (Or.inl rfl) (pe_lst (pa_cons pe_int (pa_cons pe_int (pa_cons (pe_un un_neg pe_int) (pa_cons (pe_op op_pow pe_int pe_int) (pa_cons pe_non (pa_cons pe_bl (pa_cons pe_str (pa_cons pe_str (pa_cons (pe_tup (pa_cons pe_int (pa_cons pe_str pa_nil))) (pa_cons (pe_lst (pa_cons pe_int (pa_cons pe_non pa_nil))) (pa_cons pe_dnewK (pa_cons pe_str pa_nil))))))))))))))
      (pss_cons (ps_if (pt_not (pt_val (pe_callG hgd G_l_fields_right (hr.mono (by decide)) T.g__law_fields_right (pa_cons (pe_callC G_l_pick (hr.mono (by decide)) T.g__law_pick (pa_cons (pv 1) (pa_cons (pv 3) pa_nil))) (pa_cons (pe_callC G_l_pick (hr.mono (by decide)) T.g__law_pick (pa_cons (pv 1) (pa_cons (pv 3) pa_nil))) pa_nil))))) (pss_one (ps_ret pe_bl)) pss_nil)
      (pss_one (ps_if (pt_not (pt_val (pe_callC G_l_plain_right (hr.mono (by decide)) T.g__law_plain_right (pa_cons (pe_callC G_l_pick (hr.mono (by decide)) T.g__law_pick (pa_cons (pv 1) (pa_cons (pe_lst (pa_cons pe_str (pa_cons pe_str (pa_cons pe_str (pa_cons pe_str pa_nil))))) pa_nil))) pa_nil)))) (pss_one (ps_ret pe_bl)) pss_nil)))))
      (pss_one (ps_ret pe_bl)))), ?_⟩
    refine ⟨_, rfl, I, a, ns, rfl, sb, hS, hl, fun D I1 H1 g1 d1 => ?_⟩
    have hlim : lim = 1099511627776 := rfl
    refine ⟨_, rfl, by decide, by decide, ?_⟩
    refine for_it (walk_range (lo := 0) (n := 3)) (fun i σ H' => ∃ (I' : Hp) (v2 v3 : Option V), σ = [some (.ref a), some (.ref D.d), v2, v3] ∧ Drw D (10 * i) I' H')
      ⟨I1, none, none, rfl, d1⟩ (fun _ _ _ _ _ => trivial) ?_ ?_
    · rintro i x σ Hz H2 hi ⟨I2, v2, v3, rfl, d2⟩ ⟨rfl, rfl⟩
      refine ⟨_, rfl, _, _, rfl, rfl, ⟨by decide, by decide, by decide⟩, ?_⟩
      refine ⟨(by show 2 ≤ sizeLine; decide), fun u1 hu1 => ?_⟩
      have g1 : Grow No I2 H2 (upd I2 u1 (.tup [.int 1, .str "a"])) (upd H2 u1 (.tup [.int 1, .str "a"])) := Grow.new d2.sub hu1
      have q1 : upd I2 u1 (.tup [.int 1, .str "a"]) u1 = some (.tup [.int 1, .str "a"]) := upd_same
      generalize upd I2 u1 (.tup [.int 1, .str "a"]) = J1 at g1 q1
      generalize upd H2 u1 (.tup [.int 1, .str "a"]) = G1 at g1 ⊢
      refine ⟨(by show 2 ≤ sizeLine; decide), fun u2 hu2 => ?_⟩
      have g2 : Grow No J1 G1 (upd J1 u2 (.lst [.int 2, .non])) (upd G1 u2 (.lst [.int 2, .non])) := Grow.new g1.sub hu2
      have q2 : upd J1 u2 (.lst [.int 2, .non]) u2 = some (.lst [.int 2, .non]) := upd_same
      have q1 := g2.view _ _ q1
      generalize upd J1 u2 (.lst [.int 2, .non]) = J2 at g2 q1 q2
      generalize upd G1 u2 (.lst [.int 2, .non]) = G2 at g2 ⊢
      refine fun u3 hu3 => ?_
      have g3 : Grow No J2 G2 (upd J2 u3 (.dK [])) (upd G2 u3 (.dK [])) := Grow.new g2.sub hu3
      have q3 : upd J2 u3 (.dK []) u3 = some (.dK []) := upd_same
      have q1 := g3.view _ _ q1
      have q2 := g3.view _ _ q2
      generalize upd J2 u3 (.dK []) = J3 at g3 q1 q2 q3
      generalize upd G2 u3 (.dK []) = G3 at g3 ⊢
      refine ⟨(by show 12 ≤ sizeLine; decide), fun q hq => ?_⟩
      have d3 := ((d2.grow g1).grow g2).grow g3
      have nq := d3.not hq
      have hgood : ∀ y ∈ [V.int 0, V.int 5, V.int (-1), V.int (10 ^ 30), V.non, V.bl true, V.str "", V.str "abA", V.ref u1, V.ref u2, V.ref u3, V.str "first"], goodV K J3 y := fun y hy => by
        simp only [List.mem_cons, List.not_mem_nil, or_false] at hy
        rcases hy with rfl | rfl | rfl | rfl | rfl | rfl | rfl | rfl | rfl | rfl | rfl | rfl
        · exact good_of _ (.int _) (by decide +kernel)
        · exact good_of _ (.int _) (by decide +kernel)
        · exact good_of _ (.int _) (by decide +kernel)
        · exact good_of _ (.int _) (by decide +kernel)
        · exact good_of _ .non (by decide +kernel)
        · exact good_of _ (.bl _) (by decide +kernel)
        · exact good_of _ (.str _) (by decide +kernel)
        · exact good_of _ (.str _) (by decide +kernel)
        · exact good_of (.tuple [.int 1, .str "a"]) (.tup (SqT.of q1) (.cons (.int _) (.cons (.str _) .nil))) (by decide +kernel)
        · exact good_of (.list [.int 2, .none]) (.lst (SqL.of q2) (.cons (.int _) (.cons .non .nil))) (by decide +kernel)
        · exact .inr ⟨_, rfl, q3⟩
        · exact good_of _ (.str _) (by decide +kernel)
      have g4 : Grow No J3 G3 (upd J3 q (.lst [V.int 0, V.int 5, V.int (-1), V.int (10 ^ 30), V.non, V.bl true, V.str "", V.str "abA", V.ref u1, V.ref u2, V.ref u3, V.str "first"])) (upd G3 q (.lst [V.int 0, V.int 5, V.int (-1), V.int (10 ^ 30), V.non, V.bl true, V.str "", V.str "abA", V.ref u1, V.ref u2, V.ref u3, V.str "first"])) := Grow.new d3.sub hq
      have q4 : upd J3 q (.lst [V.int 0, V.int 5, V.int (-1), V.int (10 ^ 30), V.non, V.bl true, V.str "", V.str "abA", V.ref u1, V.ref u2, V.ref u3, V.str "first"]) q = some (.lst [V.int 0, V.int 5, V.int (-1), V.int (10 ^ 30), V.non, V.bl true, V.str "", V.str "abA", V.ref u1, V.ref u2, V.ref u3, V.str "first"]) := upd_same
      have hgood := fun y hy => (hgood y hy).up g4.view
      generalize upd J3 q (.lst [V.int 0, V.int 5, V.int (-1), V.int (10 ^ 30), V.non, V.bl true, V.str "", V.str "abA", V.ref u1, V.ref u2, V.ref u3, V.str "first"]) = J4 at g4 q4 hgood
      generalize hG : upd G3 q (.lst [V.int 0, V.int 5, V.int (-1), V.int (10 ^ 30), V.non, V.bl true, V.str "", V.str "abA", V.ref u1, V.ref u2, V.ref u3, V.str "first"]) = G4 at g4
      have d4 := d3.grow g4
      generalize hG2 : upd G3 q (.lst [V.int 0, V.int 5, (fun i : Int => V.int (-i)) 1, (fun i j : Int => V.int (i ^ j.toNat)) 10 30, V.non, V.bl true, V.str "", V.str "abA", V.ref u1, V.ref u2, V.ref u3, V.str "first"]) = G5
      have e45 : G5 = G4 := hG2.symm.trans hG
      subst e45
      clear hG hG2 g1 g2 g3 g4 q1 q2 q3 hu1 hu2 hu3 d2 d3
      refine ⟨_, rfl, _, rfl, J4, D, _, _, rfl, d4, by omega, .inl ⟨q, _, rfl, nq, d4.sub _ _ q4, by simp, by simp, fun j y1 H5 hy1 g5 d5 => ?_⟩⟩
      refine ⟨_, rfl, _, rfl, J4, D, _, _, rfl, d5, by omega, .inl ⟨q, _, rfl, nq, d5.sub _ _ q4, by simp, by simp, fun j2 y2 H6 hy2 g6 d6 => ?_⟩⟩
      refine ⟨J4, y1, y2, rfl, hgood y1 (List.mem_of_getElem? hy1), hgood y2 (List.mem_of_getElem? hy2), d6.sub, fun I7 H7 g7 => ⟨_, rfl, iteF ?_⟩⟩
      have d7 := d6.grow g7
      refine ⟨_, rfl, (by show 4 ≤ sizeLine; decide), fun q8 hq8 => ?_⟩
      refine ⟨I7, D, _, _, rfl, d7.mine hq8, by omega, .inl ⟨q8, _, rfl, d7.not hq8, upd_same, by simp, by simp, fun j3 y3 H9 hy3 g9 d9 => ?_⟩⟩
      obtain ⟨z, rfl⟩ : ∃ z : Str, y3 = .str z := by
        have z := List.mem_of_getElem? hy3
        simp only [List.mem_cons, List.not_mem_nil, or_false] at z
        rcases z with rfl | rfl | rfl | rfl <;> exact ⟨_, rfl⟩
      exact ⟨I7, z, rfl, d9.sub, fun I10 H10 g10 => ⟨_, rfl, iteF ⟨I10, _, _, rfl, (d9.grow g10).mono (by omega)⟩⟩⟩
    · rintro σ H2 ⟨I2, v2, v3, rfl, d2⟩
      exact k _
end
end Nw
namespace Nw
open PySem PySem.Spec PyProof.Rows L2
def d_NoRides__init : He.DefD := ⟨("NoRides", some "__init__"), "__init__", "NoRides.__init__", defArgs s_NoRides__init, defBody s_NoRides__init, defScope s_NoRides__init, [], []⟩
def d_NoLink__init : He.DefD := ⟨("NoLink", some "__init__"), "__init__", "NoLink.__init__", defArgs s_NoLink__init, defBody s_NoLink__init, defScope s_NoLink__init, [], []⟩
def d_NoSeen__init : He.DefD := ⟨("NoSeen", some "__init__"), "__init__", "NoSeen.__init__", defArgs s_NoSeen__init, defBody s_NoSeen__init, defScope s_NoSeen__init, [], []⟩
def d_Clash__init : He.DefD := ⟨("Clash", some "__init__"), "__init__", "Clash.__init__", defArgs s_Clash__init, defBody s_Clash__init, defScope s_Clash__init, [], []⟩
def d_NoText__init : He.DefD := ⟨("NoText", some "__init__"), "__init__", "NoText.__init__", defArgs s_NoText__init, defBody s_NoText__init, defScope s_NoText__init, [], []⟩
def d_TooMany__init : He.DefD := ⟨("TooMany", some "__init__"), "__init__", "TooMany.__init__", defArgs s_TooMany__init, defBody s_TooMany__init, defScope s_TooMany__init, [], []⟩
def d_l_next : He.DefD := ⟨("_law_next", none), "_law_next", "_law_next", defArgs s_l_next, defBody s_l_next, defScope s_l_next, [], []⟩
def d_l_begun : He.DefD := ⟨("_law_begun", none), "_law_begun", "_law_begun", defArgs s_l_begun, defBody s_l_begun, defScope s_l_begun, [], []⟩
def d_l_pick : He.DefD := ⟨("_law_pick", none), "_law_pick", "_law_pick", defArgs s_l_pick, defBody s_l_pick, defScope s_l_pick, [], []⟩
def d_l_marks : He.DefD := ⟨("_law_marks", none), "_law_marks", "_law_marks", defArgs s_l_marks, defBody s_l_marks, defScope s_l_marks, [], []⟩
def d_l_right : He.DefD := ⟨("_law_right", none), "_law_right", "_law_right", defArgs s_l_right, defBody s_l_right, defScope s_l_right, [], []⟩
def d_l_plain_right : He.DefD := ⟨("_law_plain_right", none), "_law_plain_right", "_law_plain_right", defArgs s_l_plain_right, defBody s_l_plain_right, defScope s_l_plain_right, [], []⟩
def d_l_fields_right : He.DefD := ⟨("_law_fields_right", none), "_law_fields_right", "_law_fields_right", defArgs s_l_fields_right, defBody s_l_fields_right, defScope s_l_fields_right, [], []⟩
def d_law : He.DefD := ⟨("law", none), "law", "law", defArgs s_law, defBody s_law, defScope s_law, [], []⟩
def fn : List He.DefD := [d_NoRides__init, d_NoLink__init, d_NoSeen__init, d_Clash__init, d_NoText__init, d_TooMany__init, d_l_next, d_l_begun, d_l_pick, d_l_marks, d_l_right, d_l_plain_right, d_l_fields_right, d_law]
def gs : List GetD := []
def tf : List He.Defn := []
def fa : List He.Fa := [.free "abs", .free "int", .free "isinstance", .free "len", .free "range", .free "repr", .free "ValueError", .glo "_law_begun", .glo "_law_next", .glo "_law_pick", .glo "_law_marks", .glo "_law_right", .glo "_law_plain_right", .glo "_law_fields_right", .glo "law", .glo "OrderError", .glo "NoRow", .exc "NoRow", .glo "NoMoment", .exc "NoMoment", .glo "NoRides", .meth "NoRides" "__init__", .noat "NoRides" "at", .glo "NoTable", .exc "NoTable", .glo "NoLink", .meth "NoLink" "__init__", .noat "NoLink" "letter", .glo "NoPlan", .exc "NoPlan", .glo "NoMirror", .exc "NoMirror", .glo "NoFacts", .exc "NoFacts", .glo "NoSeen", .meth "NoSeen" "__init__", .noat "NoSeen" "at", .glo "Clash", .meth "Clash" "__init__", .noat "Clash" "first", .noat "Clash" "second", .glo "NoNet", .exc "NoNet", .glo "NoProcess", .exc "NoProcess", .glo "NoChannel", .exc "NoChannel", .glo "NoMessage", .exc "NoMessage", .glo "NoText", .meth "NoText" "__init__", .noat "NoText" "line", .glo "TooMany", .meth "TooMany" "__init__", .noat "TooMany" "most"]
def loose : List Str := (["OrderError", "NoRow", "NoMoment", "NoRides", "NoTable", "NoLink", "NoPlan", "NoMirror", "NoFacts", "NoSeen", "Clash", "NoNet", "NoProcess", "NoChannel", "NoMessage", "NoText", "TooMany", "_law_begun", "_law_next", "_law_pick", "_law_marks", "_law_right", "_law_plain_right", "_law_fields_right"] : List Str)
def ex (K : PySem.W.Frag) : Bool := (exfB K (He.ga K "NoRow") && (exfB K (He.ga K "NoMoment") && (exfB K (He.ga K "NoRides") && (exfB K (He.ga K "NoTable") && (exfB K (He.ga K "NoLink") && (exfB K (He.ga K "NoPlan") && (exfB K (He.ga K "NoMirror") && (exfB K (He.ga K "NoFacts") && (exfB K (He.ga K "NoSeen") && (exfB K (He.ga K "Clash") && (exfB K (He.ga K "NoNet") && (exfB K (He.ga K "NoProcess") && (exfB K (He.ga K "NoChannel") && (exfB K (He.ga K "NoMessage") && (exfB K (He.ga K "NoText") && (exfB K (He.ga K "TooMany") && (decide (PySem.W.findIn K (.ref (He.ga K "NoRides")) "at" = some none) && (decide (PySem.W.findIn K (.ref (He.ga K "NoLink")) "letter" = some none) && (decide (PySem.W.findIn K (.ref (He.ga K "NoSeen")) "at" = some none) && (decide (PySem.W.findIn K (.ref (He.ga K "Clash")) "first" = some none) && (decide (PySem.W.findIn K (.ref (He.ga K "Clash")) "second" = some none) && (decide (PySem.W.findIn K (.ref (He.ga K "NoText")) "line" = some none) && (decide (PySem.W.findIn K (.ref (He.ga K "TooMany")) "most" = some none) && (oexB K (He.ga K "NoRides") && (oexB K (He.ga K "NoLink") && (oexB K (He.ga K "NoSeen") && (oexB K (He.ga K "Clash") && (oexB K (He.ga K "NoText") && (oexB K (He.ga K "TooMany") && (oeiB K (He.ga K "OrderError") && kitAll K))))))))))))))))))))))))))))))
abbrev R : PySem.W.OpenRow := PySem.W.OpenLaw.row PySem.Challenge.rw_newsinorder_k14_errors_apart
abbrev hk : PySem.W.Hook := hookP 5 fa fn tf ex gs
def ob (s : PySem.W.SharedT) : AlP := obsP 5 fa fn tf ex gs (HandSHeadRun.getT s)
theorem ob_eq (s : PySem.W.SharedT) : ob s = hk.obs s.abs := obsP_eq (HandSHeadRun.getT_eq s)

theorem run (w : World) : HandSHeadRun.RunEq R (PySem.W.view R.prog [26]) hk ob 20000 loose w := by
  intro os
  kernel_rfl
theorem facts {P : Program} {w : World} {K : PySem.W.Frag} {h : Heap} {mg : Str → Option Value} {f : Addr} (X : K.In h) (G : h.Ns mainGlobals mg) (hfa : mg ("law" : Str) = some (.ref f)) (c : SaysP fa fn tf ex gs h K) :
    ∃ fd : FuncData, (∀ (s : Shared) (v : Value), BindsTo s fd ⟨[v], []⟩ [("_law_script", v)]) ∧ ∀ base : Heap, K.In base → base.Ns mainGlobals mg → FnG P w K mg base CX0 4 f fd ["_law_script"] (sp_law K) := by
  have cm := c.more
  unfold ex at cm
  rw [Bool.and_eq_true, Bool.and_eq_true, Bool.and_eq_true, Bool.and_eq_true, Bool.and_eq_true, Bool.and_eq_true, Bool.and_eq_true, Bool.and_eq_true, Bool.and_eq_true, Bool.and_eq_true, Bool.and_eq_true, Bool.and_eq_true, Bool.and_eq_true, Bool.and_eq_true, Bool.and_eq_true, Bool.and_eq_true, Bool.and_eq_true, Bool.and_eq_true, Bool.and_eq_true, Bool.and_eq_true, Bool.and_eq_true, Bool.and_eq_true, Bool.and_eq_true, Bool.and_eq_true, Bool.and_eq_true, Bool.and_eq_true, Bool.and_eq_true, Bool.and_eq_true, Bool.and_eq_true, Bool.and_eq_true] at cm
  obtain ⟨i_0, i_1, i_2, i_3, i_4, i_5, i_6, i_7, i_8, i_9, i_10, i_11, i_12, i_13, i_14, i_15, i_16, i_17, i_18, i_19, i_20, i_21, i_22, i_23, i_24, i_25, i_26, i_27, i_28, i_29, i_30⟩ := cm
  have x_0 : mg "abs" = none := He.free_ok X G (c.d.fact 0 (f := .free "abs") rfl)
  have x_1 : mg "int" = none := He.free_ok X G (c.d.fact 1 (f := .free "int") rfl)
  have x_2 : mg "isinstance" = none := He.free_ok X G (c.d.fact 2 (f := .free "isinstance") rfl)
  have x_3 : mg "len" = none := He.free_ok X G (c.d.fact 3 (f := .free "len") rfl)
  have x_4 : mg "range" = none := He.free_ok X G (c.d.fact 4 (f := .free "range") rfl)
  have x_5 : mg "repr" = none := He.free_ok X G (c.d.fact 5 (f := .free "repr") rfl)
  have x_6 : mg "ValueError" = none := He.free_ok X G (c.d.fact 6 (f := .free "ValueError") rfl)
  have x_7 : mg "_law_begun" = some (.ref (He.ga K "_law_begun")) := He.glo_ok X G (c.d.fact 7 (f := .glo "_law_begun") rfl)
  have x_8 : mg "_law_next" = some (.ref (He.ga K "_law_next")) := He.glo_ok X G (c.d.fact 8 (f := .glo "_law_next") rfl)
  have x_9 : mg "_law_pick" = some (.ref (He.ga K "_law_pick")) := He.glo_ok X G (c.d.fact 9 (f := .glo "_law_pick") rfl)
  have x_10 : mg "_law_marks" = some (.ref (He.ga K "_law_marks")) := He.glo_ok X G (c.d.fact 10 (f := .glo "_law_marks") rfl)
  have x_11 : mg "_law_right" = some (.ref (He.ga K "_law_right")) := He.glo_ok X G (c.d.fact 11 (f := .glo "_law_right") rfl)
  have x_12 : mg "_law_plain_right" = some (.ref (He.ga K "_law_plain_right")) := He.glo_ok X G (c.d.fact 12 (f := .glo "_law_plain_right") rfl)
  have x_13 : mg "_law_fields_right" = some (.ref (He.ga K "_law_fields_right")) := He.glo_ok X G (c.d.fact 13 (f := .glo "_law_fields_right") rfl)
  have x_14 : mg "law" = some (.ref (He.ga K "law")) := He.glo_ok X G (c.d.fact 14 (f := .glo "law") rfl)
  have x_15 : mg "OrderError" = some (.ref (He.ga K "OrderError")) := He.glo_ok X G (c.d.fact 15 (f := .glo "OrderError") rfl)
  have x_16 : mg "NoRow" = some (.ref (He.ga K "NoRow")) := He.glo_ok X G (c.d.fact 16 (f := .glo "NoRow") rfl)
  have x_17 : PySem.W.excIn K (He.ga K "NoRow") He.veBase "ValueError.__new__" = true ∧ PySem.W.keepIn K (.ref (He.ga K "NoRow")) = true ∧ PySem.W.subIn K (.ref (He.ga K "NoRow")) (.type "BaseException") = some true ∧ PySem.W.typeIn K (.ref (He.ga K "NoRow")) = some (.type "type") := He.exc_ok (c.d.fact 17 (f := .exc "NoRow") rfl)
  have x_18 : mg "NoMoment" = some (.ref (He.ga K "NoMoment")) := He.glo_ok X G (c.d.fact 18 (f := .glo "NoMoment") rfl)
  have x_19 : PySem.W.excIn K (He.ga K "NoMoment") He.veBase "ValueError.__new__" = true ∧ PySem.W.keepIn K (.ref (He.ga K "NoMoment")) = true ∧ PySem.W.subIn K (.ref (He.ga K "NoMoment")) (.type "BaseException") = some true ∧ PySem.W.typeIn K (.ref (He.ga K "NoMoment")) = some (.type "type") := He.exc_ok (c.d.fact 19 (f := .exc "NoMoment") rfl)
  have x_20 : mg "NoRides" = some (.ref (He.ga K "NoRides")) := He.glo_ok X G (c.d.fact 20 (f := .glo "NoRides") rfl)
  have x_21 : Meth K (He.ga K "NoRides") "__init__" (He.ma K (He.ga K "NoRides") "__init__") := He.meth_ok (c.d.fact 21 (f := .meth "NoRides" "__init__") rfl)
  have x_22 : NoAttr K (He.ga K "NoRides") "at" := He.noat_ok (c.d.fact 22 (f := .noat "NoRides" "at") rfl)
  have x_23 : mg "NoTable" = some (.ref (He.ga K "NoTable")) := He.glo_ok X G (c.d.fact 23 (f := .glo "NoTable") rfl)
  have x_24 : PySem.W.excIn K (He.ga K "NoTable") He.veBase "ValueError.__new__" = true ∧ PySem.W.keepIn K (.ref (He.ga K "NoTable")) = true ∧ PySem.W.subIn K (.ref (He.ga K "NoTable")) (.type "BaseException") = some true ∧ PySem.W.typeIn K (.ref (He.ga K "NoTable")) = some (.type "type") := He.exc_ok (c.d.fact 24 (f := .exc "NoTable") rfl)
  have x_25 : mg "NoLink" = some (.ref (He.ga K "NoLink")) := He.glo_ok X G (c.d.fact 25 (f := .glo "NoLink") rfl)
  have x_26 : Meth K (He.ga K "NoLink") "__init__" (He.ma K (He.ga K "NoLink") "__init__") := He.meth_ok (c.d.fact 26 (f := .meth "NoLink" "__init__") rfl)
  have x_27 : NoAttr K (He.ga K "NoLink") "letter" := He.noat_ok (c.d.fact 27 (f := .noat "NoLink" "letter") rfl)
  have x_28 : mg "NoPlan" = some (.ref (He.ga K "NoPlan")) := He.glo_ok X G (c.d.fact 28 (f := .glo "NoPlan") rfl)
  have x_29 : PySem.W.excIn K (He.ga K "NoPlan") He.veBase "ValueError.__new__" = true ∧ PySem.W.keepIn K (.ref (He.ga K "NoPlan")) = true ∧ PySem.W.subIn K (.ref (He.ga K "NoPlan")) (.type "BaseException") = some true ∧ PySem.W.typeIn K (.ref (He.ga K "NoPlan")) = some (.type "type") := He.exc_ok (c.d.fact 29 (f := .exc "NoPlan") rfl)
  have x_30 : mg "NoMirror" = some (.ref (He.ga K "NoMirror")) := He.glo_ok X G (c.d.fact 30 (f := .glo "NoMirror") rfl)
  have x_31 : PySem.W.excIn K (He.ga K "NoMirror") He.veBase "ValueError.__new__" = true ∧ PySem.W.keepIn K (.ref (He.ga K "NoMirror")) = true ∧ PySem.W.subIn K (.ref (He.ga K "NoMirror")) (.type "BaseException") = some true ∧ PySem.W.typeIn K (.ref (He.ga K "NoMirror")) = some (.type "type") := He.exc_ok (c.d.fact 31 (f := .exc "NoMirror") rfl)
  have x_32 : mg "NoFacts" = some (.ref (He.ga K "NoFacts")) := He.glo_ok X G (c.d.fact 32 (f := .glo "NoFacts") rfl)
  have x_33 : PySem.W.excIn K (He.ga K "NoFacts") He.veBase "ValueError.__new__" = true ∧ PySem.W.keepIn K (.ref (He.ga K "NoFacts")) = true ∧ PySem.W.subIn K (.ref (He.ga K "NoFacts")) (.type "BaseException") = some true ∧ PySem.W.typeIn K (.ref (He.ga K "NoFacts")) = some (.type "type") := He.exc_ok (c.d.fact 33 (f := .exc "NoFacts") rfl)
  have x_34 : mg "NoSeen" = some (.ref (He.ga K "NoSeen")) := He.glo_ok X G (c.d.fact 34 (f := .glo "NoSeen") rfl)
  have x_35 : Meth K (He.ga K "NoSeen") "__init__" (He.ma K (He.ga K "NoSeen") "__init__") := He.meth_ok (c.d.fact 35 (f := .meth "NoSeen" "__init__") rfl)
  have x_36 : NoAttr K (He.ga K "NoSeen") "at" := He.noat_ok (c.d.fact 36 (f := .noat "NoSeen" "at") rfl)
  have x_37 : mg "Clash" = some (.ref (He.ga K "Clash")) := He.glo_ok X G (c.d.fact 37 (f := .glo "Clash") rfl)
  have x_38 : Meth K (He.ga K "Clash") "__init__" (He.ma K (He.ga K "Clash") "__init__") := He.meth_ok (c.d.fact 38 (f := .meth "Clash" "__init__") rfl)
  have x_39 : NoAttr K (He.ga K "Clash") "first" := He.noat_ok (c.d.fact 39 (f := .noat "Clash" "first") rfl)
  have x_40 : NoAttr K (He.ga K "Clash") "second" := He.noat_ok (c.d.fact 40 (f := .noat "Clash" "second") rfl)
  have x_41 : mg "NoNet" = some (.ref (He.ga K "NoNet")) := He.glo_ok X G (c.d.fact 41 (f := .glo "NoNet") rfl)
  have x_42 : PySem.W.excIn K (He.ga K "NoNet") He.veBase "ValueError.__new__" = true ∧ PySem.W.keepIn K (.ref (He.ga K "NoNet")) = true ∧ PySem.W.subIn K (.ref (He.ga K "NoNet")) (.type "BaseException") = some true ∧ PySem.W.typeIn K (.ref (He.ga K "NoNet")) = some (.type "type") := He.exc_ok (c.d.fact 42 (f := .exc "NoNet") rfl)
  have x_43 : mg "NoProcess" = some (.ref (He.ga K "NoProcess")) := He.glo_ok X G (c.d.fact 43 (f := .glo "NoProcess") rfl)
  have x_44 : PySem.W.excIn K (He.ga K "NoProcess") He.veBase "ValueError.__new__" = true ∧ PySem.W.keepIn K (.ref (He.ga K "NoProcess")) = true ∧ PySem.W.subIn K (.ref (He.ga K "NoProcess")) (.type "BaseException") = some true ∧ PySem.W.typeIn K (.ref (He.ga K "NoProcess")) = some (.type "type") := He.exc_ok (c.d.fact 44 (f := .exc "NoProcess") rfl)
  have x_45 : mg "NoChannel" = some (.ref (He.ga K "NoChannel")) := He.glo_ok X G (c.d.fact 45 (f := .glo "NoChannel") rfl)
  have x_46 : PySem.W.excIn K (He.ga K "NoChannel") He.veBase "ValueError.__new__" = true ∧ PySem.W.keepIn K (.ref (He.ga K "NoChannel")) = true ∧ PySem.W.subIn K (.ref (He.ga K "NoChannel")) (.type "BaseException") = some true ∧ PySem.W.typeIn K (.ref (He.ga K "NoChannel")) = some (.type "type") := He.exc_ok (c.d.fact 46 (f := .exc "NoChannel") rfl)
  have x_47 : mg "NoMessage" = some (.ref (He.ga K "NoMessage")) := He.glo_ok X G (c.d.fact 47 (f := .glo "NoMessage") rfl)
  have x_48 : PySem.W.excIn K (He.ga K "NoMessage") He.veBase "ValueError.__new__" = true ∧ PySem.W.keepIn K (.ref (He.ga K "NoMessage")) = true ∧ PySem.W.subIn K (.ref (He.ga K "NoMessage")) (.type "BaseException") = some true ∧ PySem.W.typeIn K (.ref (He.ga K "NoMessage")) = some (.type "type") := He.exc_ok (c.d.fact 48 (f := .exc "NoMessage") rfl)
  have x_49 : mg "NoText" = some (.ref (He.ga K "NoText")) := He.glo_ok X G (c.d.fact 49 (f := .glo "NoText") rfl)
  have x_50 : Meth K (He.ga K "NoText") "__init__" (He.ma K (He.ga K "NoText") "__init__") := He.meth_ok (c.d.fact 50 (f := .meth "NoText" "__init__") rfl)
  have x_51 : NoAttr K (He.ga K "NoText") "line" := He.noat_ok (c.d.fact 51 (f := .noat "NoText" "line") rfl)
  have x_52 : mg "TooMany" = some (.ref (He.ga K "TooMany")) := He.glo_ok X G (c.d.fact 52 (f := .glo "TooMany") rfl)
  have x_53 : Meth K (He.ga K "TooMany") "__init__" (He.ma K (He.ga K "TooMany") "__init__") := He.meth_ok (c.d.fact 53 (f := .meth "TooMany" "__init__") rfl)
  have x_54 : NoAttr K (He.ga K "TooMany") "most" := He.noat_ok (c.d.fact 54 (f := .noat "TooMany" "most") rfl)
  have x_55 : ExF K (He.ga K "NoRow") := exfB_ok i_0
  have x_56 : ExF K (He.ga K "NoMoment") := exfB_ok i_1
  have x_57 : ExF K (He.ga K "NoRides") := exfB_ok i_2
  have x_58 : ExF K (He.ga K "NoTable") := exfB_ok i_3
  have x_59 : ExF K (He.ga K "NoLink") := exfB_ok i_4
  have x_60 : ExF K (He.ga K "NoPlan") := exfB_ok i_5
  have x_61 : ExF K (He.ga K "NoMirror") := exfB_ok i_6
  have x_62 : ExF K (He.ga K "NoFacts") := exfB_ok i_7
  have x_63 : ExF K (He.ga K "NoSeen") := exfB_ok i_8
  have x_64 : ExF K (He.ga K "Clash") := exfB_ok i_9
  have x_65 : ExF K (He.ga K "NoNet") := exfB_ok i_10
  have x_66 : ExF K (He.ga K "NoProcess") := exfB_ok i_11
  have x_67 : ExF K (He.ga K "NoChannel") := exfB_ok i_12
  have x_68 : ExF K (He.ga K "NoMessage") := exfB_ok i_13
  have x_69 : ExF K (He.ga K "NoText") := exfB_ok i_14
  have x_70 : ExF K (He.ga K "TooMany") := exfB_ok i_15
  have x_71 : PySem.W.findIn K (.ref (He.ga K "NoRides")) "at" = some none := of_decide_eq_true i_16
  have x_72 : PySem.W.findIn K (.ref (He.ga K "NoLink")) "letter" = some none := of_decide_eq_true i_17
  have x_73 : PySem.W.findIn K (.ref (He.ga K "NoSeen")) "at" = some none := of_decide_eq_true i_18
  have x_74 : PySem.W.findIn K (.ref (He.ga K "Clash")) "first" = some none := of_decide_eq_true i_19
  have x_75 : PySem.W.findIn K (.ref (He.ga K "Clash")) "second" = some none := of_decide_eq_true i_20
  have x_76 : PySem.W.findIn K (.ref (He.ga K "NoText")) "line" = some none := of_decide_eq_true i_21
  have x_77 : PySem.W.findIn K (.ref (He.ga K "TooMany")) "most" = some none := of_decide_eq_true i_22
  have x_78 : OexC K (He.ga K "NoRides") := oexB_ok i_23
  have x_79 : OexC K (He.ga K "NoLink") := oexB_ok i_24
  have x_80 : OexC K (He.ga K "NoSeen") := oexB_ok i_25
  have x_81 : OexC K (He.ga K "Clash") := oexB_ok i_26
  have x_82 : OexC K (He.ga K "NoText") := oexB_ok i_27
  have x_83 : OexC K (He.ga K "TooMany") := oexB_ok i_28
  have x_84 : OeI K (He.ga K "OrderError") := oeiB_ok i_29
  have x_85 : KitA K := kitAll_ok i_30
  have T : Txt K mg := ⟨x_0, x_1, x_2, x_3, x_4, x_5, x_6, x_7, x_8, x_9, x_10, x_11, x_12, x_13, x_14, x_15, x_16, x_17, x_18, x_19, x_20, x_21, x_22, x_23, x_24, x_25, x_26, x_27, x_28, x_29, x_30, x_31, x_32, x_33, x_34, x_35, x_36, x_37, x_38, x_39, x_40, x_41, x_42, x_43, x_44, x_45, x_46, x_47, x_48, x_49, x_50, x_51, x_52, x_53, x_54, x_55, x_56, x_57, x_58, x_59, x_60, x_61, x_62, x_63, x_64, x_65, x_66, x_67, x_68, x_69, x_70, x_71, x_72, x_73, x_74, x_75, x_76, x_77, x_78, x_79, x_80, x_81, x_82, x_83, x_84, x_85⟩
  have F_NoRides__init : FnAt K "__init__" "NoRides.__init__" s_NoRides__init (He.ma K (He.ga K "NoRides") "__init__") := c.d.def_ 0 (d := d_NoRides__init) rfl
  have F_NoLink__init : FnAt K "__init__" "NoLink.__init__" s_NoLink__init (He.ma K (He.ga K "NoLink") "__init__") := c.d.def_ 1 (d := d_NoLink__init) rfl
  have F_NoSeen__init : FnAt K "__init__" "NoSeen.__init__" s_NoSeen__init (He.ma K (He.ga K "NoSeen") "__init__") := c.d.def_ 2 (d := d_NoSeen__init) rfl
  have F_Clash__init : FnAt K "__init__" "Clash.__init__" s_Clash__init (He.ma K (He.ga K "Clash") "__init__") := c.d.def_ 3 (d := d_Clash__init) rfl
  have F_NoText__init : FnAt K "__init__" "NoText.__init__" s_NoText__init (He.ma K (He.ga K "NoText") "__init__") := c.d.def_ 4 (d := d_NoText__init) rfl
  have F_TooMany__init : FnAt K "__init__" "TooMany.__init__" s_TooMany__init (He.ma K (He.ga K "TooMany") "__init__") := c.d.def_ 5 (d := d_TooMany__init) rfl
  have F_l_next : FnAt K "_law_next" "_law_next" s_l_next (He.ga K "_law_next") := c.d.def_ 6 (d := d_l_next) rfl
  have F_l_begun : FnAt K "_law_begun" "_law_begun" s_l_begun (He.ga K "_law_begun") := c.d.def_ 7 (d := d_l_begun) rfl
  have F_l_pick : FnAt K "_law_pick" "_law_pick" s_l_pick (He.ga K "_law_pick") := c.d.def_ 8 (d := d_l_pick) rfl
  have F_l_marks : FnAt K "_law_marks" "_law_marks" s_l_marks (He.ga K "_law_marks") := c.d.def_ 9 (d := d_l_marks) rfl
  have F_l_right : FnAt K "_law_right" "_law_right" s_l_right (He.ga K "_law_right") := c.d.def_ 10 (d := d_l_right) rfl
  have F_l_plain_right : FnAt K "_law_plain_right" "_law_plain_right" s_l_plain_right (He.ga K "_law_plain_right") := c.d.def_ 11 (d := d_l_plain_right) rfl
  have F_l_fields_right : FnAt K "_law_fields_right" "_law_fields_right" s_l_fields_right (He.ga K "_law_fields_right") := c.d.def_ 12 (d := d_l_fields_right) rfl
  obtain ⟨fd, F⟩ := c.d.def_ 13 (d := d_law) rfl
  have e := hfa.symm.trans T.g_law
  cases e
  have b := FunD.bindsA (ps := ["_law_script"]) F fun _ _ _ _ _ _ us hl => match us, hl with | [_], _ => rfl
  refine ⟨fd, fun s v => b s [v] rfl, fun base _ _ => ?_⟩
  have O_NoRides__init := ok_NoRides__init (P := P) (w := w) (base := base) T F_NoRides__init 
  have O_NoLink__init := ok_NoLink__init (P := P) (w := w) (base := base) T F_NoLink__init 
  have O_NoSeen__init := ok_NoSeen__init (P := P) (w := w) (base := base) T F_NoSeen__init 
  have O_Clash__init := ok_Clash__init (P := P) (w := w) (base := base) T F_Clash__init 
  have O_NoText__init := ok_NoText__init (P := P) (w := w) (base := base) T F_NoText__init 
  have O_TooMany__init := ok_TooMany__init (P := P) (w := w) (base := base) T F_TooMany__init 
  have O_l_next := ok_l_next (P := P) (w := w) (base := base) T F_l_next 
  have O_l_begun := ok_l_begun (P := P) (w := w) (base := base) T F_l_begun 
  have O_l_pick := ok_l_pick (P := P) (w := w) (base := base) T F_l_pick O_l_next
  have O_l_marks := ok_l_marks (P := P) (w := w) (base := base) T F_l_marks 
  have O_l_right := ok_l_right (P := P) (w := w) (base := base) T F_l_right O_l_marks
  have O_l_plain_right := ok_l_plain_right (P := P) (w := w) (base := base) T F_l_plain_right O_l_right
  have O_l_fields_right := ok_l_fields_right (P := P) (w := w) (base := base) T F_l_fields_right O_l_right F_NoRides__init O_NoRides__init F_NoLink__init O_NoLink__init F_NoSeen__init O_NoSeen__init F_Clash__init O_Clash__init F_NoText__init O_NoText__init F_TooMany__init O_TooMany__init
  exact ok_law T F O_l_begun O_l_next O_l_pick O_l_plain_right O_l_fields_right
end Nw
open PySem PySem.W PySem.Calls PyProof.Rows
theorem PySem.Challenge.cw_newsinorder_k14_errors_apart_holds : PySem.Challenge.rw_newsinorder_k14_errors_apart.Holds := by
  w_on; o_law
  refine HandSHeadRun.head_any (r := OpenLaw.row PySem.Challenge.rw_newsinorder_k14_errors_apart) (q := view (OpenLaw.row PySem.Challenge.rw_newsinorder_k14_errors_apart).prog [26]) (H := Nw.hk) (ob := Nw.ob) (M := 20000) (loose := Nw.loose) (d := HandSHeadRun.topDef (OpenLaw.row PySem.Challenge.rw_newsinorder_k14_errors_apart).prog 26) (kwd := []) Nw.ob_eq
    (by kernel_rfl) (fun s => by kernel_rfl) Nw.run (by kernel_rfl) (by kernel_rfl) (by kernel_rfl) (by rfl) (by first | assumption | decide +kernel) (by decide +kernel) ⟨rfl, rfl, rfl, rfl, rfl, by decide +kernel⟩ ?hw ?hc
  case hw => w_witness2
  case hc =>
    refine Nw.walk_ofG (l := PySem.Challenge.rw_newsinorder_k14_errors_apart) (n := 63) (k := 4) (x := "_law_script") rfl (by decide) (by kernel_rfl) ⟨rfl, by decide, by decide⟩ ?F
    intro w mg fa h Y G hmg0
    obtain ⟨K, KX, c⟩ := Y
    have hmg : mg ("law" : PySem.Str) = some (.ref fa) := by
      have e : (HandSHeadRun.topDef (OpenLaw.row PySem.Challenge.rw_newsinorder_k14_errors_apart).prog 26).name = ("law" : PySem.Str) := by kernel_rfl
      rw [← e]
      exact hmg0
    obtain ⟨fd, hb, hF⟩ := Nw.facts (P := (PySem.Challenge.rw_newsinorder_k14_errors_apart).prog) (w := w) KX G hmg c
    exact ⟨K, fd, Nw.sp_law K, KX, hb, fun H a ns hl hS => ⟨H, a, ns, rfl, L2.Same.refl H, hS, hl, fun _ => rfl⟩, hF⟩